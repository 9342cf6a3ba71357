import PyProof.Rows.All
import Wide.All
import OpenK.AllK
import Wide.FinOn
import PyProof.EqAt
import PyProof.EqKinds
import PyProof.TupleCall
import HandS.Base
import HandS.Call
import HandS.List
import HandS.Comp
import HandS.Ends
import HandS.Dict
import HandS.Iter
import HandS.Text
import HandS.Words
import HandS.WordsList
import HandS.WordsExc
import HandS.Exc
import HandS.ExcOwn
import HandS.Wide
import HandS.IsInst
import HandS.TupAny
import HandS.TupMul
import HandS.Lambda
import HandS.EndTab
import HandS.HeadWalk
import HandS.HeadHook1
import HandS.HeadHook2
import HandS.Defaults
import HandS.NoneIn
import HandS.Style
import KE.KDictDisplayH
import HandS.HeadEnd
import HandS.Head0
import HandS.Head1
import HandS.Head2
import HandS.HeadHook3
import HandS.HeadHook4
import HandS.Replace
import HandS.ExcIs
import HandS.Flt
import HandS.More
import HandS.TryMany
import HandS.CallLocal
import HandS.Strs
import HandS.ReplaceLit
import HandS.ReplaceList
import HandS.Zip
import PyProof.ReprRoads
import HandS.Deep
import HandS.Small
import PyProof.DictUpdate
import KE.GoesMore
import KE.KItemsList
import HandS.DictTup
import KE.KDictZip
import HandS.ReplaceDef
import KE.GoesEnum
import HandS.Nested
import HandS.StrMore
import KE.KDictCopyH
import KE.KDictKeyed
import KE.KEqDict
import KE.SortData
import KE.KDictPairs
import KE.DataCmp
import KE.IntTextLaws
import PySem.Challenge.RW_pocketpile_k31_whole_programs_read
set_option Elab.async false
set_option linter.all false
set_option maxRecDepth 100000
set_option maxHeartbeats 4000000
/-! DN: a program's defs as plain functions of data. The heap is dealt with here, once. -/
namespace DN
open PySem PySem.Spec PyProof.Rows L2
open LamX (Tabs ExtN)

/-- data -/
inductive D where
  | non | bl (b : Bool) | int (i : Int) | str (x : Str) | lst (xs : List D) | tup (xs : List D) | fn (x : Str) | ty (n : String)
  | dK (kvs : List (Key × V)) | dT (kvs : List (List Key × V)) | arr (ns : List Int)
  /-- a tuple of texts that has no dict of its own -/
  | pro (xs : List Str)
  /-- a dict whose keys are nested tuples (an object of the frame's own) -/
  | dic (P : Program) (w : World) (ks vs : List D)
  /-- a thing known by its address alone -/
  | adr (a : Addr)
  /-- an instance of the class c, its attributes (an object of the frame's own) -/
  | ins (c : Str) (ns : List Str) (vs : List D)
  /-- a dict of text keys, frozen; where its address is known, that one -/
  | tab (o : Option Addr) (ks : List Str) (vs : List D)
  /-- a tuple of ints, made at run time -/
  | pw (ks : List Int)
  /-- a tuple that has no dict of its own -/
  | frm (ds : List D)
def kvK (ks : List Str) (vs : List V) : List (Key × V) := (ks.zip vs).map fun q => (Sum.inr q.1, q.2)

/-- what comes: a value, an own error by its class's name, or nothing is promised -/
inductive Res (α : Type) where
  | ok (a : α) | ex (n : Str) | bad
def Res.bind {α β : Type} : Res α → (α → Res β) → Res β
  | .ok a, f => f a
  | .ex n, _ => .ex n
  | .bad, _ => .bad
def Res.map {α β : Type} (r : Res α) (f : α → β) : Res β := r.bind fun a => .ok (f a)
def ofO {α : Type} : Option α → Res α
  | some a => .ok a
  | none => .bad

mutual
inductive Rp (K : PySem.W.Frag) (H : Hp) : V → D → Prop
  | non : Rp K H .non .non
  | bl (b : Bool) : Rp K H (.bl b) (.bl b)
  | int (i : Int) : Rp K H (.int i) (.int i)
  | str (x : Str) : Rp K H (.str x) (.str x)
  | fn (x : Str) : Rp K H (.ref (He.ga K x)) (.fn x)
  | ty (n : String) : Rp K H (.ty n) (.ty n)
  | lst {a : Addr} {xs : List V} {ds : List D} : H a = some (.lst xs) → RpAll K H xs ds → Rp K H (.ref a) (.lst ds)
  | tup {a : Addr} {xs : List V} {ds : List D} : SqT K H a xs → RpAll K H xs ds → Rp K H (.ref a) (.tup ds)
  | dK {a : Addr} {kvs : List (Key × V)} : H a = some (.dK kvs) → Rp K H (.ref a) (.dK kvs)
  | dT {a : Addr} {kvs : List (List Key × V)} : (∃ od, H a = some (.frz od (.dT kvs))) → Rp K H (.ref a) (.dT kvs)
  | arr {a : Addr} {ns : List Int} : SqL K H a (ns.map V.int) → Rp K H (.ref a) (.arr ns)
  | pro {a : Addr} {xs : List Str} : (∃ o : Obj, o.cls = .type "tuple" ∧ o.dict = none ∧ H a = some (.frz o (.tup (xs.map V.str)))) → Rp K H (.ref a) (.pro xs)
  | adr (a : Addr) : Rp K H (.ref a) (.adr a)
  | tab {a : Addr} {o : Option Addr} {ks : List Str} {ws : List V} {ds : List D} : (∀ p, o = some p → a = p) → H a = some (.dK (kvK ks ws)) → ks.length = ws.length → RpAll K H ws ds → Rp K H (.ref a) (.tab o ks ds)
  | pw {a : Addr} {ks : List Int} : H a = some (.tup (ks.map V.int)) → Rp K H (.ref a) (.pw ks)
  | frm {a : Addr} {xs : List V} {ds : List D} : (∃ o : Obj, o.cls = .type "tuple" ∧ o.dict = none ∧ H a = some (.frz o (.tup xs))) → RpAll K H xs ds → Rp K H (.ref a) (.frm ds)
inductive RpAll (K : PySem.W.Frag) (H : Hp) : List V → List D → Prop
  | nil : RpAll K H [] []
  | cons {v : V} {vs : List V} {d : D} {ds : List D} : Rp K H v d → RpAll K H vs ds → RpAll K H (v :: vs) (d :: ds)
end

def Sub (F H : Hp) : Prop := ∀ a o, F a = some o → H a = some o
theorem Sub.refl (F : Hp) : Sub F F := fun _ _ h => h
theorem Sub.trans {F G H : Hp} (a : Sub F G) (b : Sub G H) : Sub F H := fun x o h => b x o (a x o h)
theorem Sub.rd {F H : Hp} {a : Addr} {u : HO} (e : Sub F H) (h : Rd F a u) : Rd H a u := by
  rcases h with h | ⟨o, h⟩
  · exact .inl (e _ _ h)
  · exact .inr ⟨o, e _ _ h⟩
theorem Sub.sl {K : PySem.W.Frag} {F H : Hp} {a : Addr} {xs : List V} (e : Sub F H) (h : SqL K F a xs) : SqL K H a xs := h.elim (fun h => .inl (e.rd h)) .inr
theorem Sub.st {K : PySem.W.Frag} {F H : Hp} {a : Addr} {xs : List V} (e : Sub F H) (h : SqT K F a xs) : SqT K H a xs := h.elim (fun h => .inl (e.rd h)) .inr
mutual
theorem Rp.mono {K : PySem.W.Frag} {F H : Hp} (e : Sub F H) : ∀ {v : V} {d : D}, Rp K F v d → Rp K H v d
  | _, _, .non => .non
  | _, _, .bl b => .bl b
  | _, _, .int i => .int i
  | _, _, .str x => .str x
  | _, _, .fn x => .fn x
  | _, _, .ty n => .ty n
  | _, _, .lst h t => .lst (e _ _ h) (RpAll.mono e t)
  | _, _, .tup h t => .tup (e.st h) (RpAll.mono e t)
  | _, _, .dK h => .dK (e _ _ h)
  | _, _, .dT ⟨od, h⟩ => .dT ⟨od, e _ _ h⟩
  | _, _, .arr h => .arr (e.sl h)
  | _, _, .pro ⟨o, h1, h2, h3⟩ => .pro ⟨o, h1, h2, e _ _ h3⟩
  | _, _, .adr a => .adr a
  | _, _, .tab h1 h2 h3 t => .tab h1 (e _ _ h2) h3 (RpAll.mono e t)
  | _, _, .pw h => .pw (e _ _ h)
  | _, _, .frm ⟨o, h1, h2, h3⟩ t => .frm ⟨o, h1, h2, e _ _ h3⟩ (RpAll.mono e t)
theorem RpAll.mono {K : PySem.W.Frag} {F H : Hp} (e : Sub F H) : ∀ {vs : List V} {ds : List D}, RpAll K F vs ds → RpAll K H vs ds
  | _, _, .nil => .nil
  | _, _, .cons h t => .cons (Rp.mono e h) (RpAll.mono e t)
end
section
variable {K : PySem.W.Frag} {F H : Hp}
theorem RpAll.length : ∀ {vs : List V} {ds : List D}, RpAll K F vs ds → vs.length = ds.length
  | _, _, .nil => rfl
  | _, _, .cons _ t => by rw [List.length_cons, List.length_cons, RpAll.length t]
theorem RpAll.get : ∀ {vs : List V} {ds : List D} {i : Nat} {d : D}, RpAll K F vs ds → ds[i]? = some d → ∃ v, vs[i]? = some v ∧ Rp K F v d
  | _, _, _, _, .nil, e => by simp at e
  | _, _, 0, _, .cons h _, e => by
    simp at e; subst e; exact ⟨_, rfl, h⟩
  | _, _, i + 1, d, .cons _ t, e => by
    obtain ⟨v, h1, h2⟩ := RpAll.get (i := i) (d := d) t (by simpa using e)
    exact ⟨v, by simpa using h1, h2⟩
theorem RpAll.append : ∀ {vs ws : List V} {ds es : List D}, RpAll K F vs ds → RpAll K F ws es → RpAll K F (vs ++ ws) (ds ++ es)
  | _, _, _, _, .nil, s => s
  | _, _, _, _, .cons h t, s => .cons h (RpAll.append t s)
theorem RpAll.take : ∀ {vs : List V} {ds : List D} (n : Nat), RpAll K F vs ds → RpAll K F (vs.take n) (ds.take n)
  | _, _, 0, _ => by simp; exact .nil
  | _, _, _ + 1, .nil => .nil
  | _, _, n + 1, .cons h t => .cons h (RpAll.take n t)
theorem RpAll.drop : ∀ {vs : List V} {ds : List D} (n : Nat), RpAll K F vs ds → RpAll K F (vs.drop n) (ds.drop n)
  | _, _, 0, r => r
  | _, _, _ + 1, .nil => .nil
  | _, _, n + 1, .cons _ t => RpAll.drop n t
theorem RpAll.reverse : ∀ {vs : List V} {ds : List D}, RpAll K F vs ds → RpAll K F vs.reverse ds.reverse
  | _, _, .nil => .nil
  | _, _, .cons h t => by
    rw [List.reverse_cons, List.reverse_cons]
    exact (RpAll.reverse t).append (.cons h .nil)
theorem RpAll.ints : ∀ (ns : List Int), RpAll K F (ns.map V.int) (ns.map D.int)
  | [] => .nil
  | n :: ns => .cons (.int n) (RpAll.ints ns)
end

/-- the frozen part F of H -/
structure Fz (F H : Hp) : Prop where
  sub : Sub F H
  nt : ∀ a ps, F a ≠ some (.tbl ps)
/-- a table, or a tuple (which no one changes) -/
def Sd (o : HO) : Prop := (∃ ps, o = .tbl ps) ∨ ∃ xs, o = .tup xs
/-- from (F, H) to (F', H') -/
structure Nx (T : List (Addr × Str)) (F H F' H' : Hp) : Prop where
  f : Sub F F'
  z : Fz F' H'
  h : ExtN H H'
  new : ∀ a o, F' a = some o → F a = some o ∨ ∀ o', H a = some o' → Sd o'
  tab : Tabs T H → Tabs T H'
section
variable {T : List (Addr × Str)} {F H F1 H1 F2 H2 : Hp}
theorem Nx.refl (z : Fz F H) : Nx T F H F H := ⟨Sub.refl F, z, ExtN.refl H, fun _ _ h => .inl h, fun h => h⟩
theorem Nx.trans (a : Nx T F H F1 H1) (b : Nx T F1 H1 F2 H2) : Nx T F H F2 H2 where
  f := a.f.trans b.f
  z := b.z
  h := a.h.trans b.h
  new := fun x o e => by
    rcases b.new x o e with h | h
    · exact a.new x o h
    · refine .inr fun o' e' => ?_
      by_cases q : ∃ ps, o' = .tbl ps
      · exact .inl q
      · exact h o' (a.h x o' e' fun ps z => q ⟨ps, z⟩)
  tab := fun h => b.tab (a.tab h)
/-- a new object that is frozen from its begin -/
theorem Nx.push {p : Addr} {o : HO} (z : Fz F H) (hp : H p = none) (ho : ∀ ps, o ≠ .tbl ps) : Nx T F H (upd F p o) (upd H p o) := by
  have fp : F p = none := by
    cases q : F p with
    | none => rfl
    | some u =>
      have := z.sub _ _ q
      rw [hp] at this; cases this
  refine ⟨fun a u e => ?_, ⟨fun a u e => ?_, fun a ps e => ?_⟩, fun b u e _ => ?_, fun a u e => ?_, fun t => t.ext fun b u e => ?_⟩
  · rw [upd_ne (ne_of_none e fp)]; exact e
  · by_cases h : a = p
    · subst h; rw [upd_same] at e ⊢; exact e
    · rw [upd_ne h] at e ⊢; exact z.sub _ _ e
  · by_cases h : a = p
    · subst h; rw [upd_same] at e; exact ho ps (Option.some.inj e)
    · rw [upd_ne h] at e; exact z.nt _ _ e
  · rw [upd_ne (ne_of_none e hp)]; exact e
  · by_cases h : a = p
    · subst h; exact .inr fun o' e' => by rw [hp] at e'; cases e'
    · rw [upd_ne h] at e; exact .inl e
  · rw [upd_ne (ne_of_none e hp)]; exact e
/-- a new object that is not frozen -/
theorem Nx.lay {p : Addr} {o : HO} (z : Fz F H) (hp : H p = none) : Nx T F H F (upd H p o) := by
  refine ⟨Sub.refl F, ⟨fun a u e => ?_, z.nt⟩, fun b u e _ => ?_, fun a u e => .inl e, fun t => t.ext fun b u e => ?_⟩
  · rw [upd_ne (ne_of_none (z.sub _ _ e) hp)]; exact z.sub _ _ e
  · rw [upd_ne (ne_of_none e hp)]; exact e
  · rw [upd_ne (ne_of_none e hp)]; exact e
theorem Nx.keep (n : Nx T F H F1 H1) {a : Addr} {o : HO} (e : H a = some o) (ho : ∀ ps, o ≠ .tbl ps) : H1 a = some o := n.h a o e ho
theorem Nx.out (n : Nx T F H F1 H1) {a : Addr} {o : HO} (e : H a = some o) (ho : ∀ ps, o ≠ .tbl ps) (hf : F a = none) (hx : ∀ xs, o ≠ .tup xs := by intro _ z; cases z) : F1 a = none := by
  cases q : F1 a with
  | none => rfl
  | some u =>
    rcases n.new a u q with h | h
    · rw [hf] at h; cases h
    · rcases h o e with ⟨ps, z⟩ | ⟨xs, z⟩
      · exact absurd z (ho ps)
      · exact absurd z (hx xs)
end

/-- a slot: nothing is known; frozen data; an object of the frame's own -/
inductive En where
  | u | z (d : D) | o (d : D)
abbrev Rho := List En
/-! dicts of nested keys -/
mutual
def D.key : D → Option NestedKey
  | .non => some .none
  | .bl b => some (.num (if b = true then 1 else 0))
  | .int i => some (.num i)
  | .str x => some (.text x)
  | .tup ds => (D.keys ds).map .tup
  | _ => none
def D.keys : List D → Option (List NestedKey)
  | [] => some []
  | d :: ds => (D.key d).bind fun k => (D.keys ds).map fun ks => k :: ks
end
def EntR (p : NestedKey × Addr × V) (q : NestedKey × Addr × Value) : Prop := p.1 = q.1 ∧ p.2.1 = q.2.1 ∧ RelV p.2.2 q.2.2
/-- the dict at a: its keys (the tuples' addresses) and values -/
def DicO (P : Program) (w : World) (a : Addr) (es : List (NestedKey × Addr × V)) : HO := .ext fun h => (a == sysModules) = false ∧ es.length ≤ sizeLine ∧ ∃ xs : List (NestedKey × Addr × Value), Paired EntR es xs ∧
  ∃ o ents ep, h.get? a = some o ∧ o.ExactDict ∧ o.data = .dict ents ep ∧ ents.toList = xs.map (entryOfKey (nestedKind P w)) ∧ (xs.map (·.1)).Nodup
inductive DicR (K : PySem.W.Frag) (F : Hp) : List (NestedKey × Addr × V) → List D → List D → Prop
  | nil : DicR K F [] [] []
  | cons {n : NestedKey} {a : Addr} {v : V} {es : List (NestedKey × Addr × V)} {k d : D} {ks vs : List D} : k.key = some n → n.depth ≤ 8 → Rp K F (.ref a) k → Rp K F v d → DicR K F es ks vs → DicR K F ((n, a, v) :: es) (k :: ks) (d :: vs)
theorem DicR.mono {K : PySem.W.Frag} {F F' : Hp} (e : Sub F F') {es : List (NestedKey × Addr × V)} {ks vs : List D} (h : DicR K F es ks vs) : DicR K F' es ks vs := by
  induction h with
  | nil => exact .nil
  | cons h1 h2 h3 h4 _ ih => exact .cons h1 h2 (h3.mono e) (h4.mono e) ih
/-- the object at p, not frozen, is d -/
def OwnAt (K : PySem.W.Frag) (F H : Hp) (p : Addr) : D → Prop
  | .lst ds => ∃ xs, H p = some (.lst xs) ∧ RpAll K F xs ds
  | .dK kvs => H p = some (.dK kvs)
  | .dT kvs => H p = some (.dT kvs)
  | .dic P w ks vs => ∃ es, H p = some (DicO P w p es) ∧ DicR K F es ks vs
  | .ins c ns vs => ∃ dx ws, H p = some (.ins (He.ga K c) dx (ns.zip ws)) ∧ RpAll K F ws vs
  | _ => False
theorem OwnAt.solid {K : PySem.W.Frag} {F H : Hp} {p : Addr} : ∀ {d : D}, OwnAt K F H p d → ∃ o, H p = some o ∧ ∀ ps, o ≠ .tbl ps
  | .lst ds, ⟨xs, h, _⟩ => ⟨_, h, fun ps z => by cases z⟩
  | .dK kvs, h => ⟨_, h, fun ps z => by cases z⟩
  | .dT kvs, h => ⟨_, h, fun ps z => by cases z⟩
  | .dic P w ks vs, ⟨es, h, _⟩ => ⟨_, h, fun ps z => by unfold DicO at z; cases z⟩
  | .ins c ns vs, ⟨dx, ws, h, _⟩ => ⟨_, h, fun ps z => by cases z⟩
  | .non, h => h.elim
  | .bl _, h => h.elim
  | .int _, h => h.elim
  | .str _, h => h.elim
  | .tup _, h => h.elim
  | .fn _, h => h.elim
  | .ty _, h => h.elim
  | .arr _, h => h.elim
  | .pro _, h => h.elim
  | .adr _, h => h.elim
  | .tab _ _ _, h => h.elim
theorem OwnAt.notTup {K : PySem.W.Frag} {F H : Hp} {p : Addr} {d : D} {xs : List V} (h : OwnAt K F H p d) (e : H p = some (.tup xs)) : False := by
  cases d with
  | lst ds => obtain ⟨ys, q, _⟩ := h; rw [e] at q; cases q
  | dK kvs => have q : H p = some (.dK kvs) := h; rw [e] at q; cases q
  | dT kvs => have q : H p = some (.dT kvs) := h; rw [e] at q; cases q
  | dic P w ks vs => obtain ⟨es, q, _⟩ := h; rw [e] at q; unfold DicO at q; cases q
  | ins c ns vs => obtain ⟨dx, ws, q, _⟩ := h; rw [e] at q; cases q
  | _ => exact h
theorem OwnAt.mono {K : PySem.W.Frag} {T : List (Addr × Str)} {F H F' H' : Hp} {p : Addr} (n : Nx T F H F' H') : ∀ {d : D}, OwnAt K F H p d → OwnAt K F' H' p d
  | .lst ds, ⟨xs, h, r⟩ => ⟨xs, n.keep h fun ps z => (by cases z), RpAll.mono n.f r⟩
  | .dK kvs, h => n.keep h fun ps z => (by cases z)
  | .dT kvs, h => n.keep h fun ps z => (by cases z)
  | .dic P w ks vs, ⟨es, h, r⟩ => ⟨es, n.keep h fun ps z => (by unfold DicO at z; cases z), r.mono n.f⟩
  | .ins c ns vs, ⟨dx, ws, h, r⟩ => ⟨dx, ws, n.keep h fun ps z => (by cases z), r.mono n.f⟩
  | .non, h => h.elim
  | .bl _, h => h.elim
  | .int _, h => h.elim
  | .str _, h => h.elim
  | .tup _, h => h.elim
  | .fn _, h => h.elim
  | .ty _, h => h.elim
  | .arr _, h => h.elim
  | .pro _, h => h.elim
  | .adr _, h => h.elim
  | .tab _ _ _, h => h.elim
structure Rl (K : PySem.W.Frag) (F H : Hp) (σ : L2.St) (ρ : Rho) : Prop where
  len : σ.length = ρ.length
  z : ∀ (i : Nat) (d : D), ρ[i]? = some (En.z d) → ∃ v, σ[i]? = some (some v) ∧ Rp K F v d
  o : ∀ (i : Nat) (d : D), ρ[i]? = some (En.o d) → ∃ p, σ[i]? = some (some (V.ref p)) ∧ F p = none ∧ OwnAt K F H p d
  ne : ∀ (i j : Nat) (d e : D) (p q : Addr), i ≠ j → ρ[i]? = some (En.o d) → ρ[j]? = some (En.o e) → σ[i]? = some (some (V.ref p)) → σ[j]? = some (some (V.ref q)) → p ≠ q
section
variable {K : PySem.W.Frag} {T : List (Addr × Str)} {F H F' H' : Hp} {σ : L2.St} {ρ : Rho}
theorem Rl.mono (n : Nx T F H F' H') (r : Rl K F H σ ρ) : Rl K F' H' σ ρ where
  len := r.len
  z := fun i d e => let ⟨v, h1, h2⟩ := r.z i d e; ⟨v, h1, h2.mono n.f⟩
  o := fun i d e => by
    obtain ⟨p, h1, h2, h3⟩ := r.o i d e
    obtain ⟨o, h4, h5⟩ := h3.solid
    exact ⟨p, h1, n.out h4 h5 h2 (fun xs z => h3.notTup (by rw [h4, z])), h3.mono n⟩
  ne := r.ne
theorem Rl.set {i : Nat} {v : V} {d : D} (r : Rl K F H σ ρ) (h : Rp K F v d) : Rl K F H (σ.set i (some v)) (ρ.set i (.z d)) where
  len := by rw [List.length_set, List.length_set]; exact r.len
  z := fun j e hj => by
    rw [List.getElem?_set] at hj ⊢
    by_cases hij : i = j
    · subst hij
      rw [if_pos rfl] at hj ⊢
      by_cases hl : i < ρ.length
      · rw [if_pos hl] at hj
        rw [if_pos (by rw [r.len]; exact hl)]
        cases hj
        exact ⟨v, rfl, h⟩
      · rw [if_neg hl] at hj; cases hj
    · rw [if_neg hij] at hj ⊢
      exact r.z j e hj
  o := fun j e hj => by
    rw [List.getElem?_set] at hj ⊢
    by_cases hij : i = j
    · subst hij
      rw [if_pos rfl] at hj
      by_cases hl : i < ρ.length
      · rw [if_pos hl] at hj; cases hj
      · rw [if_neg hl] at hj; cases hj
    · rw [if_neg hij] at hj ⊢
      exact r.o j e hj
  ne := fun j k a b p q hn h1 h2 h3 h4 => by
    rw [List.getElem?_set] at h1 h2 h3 h4
    have fj : i ≠ j := fun z => by
      rw [if_pos z] at h1; split at h1 <;> cases h1
    have fk : i ≠ k := fun z => by
      rw [if_pos z] at h2; split at h2 <;> cases h2
    rw [if_neg fj] at h1 h3
    rw [if_neg fk] at h2 h4
    exact r.ne j k a b p q hn h1 h2 h3 h4
theorem Rl.wipe1 {i : Nat} (r : Rl K F H σ ρ) : Rl K F H (σ.set i none) (ρ.set i .u) where
  len := by rw [List.length_set, List.length_set]; exact r.len
  z := fun j e hj => by
    rw [List.getElem?_set] at hj ⊢
    by_cases hij : i = j
    · subst hij
      rw [if_pos rfl] at hj
      split at hj <;> cases hj
    · rw [if_neg hij] at hj ⊢
      exact r.z j e hj
  o := fun j e hj => by
    rw [List.getElem?_set] at hj ⊢
    by_cases hij : i = j
    · subst hij
      rw [if_pos rfl] at hj
      split at hj <;> cases hj
    · rw [if_neg hij] at hj ⊢
      exact r.o j e hj
  ne := fun j k a b p q hn h1 h2 h3 h4 => by
    rw [List.getElem?_set] at h1 h2 h3 h4
    have fj : i ≠ j := fun z => by
      rw [if_pos z] at h1; split at h1 <;> cases h1
    have fk : i ≠ k := fun z => by
      rw [if_pos z] at h2; split at h2 <;> cases h2
    rw [if_neg fj] at h1 h3
    rw [if_neg fk] at h2 h4
    exact r.ne j k a b p q hn h1 h2 h3 h4
end

/-! ### readings by functions of data -/
/-- what is wanted behind: of an α that stands for the β -/
def aft {α β : Type} (R : Hp → α → β → Prop) (K : PySem.W.Frag) (T : List (Addr × Str)) (W : WX) (σ : L2.St) (F H : Hp) (Q : α → Hp → Prop) : Res β → Prop
  | .ok b => ∀ a F' H', Nx T F H F' H' → R F' a b → Q a H'
  | .ex n => ∀ F' H', Nx T F H F' H' → W (.ref (He.ga K n)) none σ H'
  | .bad => False
abbrev RBool : Hp → Bool → Bool → Prop := fun _ a b => a = b
/-- where one stands -/
structure At (K : PySem.W.Frag) (T : List (Addr × Str)) (F H : Hp) (σ : L2.St) (ρ : Rho) : Prop where
  z : Fz F H
  t : Tabs T H
  r : Rl K F H σ ρ
theorem At.nx {K : PySem.W.Frag} {T : List (Addr × Str)} {F H F' H' : Hp} {σ : L2.St} {ρ : Rho} (a : At K T F H σ ρ) (n : Nx T F H F' H') : At K T F' H' σ ρ := ⟨n.z, n.tab a.t, a.r.mono n⟩
def tG {α β : Type} (R : PySem.W.Frag → Hp → α → β → Prop) (K : PySem.W.Frag) (T : List (Addr × Str)) (W : WX) (f : Rho → Res β) : L2.St → Hp → (α → Hp → Prop) → Prop :=
  fun σ H Q => ∃ ρ F, At K T F H σ ρ ∧ aft (R K) K T W σ F H Q (f ρ)
def tE (K : PySem.W.Frag) (T : List (Addr × Str)) (W : WX) (f : Rho → Res D) : TE := tG Rp K T W f
def tA (K : PySem.W.Frag) (T : List (Addr × Str)) (W : WX) (f : Rho → Res (List D)) : TA := tG RpAll K T W f
def tT (K : PySem.W.Frag) (T : List (Addr × Str)) (W : WX) (f : Rho → Res Bool) : TT := tG (fun _ => RBool) K T W f
section
variable {K : PySem.W.Frag} {T : List (Addr × Str)} {W : WX} {σ : L2.St} {F H F' H' : Hp}
theorem aft.mono {α β : Type} {R : Hp → α → β → Prop} {Q : α → Hp → Prop} {r : Res β} (n : Nx T F H F' H') (h : aft R K T W σ F H Q r) : aft R K T W σ F' H' Q r := by
  cases r with
  | ok b => exact fun a F2 H2 n2 ra => h a F2 H2 (n.trans n2) ra
  | ex m => exact fun F2 H2 n2 => h F2 H2 (n.trans n2)
  | bad => exact h
theorem aft.imp {α β : Type} {R : Hp → α → β → Prop} {Q Q' : α → Hp → Prop} {r : Res β} (h : aft R K T W σ F H Q r) (hq : ∀ b, r = .ok b → ∀ a F' H', Nx T F H F' H' → R F' a b → Q a H' → Q' a H') : aft R K T W σ F H Q' r := by
  cases r with
  | ok b => exact fun a F2 H2 n ra => hq b rfl a F2 H2 n ra (h a F2 H2 n ra)
  | ex m => exact h
  | bad => exact h
/-- one thing behind another -/
theorem aft.bind {α β γ δ : Type} {R : Hp → α → β → Prop} {S : Hp → γ → δ → Prop} {Q : γ → Hp → Prop} {r : Res β} {k : β → Res δ} (h : aft S K T W σ F H Q (r.bind k)) :
    aft R K T W σ F H (fun a H1 => ∃ b F1, r = .ok b ∧ Nx T F H F1 H1 ∧ R F1 a b ∧ aft S K T W σ F1 H1 Q (k b)) r := by
  cases r with
  | ok b => exact fun a F2 H2 n ra => ⟨b, F2, rfl, n, ra, aft.mono n h⟩
  | ex m => exact h
  | bad => exact h
theorem aft.ok {α β : Type} {R : Hp → α → β → Prop} {Q : α → Hp → Prop} {b : β} {a : α} {F1 H1 : Hp} (h : aft R K T W σ F H Q (.ok b)) (n : Nx T F H F1 H1) (ra : R F1 a b) : Q a H1 := h a F1 H1 n ra
end
/-- a judgement is weakened -/
theorem _root_.L2.PE.to {X : Cx} {e : Expr} {t u : TE} (h : PE X e t) (k : ∀ σ H Q, u σ H Q → t σ H Q) : PE X e u := ⟨fun pins s σ H Q I q => h.run pins s σ H Q I (k σ H Q q)⟩
theorem _root_.L2.PT.to {X : Cx} {e : Expr} {t u : TT} (h : PT X e t) (k : ∀ σ H Q, u σ H Q → t σ H Q) : PT X e u := ⟨fun pins s σ H Q I q => h.run pins s σ H Q I (k σ H Q q)⟩
theorem _root_.L2.PW.to {X : Cx} {e : Expr} {t u : TT} (h : PW X e t) (k : ∀ σ H Q, u σ H Q → t σ H Q) : PW X e u := ⟨fun whole pins s σ H Q I q => h.run whole pins s σ H Q I (k σ H Q q)⟩
theorem _root_.L2.PA.to {X : Cx} {es : List Expr} {t u : TA} (h : PA X es t) (k : ∀ σ H Q, u σ H Q → t σ H Q) : PA X es u := ⟨fun pos pins s σ H Q I q => h.run pos pins s σ H Q I (k σ H Q q)⟩
theorem _root_.L2.PS.to {X : Cx} {st : Stmt} {t u : TS} (h : PS X st t) (k : ∀ D σ H, u D σ H → t D σ H) : PS X st u := ⟨fun pins s σ H D I q => h.run pins s σ H D I (k D σ H q)⟩
theorem _root_.L2.PSs.to {X : Cx} {st : List Stmt} {t u : TS} (h : PSs X st t) (k : ∀ D σ H, u D σ H → t D σ H) : PSs X st u := ⟨fun pins s σ H D I q => h.run pins s σ H D I (k D σ H q)⟩

/-! ### names, constants, arguments -/
section
variable {X : Cx} {T : List (Addr × Str)} {W : WX}
abbrev DE (X : Cx) (T : List (Addr × Str)) (W : WX) (e : Expr) (f : Rho → Res D) : Prop := PE X e (tE X.K T W f)
abbrev DQ (X : Cx) (T : List (Addr × Str)) (W : WX) (e : Expr) (f : Rho → Res Bool) : Prop := PT X e (tT X.K T W f)
abbrev DW (X : Cx) (T : List (Addr × Str)) (W : WX) (e : Expr) (f : Rho → Res Bool) : Prop := PW X e (tT X.K T W f)
abbrev DA (X : Cx) (T : List (Addr × Str)) (W : WX) (es : List Expr) (f : Rho → Res (List D)) : Prop := PA X es (tA X.K T W f)

def var (i : Nat) : Rho → Res D := fun ρ => match ρ[i]? with
  | some (.z d) => .ok d
  | _ => .bad
theorem e_var {i : Nat} {x : Str} {pos : Pos} (h : PE X (.Name x pos) (tVar i)) : DE X T W (.Name x pos) (var i) := h.to fun σ H Q hq => by
  obtain ⟨ρ, F, a, h⟩ := hq
  unfold var at h
  cases e : ρ[i]? with
  | none => rw [e] at h; exact h.elim
  | some en =>
    rw [e] at h
    cases en with
    | u => exact h.elim
    | o d => exact h.elim
    | z d =>
      obtain ⟨v, h1, h2⟩ := a.r.z i d e
      exact ⟨v, h1, h v F H (Nx.refl a.z) h2⟩
def con (d : D) : Rho → Res D := fun _ => .ok d
theorem e_c {e : Expr} {v : V} {d : D} (h : PE X e (tC v)) (r : ∀ F, Rp X.K F v d) : DE X T W e (con d) := h.to fun σ H Q ⟨ρ, F, a, h⟩ => h v F H (Nx.refl a.z) (r F)
theorem e_int {i j pos} : DE X T W (.Constant (.int i) j pos) (con (.int i)) := e_c pe_int fun _ => .int i
theorem e_bl {b j pos} : DE X T W (.Constant (.bool b) j pos) (con (.bl b)) := e_c pe_bl fun _ => .bl b
theorem e_str {x j pos} : DE X T W (.Constant (.str x) j pos) (con (.str x)) := e_c pe_str fun _ => .str x

def anil : Rho → Res (List D) := fun _ => .ok []
def acons (f : Rho → Res D) (g : Rho → Res (List D)) : Rho → Res (List D) := fun ρ => (f ρ).bind fun d => (g ρ).bind fun ds => .ok (d :: ds)
theorem a_nil : DA X T W [] anil := pa_nil.to fun σ H Q ⟨ρ, F, a, h⟩ => h [] F H (Nx.refl a.z) .nil
theorem a_cons {e : Expr} {es : List Expr} {f : Rho → Res D} {g : Rho → Res (List D)} (he : DE X T W e f) (hs : DA X T W es g) (hstar : starEach (e :: es) X.env = (false, eval e X.env) :: starEach es X.env := by rfl) : DA X T W (e :: es) (acons f g) :=
  (pa_cons he hs hstar).to fun σ H Q ⟨ρ, F, a, h⟩ => by
    refine ⟨ρ, F, a, (aft.bind (R := Rp X.K) h).imp fun d _ v F1 H1 _ _ q => ?_⟩
    obtain ⟨b, F2, _, n, rv, q⟩ := q
    refine ⟨ρ, F2, a.nx n, (aft.bind (R := RpAll X.K) q).imp fun ds _ vs F3 H3 _ _ q => ?_⟩
    obtain ⟨ds', F4, _, n2, rs, q⟩ := q
    exact q.ok (Nx.refl n2.z) (.cons (rv.mono n2.f) rs)
end
end DN
namespace DN
open PySem PySem.Spec PyProof.Rows L2
open LamX (Tabs ExtN)
open PySem.Builtin.Str (tooLong)

/-! ### operators -/
/-- an operation on values, by a function of data -/
def rD2 (K : PySem.W.Frag) (T : List (Addr × Str)) (G : D → D → Option D) : R2 := fun x y H Q =>
  ∃ F d e z, Fz F H ∧ Rp K F x d ∧ Rp K F y e ∧ G d e = some z ∧ ∀ v F' H', Nx T F H F' H' → Rp K F' v z → Q v H'
def rD1 (K : PySem.W.Frag) (T : List (Addr × Str)) (G : D → Option D) : V → Hp → VK → Prop := fun x H Q =>
  ∃ F d z, Fz F H ∧ Rp K F x d ∧ G d = some z ∧ ∀ v F' H', Nx T F H F' H' → Rp K F' v z → Q v H'
def rDn (K : PySem.W.Frag) (T : List (Addr × Str)) (G : List D → Option D) : List V → Hp → VK → Prop := fun xs H Q =>
  ∃ F ds z, Fz F H ∧ RpAll K F xs ds ∧ G ds = some z ∧ ∀ v F' H', Nx T F H F' H' → Rp K F' v z → Q v H'
def bop (G : D → D → Option D) (f g : Rho → Res D) : Rho → Res D := fun ρ => (f ρ).bind fun d => (g ρ).bind fun e => ofO (G d e)
def una (G : D → Option D) (f : Rho → Res D) : Rho → Res D := fun ρ => (f ρ).bind fun d => ofO (G d)
def cal (G : List D → Option D) (f : Rho → Res (List D)) : Rho → Res D := fun ρ => (f ρ).bind fun ds => ofO (G ds)
section
variable {X : Cx} {T : List (Addr × Str)} {W : WX}
theorem ofO_ok {α : Type} {o : Option α} {K : PySem.W.Frag} {σ : L2.St} {F H : Hp} {β : Type} {R : Hp → β → α → Prop} {Q : β → Hp → Prop} (h : aft R K T W σ F H Q (ofO o)) : ∃ a, o = some a ∧ ∀ b F' H', Nx T F H F' H' → R F' b a → Q b H' := by
  cases o with
  | none => exact h.elim
  | some a => exact ⟨a, rfl, h⟩
theorem bin_to {K : PySem.W.Frag} {G : D → D → Option D} {f g : Rho → Res D} {σ : L2.St} {H : Hp} {Q : VK} (h : tE K T W (bop G f g) σ H Q) : tOp (rD2 K T G) (tE K T W f) (tE K T W g) σ H Q := by
  obtain ⟨ρ, F, a, h⟩ := h
  refine ⟨ρ, F, a, (aft.bind (R := Rp K) h).imp fun d _ v F1 H1 _ _ q => ?_⟩
  obtain ⟨b, F2, _, n, rv, q⟩ := q
  refine ⟨ρ, F2, a.nx n, (aft.bind (R := Rp K) q).imp fun ds _ vs F3 H3 _ _ q => ?_⟩
  obtain ⟨e, F4, _, n2, rs, q⟩ := q
  obtain ⟨z, hz, q⟩ := ofO_ok q
  exact ⟨F4, b, e, z, n2.z, rv.mono n2.f, rs, hz, q⟩
theorem e_bin {op : Operator} {G : D → D → Option D} {a b : Expr} {f g : Rho → Res D} {pos : Pos} (ho : OpR X (binaryOp op) (rD2 X.K T G)) (ha : DE X T W a f) (hb : DE X T W b g) : DE X T W (.BinOp a op b pos) (bop G f g) :=
  (pe_op ho ha hb).to fun _ _ _ h => bin_to h
theorem e_una {op : UnaryOp} {G : D → Option D} {a : Expr} {f : Rho → Res D} {pos : Pos} (ho : UnR X (unaryOp op) (rD1 X.K T G)) (ha : DE X T W a f) : DE X T W (.UnaryOp op a pos) (una G f) :=
  (pe_un ho ha).to fun σ H Q ⟨ρ, F, a, h⟩ => by
    refine ⟨ρ, F, a, (aft.bind (R := Rp X.K) h).imp fun d _ v F1 H1 _ _ q => ?_⟩
    obtain ⟨b, F2, _, n, rv, q⟩ := q
    obtain ⟨z, hz, q⟩ := ofO_ok q
    exact ⟨F2, b, z, n.z, rv, hz, q⟩
theorem e_cmp {op : CmpOp} {G : D → D → Option D} {a b : Expr} {f g : Rho → Res D} {pos : Pos} (ho : OpR X (compareOp op) (rD2 X.K T G)) (ha : DE X T W a f) (hb : DE X T W b g) (hm : behindInMarks op b = false) : DE X T W (.Compare a [op] [b] pos) (bop G f g) :=
  (pe_cmpR ho ha hb hm).to fun _ _ _ h => bin_to h
/-- a comparison's answer -/
def ans : D → Res Bool
  | .bl b => .ok b
  | _ => .bad
def tst (f : Rho → Res D) : Rho → Res Bool := fun ρ => (f ρ).bind ans
theorem tst_to {K : PySem.W.Frag} {f : Rho → Res D} {σ : L2.St} {H : Hp} {Q : Bool → Hp → Prop} (h : tT K T W (tst f) σ H Q) : tE K T W f σ H fun x H' => ∃ k, x = .bl k ∧ Q k H' := by
  obtain ⟨ρ, F, a, h⟩ := h
  refine ⟨ρ, F, a, (aft.bind (R := Rp K) h).imp fun d _ v F1 H1 _ _ q => ?_⟩
  obtain ⟨b, F2, _, n, rv, q⟩ := q
  cases b with
  | bl k =>
    cases rv
    exact ⟨k, rfl, q k F2 H1 (Nx.refl n.z) rfl⟩
  | _ => exact q.elim
theorem q_cmp {op : CmpOp} {G : D → D → Option D} {a b : Expr} {f g : Rho → Res D} {pos : Pos} (ho : OpR X (compareOp op) (rD2 X.K T G)) (ha : DE X T W a f) (hb : DE X T W b g) (hm : behindInMarks op b = false) : DQ X T W (.Compare a [op] [b] pos) (tst (bop G f g)) :=
  (pt_cmpR ho ha hb hm).to fun σ H Q h => by
    have h2 := tst_to h
    exact bin_to h2
end

/-! the operators' functions -/
def CMulD (i j : Int) : Prop := CMul i j ∨ CMulW i j
instance : Decidable (CMulD i j) := by unfold CMulD CMul CMulW; infer_instance
instance : Decidable (CDivW i j) := by unfold CDivW; infer_instance
def repS (x : Str) (n : Int) : Str := ⟨((List.replicate n.toNat x.cps.toList).flatten).toArray⟩
def addD : D → D → Option D
  | .int i, .int j => some (.int (i + j))
  | .str x, .str y => if x.length + y.length ≤ sizeLine then some (.str (x ++ y)) else none
  | .tup xs, .tup ys => if xs.length + ys.length ≤ sizeLine then some (.tup (xs ++ ys)) else none
  | .lst xs, .lst ys => if xs.length + ys.length ≤ sizeLine then some (.lst (xs ++ ys)) else none
  | _, _ => none
def subD : D → D → Option D
  | .int i, .int j => some (.int (i - j))
  | _, _ => none
def mulD : D → D → Option D
  | .int i, .int j => if CMulD i j then some (.int (i * j)) else none
  | .str x, .int n => if n ≤ 1000000 ∧ -1000000 ≤ n ∧ x.length * n.toNat ≤ 1000000 then some (.str (repS x n)) else none
  | .tup xs, .int k => if 2 ≤ k ∧ k ≤ 1000 ∧ xs.isEmpty = false ∧ xs.length ≤ 1000 then some (.tup (List.replicate k.toNat xs).flatten) else none
  | _, _ => none
def divD : D → D → Option D
  | .int i, .int j => if CDivW i j then some (.int (i / j)) else none
  | _, _ => none
def modD : D → D → Option D
  | .int i, .int j => if 0 < j then some (.int (i % j)) else none
  | _, _ => none
def negD : D → Option D
  | .int i => some (.int (-i))
  | _ => none
def ltD : D → D → Option D
  | .int i, .int j => some (.bl (decide (i < j)))
  | _, _ => none
def leD : D → D → Option D
  | .int i, .int j => some (.bl (decide (i ≤ j)))
  | _, _ => none
def gtD : D → D → Option D
  | .int i, .int j => some (.bl (decide (j < i)))
  | _, _ => none
def geD : D → D → Option D
  | .int i, .int j => some (.bl (decide (j ≤ i)))
  | _, _ => none
section
variable {X : Cx} {T : List (Addr × Str)} {W : WX}
theorem done0 {K : PySem.W.Frag} {F H : Hp} {z : D} {v : V} {Q : VK} (hz : Fz F H) (q : ∀ v F' H', Nx T F H F' H' → Rp K F' v z → Q v H') (r : Rp K F v z) : Q v H := q v F H (Nx.refl hz) r
theorem donep {K : PySem.W.Frag} {F H : Hp} {z : D} {p : Addr} {o : HO} {Q : VK} (hz : Fz F H) (hp : H p = none) (ho : ∀ ps, o ≠ .tbl ps) (q : ∀ v F' H', Nx T F H F' H' → Rp K F' v z → Q v H') (r : Rp K (upd F p o) (.ref p) z) : Q (.ref p) (upd H p o) :=
  q _ _ _ (Nx.push hz hp ho) r
theorem rp_tup {K : PySem.W.Frag} {F H : Hp} {p : Addr} {xs : List V} {ds : List D} (hz : Fz F H) (hp : H p = none) (r : RpAll K F xs ds) : Rp K (upd F p (.tup xs)) (.ref p) (.tup ds) :=
  .tup (.inl (.inl upd_same)) (r.mono (Nx.push (T := []) (o := .tup xs) hz hp (fun ps z => by cases z)).f)
theorem rp_lst {K : PySem.W.Frag} {F H : Hp} {p : Addr} {xs : List V} {ds : List D} (hz : Fz F H) (hp : H p = none) (r : RpAll K F xs ds) : Rp K (upd F p (.lst xs)) (.ref p) (.lst ds) :=
  .lst upd_same (r.mono (Nx.push (T := []) (o := .lst xs) hz hp (fun ps z => by cases z)).f)
theorem ntT {xs : List V} : ∀ ps, HO.tup xs ≠ .tbl ps := fun _ z => by cases z
theorem ntL {xs : List V} : ∀ ps, HO.lst xs ≠ .tbl ps := fun _ z => by cases z
theorem RpAll.nil_iff {K : PySem.W.Frag} {F : Hp} {xs : List V} {ds : List D} (r : RpAll K F xs ds) : xs = [] ↔ ds = [] := by
  cases r with
  | nil => simp
  | cons _ _ => simp
theorem o_add : OpR X (binaryOp .Add) (rD2 X.K T addD) := by
  intro pins s σ H x y v u Q I rx ry h
  obtain ⟨F, d, e, z, hz, rd, re, hG, q⟩ := h
  cases rd with
  | int i =>
    cases re with
    | int j => cases hG; exact op_add pins s σ H _ _ v u Q I rx ry ⟨i, j, rfl, rfl, done0 hz q (.int _)⟩
    | _ => cases hG
  | str i =>
    cases re with
    | str j =>
      have hG : (if i.length + j.length ≤ sizeLine then some (D.str (i ++ j)) else none) = some z := hG
      split at hG
      · rename_i hl
        cases hG
        exact op_add_str pins s σ H _ _ v u Q I rx ry ⟨i, j, rfl, rfl, hl, done0 hz q (.str _)⟩
      · cases hG
    | _ => cases hG
  | tup h1 r1 =>
    cases re with
    | tup h2 r2 =>
      rename_i a xs ds b ys es
      have hG : (if ds.length + es.length ≤ sizeLine then some (D.tup (ds ++ es)) else none) = some z := hG
      split at hG
      · rename_i hl
        cases hG
        refine op_catA pins s σ H _ _ v u Q I rx ry ⟨a, b, xs, ys, rfl, rfl, hz.sub.st h1, hz.sub.st h2, by rw [r1.length, r2.length]; exact hl, fun e => ?_, fun e1 e2 => ?_, fun e1 e2 p hp => ?_⟩
        · have e' := r1.nil_iff.mp e
          subst e'
          exact done0 hz q (.tup h2 r2)
        · have e' := r2.nil_iff.mp e2
          subst e'
          rw [List.append_nil] at q
          exact done0 hz q (.tup h1 r1)
        · exact donep hz hp ntT q (rp_tup hz hp (r1.append r2))
      · cases hG
    | _ => cases hG
  | lst h1 r1 =>
    cases re with
    | lst h2 r2 =>
      rename_i a xs ds b ys es
      have hG : (if ds.length + es.length ≤ sizeLine then some (D.lst (ds ++ es)) else none) = some z := hG
      split at hG
      · rename_i hl
        cases hG
        exact op_cat pins s σ H _ _ v u Q I rx ry ⟨a, b, xs, ys, rfl, rfl, hz.sub _ _ h1, hz.sub _ _ h2, by rw [r1.length, r2.length]; exact hl, fun p hp => donep hz hp ntL q (rp_lst hz hp (r1.append r2))⟩
      · cases hG
    | _ => cases hG
  | _ => cases hG
theorem foldA (x : Array Nat) : ∀ (n : Nat) (acc : Array Nat), (List.replicate n x).foldl (· ++ ·) acc = (acc.toList ++ (List.replicate n x.toList).flatten).toArray
  | 0, acc => by simp
  | n + 1, acc => by
    rw [List.replicate_succ, List.foldl_cons, foldA x n]
    simp [List.replicate_succ]
theorem fold_rep (x : Array Nat) (n : Nat) : (List.replicate n x).foldl (· ++ ·) #[] = ((List.replicate n x.toList).flatten).toArray := by
  rw [foldA]; simp
theorem sizeLine_val : (sizeLine : Nat) = 16777216 := sizeLine_eq
theorem o_mul_str {pins : List (Addr × Obj)} {s : Shared} {σ : L2.St} {H : Hp} {Q : VK} {x : Str} {n : Int} {t u : Tok} (I : Inv X pins σ H s) (h1 : n ≤ 1000000) (h2 : -1000000 ≤ n) (h3 : x.length * n.toNat ≤ 1000000) (q : Q (.str (repS x n)) H) :
    wpAny (model X.prog X.w) X.A (binaryOp .Mult (.str x t) (.int n u)) (EP X pins σ Q) X.xe s := by
  have tl : tooLong (x.length * n.toNat) = false := by
    unfold tooLong
    refine decide_eq_false ?_
    rw [sizeLine_val]
    omega
  refine PySem.P.mul_str (by rw [decide_eq_false (by omega), decide_eq_false (by omega)]; rfl) (fun g1 g2 => ?_) (fun _ _ => tl) ?_
  · intro hgt
    have hx : x.length ≤ 1000000 := by
      have hn : 1 ≤ n.toNat := by omega
      have := Nat.mul_le_mul_left x.length hn
      omega
    have hd : (2 ^ 63 - 1) / 1000000 ≤ (2 ^ 63 - 1 : Int) / n := by
      apply Int.le_ediv_of_mul_le (by omega)
      have : ((2 ^ 63 - 1 : Int) / 1000000) * n ≤ ((2 ^ 63 - 1 : Int) / 1000000) * 1000000 := Int.mul_le_mul_of_nonneg_left h1 (by decide)
      exact Int.le_trans this (by decide)
    have h0 : (1000000 : Int) ≤ (2 ^ 63 - 1) / 1000000 := by decide
    omega
  · by_cases g1 : n < 1
    · rw [if_pos g1]
      have e : repS x n = Str.empty := by
        unfold repS
        rw [show n.toNat = 0 by omega] <;> rfl
      rw [e] at q
      exact ⟨by decide, ⟨.str Str.empty, H, I.tok _, ⟨_, rfl⟩, q⟩⟩
    · rw [if_neg g1]
      by_cases g2 : (n == 1 || x.length == 0) = true
      · rw [if_pos g2]
        have e : repS x n = x := by
          unfold repS
          rw [Bool.or_eq_true, beq_iff_eq, beq_iff_eq] at g2
          rcases g2 with g | g
          · subst g
            show (⟨(([x.cps.toList] : List (List Nat)).flatten).toArray⟩ : Str) = x
            simp
          · have : x.cps = #[] := Array.eq_empty_of_size_eq_zero g
            cases x
            simp only at this
            subst this
            simp
        rw [e] at q
        exact ⟨.str x, H, I, ⟨_, rfl⟩, q⟩
      · rw [if_neg g2, fold_rep]
        refine ⟨?_, ⟨.str (repS x n), H, I.tok _, ⟨_, rfl⟩, q⟩⟩
        rw [sizeLine_val]
        show ((List.replicate n.toNat x.cps.toList).flatten).toArray.size ≤ _
        rw [List.size_toArray, List.length_flatten]
        simp
        have e : n.toNat * x.cps.size = x.length * n.toNat := Nat.mul_comm _ _
        rw [e]
        omega
theorem o_mul : OpR X (binaryOp .Mult) (rD2 X.K T mulD) := by
  intro pins s σ H x y v u Q I rx ry h
  obtain ⟨F, d, e, z, hz, rd, re, hG, q⟩ := h
  cases rd with
  | int i =>
    cases re with
    | int j =>
      have hG : (if CMulD i j then some (D.int (i * j)) else none) = some z := hG
      split at hG
      · rename_i hc
        cases hG
        rcases hc with hc | hc
        · exact op_mul pins s σ H _ _ v u Q I rx ry ⟨i, j, rfl, rfl, hc, done0 hz q (.int _)⟩
        · exact op_mulW pins s σ H _ _ v u Q I rx ry ⟨i, j, rfl, rfl, hc, done0 hz q (.int _)⟩
      · cases hG
    | _ => cases hG
  | str x =>
    cases re with
    | int n =>
      have hG : (if n ≤ 1000000 ∧ -1000000 ≤ n ∧ x.length * n.toNat ≤ 1000000 then some (D.str (repS x n)) else none) = some z := hG
      split at hG
      · rename_i hc
        cases hG
        obtain ⟨t, rfl⟩ := rx
        obtain ⟨t', rfl⟩ := ry
        exact o_mul_str I hc.1 hc.2.1 hc.2.2 (done0 hz q (.str _))
      · cases hG
    | _ => cases hG
  | tup h1 r1 =>
    cases re with
    | int k =>
      rename_i a xs ds
      have hG : (if 2 ≤ k ∧ k ≤ 1000 ∧ ds.isEmpty = false ∧ ds.length ≤ 1000 then some (D.tup (List.replicate k.toNat ds).flatten) else none) = some z := hG
      split at hG
      · rename_i hc
        cases hG
        obtain ⟨c1, c2, c3, c4⟩ := hc
        have many : ∀ n, RpAll X.K F (List.replicate n xs).flatten (List.replicate n ds).flatten := fun n => by
          induction n with
          | zero => exact .nil
          | succ n ih => simpa [List.replicate_succ] using r1.append ih
        have some_ : xs ≠ [] := fun z => by
          subst z
          cases r1
          cases c3
        exact op_repT pins s σ H _ _ v u Q I rx ry ⟨a, k, xs, rfl, rfl, hz.sub.st h1, some_, c1, c2, by rw [r1.length]; exact c4, fun p hp => donep hz hp ntT q (rp_tup hz hp (many _))⟩
      · cases hG
    | _ => cases hG
  | _ => cases hG
theorem o_div : OpR X (binaryOp .FloorDiv) (rD2 X.K T divD) := by
  intro pins s σ H x y v u Q I rx ry h
  obtain ⟨F, d, e, z, hz, rd, re, hG, q⟩ := h
  cases rd with
  | int i =>
    cases re with
    | int j =>
      have hG : (if CDivW i j then some (D.int (i / j)) else none) = some z := hG
      split at hG
      · rename_i hc
        cases hG
        exact op_fdivW pins s σ H _ _ v u Q I rx ry ⟨i, j, rfl, rfl, hc, done0 hz q (.int _)⟩
      · cases hG
    | _ => cases hG
  | _ => cases hG
theorem o_mod : OpR X (binaryOp .Mod) (rD2 X.K T modD) := by
  intro pins s σ H x y v u Q I rx ry h
  obtain ⟨F, d, e, z, hz, rd, re, hG, q⟩ := h
  cases rd with
  | int i =>
    cases re with
    | int j =>
      have hG : (if 0 < j then some (D.int (i % j)) else none) = some z := hG
      split at hG
      · rename_i hc
        cases hG
        exact op_mod pins s σ H _ _ v u Q I rx ry ⟨i, j, rfl, rfl, hc, done0 hz q (.int _)⟩
      · cases hG
    | _ => cases hG
  | _ => cases hG
theorem u_neg : UnR X (unaryOp .USub) (rD1 X.K T negD) := by
  intro pins s σ H x v Q I rx h
  obtain ⟨F, d, z, hz, rd, hG, q⟩ := h
  cases rd with
  | int i => cases hG; exact un_neg pins s σ H _ v Q I rx ⟨i, rfl, done0 hz q (.int _)⟩
  | _ => cases hG
theorem o_lt : OpR X (compareOp .Lt) (rD2 X.K T ltD) := by
  intro pins s σ H x y v u Q I rx ry h
  obtain ⟨F, d, e, z, hz, rd, re, hG, q⟩ := h
  cases rd with
  | int i =>
    cases re with
    | int j => cases hG; exact op_lt pins s σ H _ _ v u Q I rx ry ⟨i, j, rfl, rfl, done0 hz q (.bl _)⟩
    | _ => cases hG
  | _ => cases hG
theorem o_le : OpR X (compareOp .LtE) (rD2 X.K T leD) := by
  intro pins s σ H x y v u Q I rx ry h
  obtain ⟨F, d, e, z, hz, rd, re, hG, q⟩ := h
  cases rd with
  | int i =>
    cases re with
    | int j => cases hG; exact op_le pins s σ H _ _ v u Q I rx ry ⟨i, j, rfl, rfl, done0 hz q (.bl _)⟩
    | _ => cases hG
  | _ => cases hG
theorem o_gt : OpR X (compareOp .Gt) (rD2 X.K T gtD) := by
  intro pins s σ H x y v u Q I rx ry h
  obtain ⟨F, d, e, z, hz, rd, re, hG, q⟩ := h
  cases rd with
  | int i =>
    cases re with
    | int j => cases hG; exact op_gt pins s σ H _ _ v u Q I rx ry ⟨i, j, rfl, rfl, done0 hz q (.bl _)⟩
    | _ => cases hG
  | _ => cases hG
end
end DN
namespace DN
open PySem PySem.Spec PyProof.Rows L2
open LamX (Tabs ExtN)

/-! ### tests, and, or, not, chains -/
def andQ (f g : Rho → Res Bool) : Rho → Res Bool := fun ρ => (f ρ).bind fun b => if b = true then g ρ else .ok false
def orQ (f g : Rho → Res Bool) : Rho → Res Bool := fun ρ => (f ρ).bind fun b => if b = true then .ok true else g ρ
def notQ (f : Rho → Res Bool) : Rho → Res Bool := fun ρ => (f ρ).bind fun b => .ok (!b)
def andE (f g : Rho → Res D) : Rho → Res D := fun ρ => (f ρ).bind fun d => (ans d).bind fun b => if b = true then g ρ else .ok (.bl false)
def orE (f g : Rho → Res D) : Rho → Res D := fun ρ => (f ρ).bind fun d => (ans d).bind fun b => if b = true then .ok (.bl true) else g ρ
def notE (f : Rho → Res D) : Rho → Res D := fun ρ => (f ρ).bind fun d => (ans d).bind fun b => .ok (.bl (!b))
def chn (G G' : D → D → Option D) (f g h : Rho → Res D) : Rho → Res D := fun ρ => (f ρ).bind fun d => (g ρ).bind fun e => (ofO (G d e)).bind fun z => (ans z).bind fun k => if k = true then (h ρ).bind fun c => ofO (G' e c) else .ok (.bl false)
section
variable {X : Cx} {T : List (Addr × Str)} {W : WX}
theorem q_val {e : Expr} {f : Rho → Res D} (h : DE X T W e f) (he : ∀ whole, isTrue e X.env whole = (do let v ← whole; standAt e.pos; holding [v] (truthy v)) := by intro _; rfl) : DQ X T W e (tst f) :=
  (pt_val h he).to fun _ _ _ h => tst_to h
theorem w_or1 {a : Expr} {pos : Pos} {f : Rho → Res Bool} (h : DQ X T W a f) : DW X T W (.BoolOp .Or [a] pos) f := pw_or1 h
theorem w_or {a b : Expr} {rest : List Expr} {pos : Pos} {f g : Rho → Res Bool} (h : DQ X T W a f) (h2 : DW X T W (.BoolOp .Or (b :: rest) pos) g) : DW X T W (.BoolOp .Or (a :: b :: rest) pos) (orQ f g) :=
  (pw_or h h2).to fun σ H Q ⟨ρ, F, a, h⟩ => by
    refine ⟨ρ, F, a, (aft.bind (R := RBool) h).imp fun d _ v F1 H1 _ _ q => ?_⟩
    obtain ⟨b, F2, _, n, rv, q⟩ := q
    obtain rfl : v = b := rv
    cases v with
    | true => exact q.ok (Nx.refl n.z) rfl
    | false => exact ⟨ρ, F2, a.nx n, q⟩
theorem q_w {e : Expr} {f : Rho → Res Bool} (h : DW X T W e f) : DQ X T W e f := PW.pt h
theorem q_not {a : Expr} {pos : Pos} {f : Rho → Res Bool} (h : DQ X T W a f) : DQ X T W (.UnaryOp .Not a pos) (notQ f) :=
  (pt_not h).to fun σ H Q ⟨ρ, F, a, h⟩ => by
    refine ⟨ρ, F, a, (aft.bind (R := RBool) h).imp fun d _ v F1 H1 _ _ q => ?_⟩
    obtain ⟨b, F2, _, n, rv, q⟩ := q
    obtain rfl : v = b := rv
    exact q.ok (Nx.refl n.z) rfl
theorem e_one {op} {a : Expr} {pos : Pos} {f : Rho → Res D} (h : DE X T W a f) : DE X T W (.BoolOp op [a] pos) f := pe_one h
theorem bool_of {K : PySem.W.Frag} {σ : L2.St} {F H : Hp} {α β : Type} {R : Hp → α → β → Prop} {Q : α → Hp → Prop} {d : D} {v : V} {k : Bool → Res β} (rv : Rp K F v d) (q : aft R K T W σ F H Q ((ans d).bind k)) : ∃ c, v = .bl c ∧ d = .bl c ∧ aft R K T W σ F H Q (k c) := by
  cases rv with
  | bl c => exact ⟨c, rfl, rfl, q⟩
  | _ => exact q.elim
theorem e_and {a b : Expr} {rest : List Expr} {pos : Pos} {f g : Rho → Res D} (h : DE X T W a f) (h2 : DE X T W (.BoolOp .And (b :: rest) pos) g) : DE X T W (.BoolOp .And (a :: b :: rest) pos) (andE f g) :=
  (pe_and h h2).to fun σ H Q ⟨ρ, F, a, h⟩ => by
    refine ⟨ρ, F, a, (aft.bind (R := Rp X.K) h).imp fun d _ v F1 H1 _ _ q => ?_⟩
    obtain ⟨b, F2, _, n, rv, q⟩ := q
    obtain ⟨c, rfl, rfl, q⟩ := bool_of rv q
    refine ⟨c, rfl, ?_⟩
    cases c with
    | true => exact ⟨ρ, F2, a.nx n, q⟩
    | false => exact q.ok (Nx.refl n.z) (.bl false)
theorem e_or {a b : Expr} {rest : List Expr} {pos : Pos} {f g : Rho → Res D} (h : DE X T W a f) (h2 : DE X T W (.BoolOp .Or (b :: rest) pos) g) : DE X T W (.BoolOp .Or (a :: b :: rest) pos) (orE f g) :=
  (pe_or h h2).to fun σ H Q ⟨ρ, F, a, h⟩ => by
    refine ⟨ρ, F, a, (aft.bind (R := Rp X.K) h).imp fun d _ v F1 H1 _ _ q => ?_⟩
    obtain ⟨b, F2, _, n, rv, q⟩ := q
    obtain ⟨c, rfl, rfl, q⟩ := bool_of rv q
    refine ⟨c, rfl, ?_⟩
    cases c with
    | true => exact q.ok (Nx.refl n.z) (.bl true)
    | false => exact ⟨ρ, F2, a.nx n, q⟩
end

/-! ### displays, subscripts, slices -/
def mkT (f : Rho → Res (List D)) : Rho → Res D := fun ρ => (f ρ).bind fun ds => if ds.length ≤ sizeLine then .ok (.tup ds) else .bad
def mkL (f : Rho → Res (List D)) : Rho → Res D := fun ρ => (f ρ).bind fun ds => if ds.length ≤ sizeLine then .ok (.lst ds) else .bad
def ixD : D → D → Option D
  | .tup xs, .int i => atI xs i
  | .lst xs, .int i => atI xs i
  | .arr ns, .int i => (atI ns i).map .int
  | .str x, .int i => if x.length ≤ sizeLine then (atI x.cps.toList i).map fun c => .str ⟨#[c]⟩ else none
  | _, _ => none
def cutD (xs : List D) (lo hi : Option Int) : List D := (xs.drop (HT.sIx xs.length 0 lo)).take (HT.sIx xs.length xs.length hi - HT.sIx xs.length 0 lo)
def slD : D → Option Int → Option Int → Option D
  | .tup xs, lo, hi => some (.tup (cutD xs lo hi))
  | .lst xs, lo, hi => some (.lst (cutD xs lo hi))
  | .str x, lo, hi => if x.length ≤ sizeLine then some (.str (cutS x lo hi)) else none
  | _, _, _ => none
def pno : Rho → Res (Option Int) := fun _ => .ok none
def intO : D → Res (Option Int)
  | .int i => .ok (some i)
  | _ => .bad
def psm (f : Rho → Res D) : Rho → Res (Option Int) := fun ρ => (f ρ).bind intO
def slc (f : Rho → Res D) (g h : Rho → Res (Option Int)) : Rho → Res D := fun ρ => (f ρ).bind fun d => (g ρ).bind fun lo => (h ρ).bind fun hi => ofO (slD d lo hi)
section
variable {X : Cx} {T : List (Addr × Str)} {W : WX}
theorem e_tup {es : List Expr} {x1} {pos : Pos} {f : Rho → Res (List D)} (h : DA X T W es f) : DE X T W (.Tuple es x1 pos) (mkT f) :=
  (pe_tup h).to fun σ H Q ⟨ρ, F, a, h⟩ => by
    refine ⟨ρ, F, a, (aft.bind (R := RpAll X.K) h).imp fun d _ v F1 H1 _ _ q => ?_⟩
    obtain ⟨ds, F2, _, n, rv, q⟩ := q
    have q : aft (Rp X.K) X.K T W σ F2 H1 Q (if ds.length ≤ sizeLine then .ok (.tup ds) else .bad) := q
    split at q
    · rename_i hl
      exact ⟨by rw [rv.length]; exact hl, fun p hp => q _ _ _ (Nx.push n.z hp ntT) (rp_tup n.z hp rv)⟩
    · exact q.elim
theorem e_lst {es : List Expr} {pos : Pos} {f : Rho → Res (List D)} (h : DA X T W es f) : DE X T W (.List es pos) (mkL f) :=
  (pe_lst h).to fun σ H Q ⟨ρ, F, a, h⟩ => by
    refine ⟨ρ, F, a, (aft.bind (R := RpAll X.K) h).imp fun d _ v F1 H1 _ _ q => ?_⟩
    obtain ⟨ds, F2, _, n, rv, q⟩ := q
    have q : aft (Rp X.K) X.K T W σ F2 H1 Q (if ds.length ≤ sizeLine then .ok (.lst ds) else .bad) := q
    split at q
    · rename_i hl
      exact ⟨by rw [rv.length]; exact hl, fun p hp => q _ _ _ (Nx.push n.z hp ntL) (rp_lst n.z hp rv)⟩
    · exact q.elim
theorem atI_get {K : PySem.W.Frag} {F : Hp} {xs : List V} {ds : List D} {i : Int} {d : D} (r : RpAll K F xs ds) (h : atI ds i = some d) : ∃ v, atI xs i = some v ∧ Rp K F v d := by
  unfold atI at h ⊢
  rw [r.length]
  cases e : ixN ds.length i with
  | none => rw [e] at h; cases h
  | some j =>
    rw [e] at h
    exact r.get h
theorem atI_int {ns : List Int} {i : Int} {z : D} (h : (atI ns i).map D.int = some z) : ∃ n, atI (ns.map V.int) i = some (.int n) ∧ z = .int n := by
  unfold atI at h ⊢
  rw [List.length_map]
  cases e : ixN ns.length i with
  | none => rw [e] at h; cases h
  | some j =>
    rw [e] at h
    have h : (ns[j]?).map D.int = some z := h
    show ∃ n, (ns.map V.int)[j]? = some (.int n) ∧ z = .int n
    rw [List.getElem?_map]
    cases q : ns[j]? with
    | none => rw [q] at h; cases h
    | some n =>
      rw [q] at h
      cases h
      exact ⟨n, rfl, rfl⟩
theorem x_ix : IxR X (rD2 X.K T ixD) := by
  intro value slice pins s σ H x y v u Q I rx ry h hs
  obtain ⟨F, d, e, z, hz, rd, re, hG, q⟩ := h
  cases rd with
  | tup h1 r1 =>
    cases re with
    | int i =>
      obtain ⟨w, hw, rw'⟩ := atI_get r1 hG
      exact ix_tup value slice pins s σ H _ _ v u Q I rx ry ⟨_, _, i, w, rfl, rfl, hz.sub.st h1, hw, done0 hz q rw'⟩ hs
    | _ => cases hG
  | lst h1 r1 =>
    cases re with
    | int i =>
      obtain ⟨w, hw, rw'⟩ := atI_get r1 hG
      exact ix_list value slice pins s σ H _ _ v u Q I rx ry ⟨_, _, i, w, rfl, rfl, SqL.of (hz.sub _ _ h1), hw, done0 hz q rw'⟩ hs
    | _ => cases hG
  | arr h1 =>
    cases re with
    | int i =>
      obtain ⟨n, hn, rfl⟩ := atI_int hG
      exact ix_list value slice pins s σ H _ _ v u Q I rx ry ⟨_, _, i, .int n, rfl, rfl, hz.sub.sl h1, hn, done0 hz q (.int n)⟩ hs
    | _ => cases hG
  | str x =>
    cases re with
    | int i =>
      have hG : (if x.length ≤ sizeLine then (atI x.cps.toList i).map fun c => D.str ⟨#[c]⟩ else none) = some z := hG
      split at hG
      · rename_i hl
        cases e : atI x.cps.toList i with
        | none => rw [e] at hG; cases hG
        | some c =>
          rw [e] at hG
          cases hG
          exact ix_str value slice pins s σ H _ _ v u Q I rx ry ⟨x, i, c, rfl, rfl, hl, e, done0 hz q (.str _)⟩ hs
      · cases hG
    | _ => cases hG
  | _ => cases hG
theorem e_ix {a b : Expr} {f g : Rho → Res D} {pos : Pos} (ha : DE X T W a f) (hb : DE X T W b g) (hs : PlainIx b := by exact fun _ _ => rfl) : DE X T W (.Subscript a b pos) (bop ixD f g) :=
  (pe_ix x_ix ha hb hs).to fun _ _ _ h => bin_to h
abbrev DO (X : Cx) (T : List (Addr × Str)) (W : WX) (e : Option Expr) (f : Rho → Res (Option Int)) : Prop := PO X e (tG (fun _ _ a b => a = b) X.K T W f)
theorem _root_.L2.PO.to {X : Cx} {e : Option Expr} {t u : TO} (h : PO X e t) (k : ∀ σ H Q, u σ H Q → t σ H Q) : PO X e u := ⟨fun pins s σ H Q I q => h.run pins s σ H Q I (k σ H Q q)⟩
theorem p_none : DO X T W none pno := po_none.to fun σ H Q ⟨ρ, F, a, h⟩ => h _ F H (Nx.refl a.z) rfl
theorem p_some {e : Expr} {f : Rho → Res D} (h : DE X T W e f) : DO X T W (some e) (psm f) :=
  (po_some h).to fun σ H Q ⟨ρ, F, a, h⟩ => by
    refine ⟨ρ, F, a, (aft.bind (R := Rp X.K) h).imp fun d _ v F1 H1 _ _ q => ?_⟩
    obtain ⟨b, F2, _, n, rv, q⟩ := q
    cases rv with
    | int i => exact ⟨i, rfl, q.ok (Nx.refl n.z) rfl⟩
    | _ => exact q.elim
theorem RpAll.cut {K : PySem.W.Frag} {F : Hp} {xs : List V} {ds : List D} (r : RpAll K F xs ds) (lo hi : Option Int) : RpAll K F (cutV xs lo hi) (cutD ds lo hi) := by
  unfold cutV cutD
  rw [r.length]
  exact (r.drop _).take _
theorem cut_whole {ds : List D} {lo hi : Option Int} (h : HT.sIx ds.length 0 lo = 0 ∧ HT.sIx ds.length ds.length hi = ds.length) : cutD ds lo hi = ds := by
  unfold cutD
  rw [h.1, h.2]
  simp
def rSlD (K : PySem.W.Frag) (T : List (Addr × Str)) : V → Option Int → Option Int → Hp → VK → Prop := fun x lo hi H Q =>
  ∃ F d z, Fz F H ∧ Rp K F x d ∧ slD d lo hi = some z ∧ ∀ v F' H', Nx T F H F' H' → Rp K F' v z → Q v H'
theorem x_sl : SlR X (rSlD X.K T) := by
  intro pins s σ H x v vl vu lo hi sl Q I rx hs pl pu h
  obtain ⟨F, d, z, hz, rd, hG, q⟩ := h
  cases rd with
  | tup h1 r1 =>
    cases hG
    refine sl_tupA pins s σ H _ v vl vu lo hi sl Q I rx hs pl pu ⟨_, _, rfl, hz.sub.st h1, fun hw => ?_, fun _ p hp => donep hz hp ntT q (rp_tup hz hp (r1.cut lo hi))⟩
    rw [r1.length] at hw
    rw [cut_whole hw] at q
    exact done0 hz q (.tup h1 r1)
  | lst h1 r1 =>
    cases hG
    exact sl_list pins s σ H _ v vl vu lo hi sl Q I rx hs pl pu ⟨_, _, rfl, SqL.of (hz.sub _ _ h1), fun p hp => donep hz hp ntL q (rp_lst hz hp (r1.cut lo hi))⟩
  | str x =>
    have hG : (if x.length ≤ sizeLine then some (D.str (cutS x lo hi)) else none) = some z := hG
    split at hG
    · rename_i hl
      cases hG
      exact sl_str pins s σ H _ v vl vu lo hi sl Q I rx hs pl pu ⟨x, rfl, hl, done0 hz q (.str _)⟩
    · cases hG
  | _ => cases hG
theorem e_sl {e : Expr} {lo hi : Option Expr} {f : Rho → Res D} {g h : Rho → Res (Option Int)} {p2 pos : Pos} (he : DE X T W e f) (hl : DO X T W lo g) (hh : DO X T W hi h) : DE X T W (.Subscript e (.Slice lo hi none p2) pos) (slc f g h) :=
  (pe_slice x_sl he hl hh).to fun σ H Q ⟨ρ, F, a, h⟩ => by
    refine ⟨ρ, F, a, (aft.bind (R := Rp X.K) h).imp fun d _ v F1 H1 _ _ q => ?_⟩
    obtain ⟨b, F2, _, n, rv, q⟩ := q
    refine ⟨ρ, F2, a.nx n, (aft.bind (R := fun _ a b => a = b) q).imp fun lo _ v' F3 H3 _ _ q => ?_⟩
    obtain ⟨lo', F4, _, n2, rl, q⟩ := q
    subst rl
    refine ⟨ρ, F4, a.nx (n.trans n2), (aft.bind (R := fun _ a b => a = b) q).imp fun hi _ v'' F5 H5 _ _ q => ?_⟩
    obtain ⟨hi', F6, _, n3, rh, q⟩ := q
    subst rh
    obtain ⟨z, hz, q⟩ := ofO_ok q
    exact ⟨F6, b, z, n3.z, rv.mono (n2.trans n3).f, hz, q⟩
end

/-! ### calls of built-ins -/
section
variable {X : Cx} {T : List (Addr × Str)} {W : WX}
theorem cal_to {K : PySem.W.Frag} {G : List D → Option D} {f : Rho → Res (List D)} {σ : L2.St} {H : Hp} {Q : VK} (h : tE K T W (cal G f) σ H Q) : tCB (rDn K T G) (tA K T W f) σ H Q := by
  obtain ⟨ρ, F, a, h⟩ := h
  refine ⟨ρ, F, a, (aft.bind (R := RpAll K) h).imp fun d _ v F1 H1 _ _ q => ?_⟩
  obtain ⟨b, F2, _, n, rv, q⟩ := q
  obtain ⟨z, hz, q⟩ := ofO_ok q
  exact ⟨F2, b, z, n.z, rv, hz, q⟩
theorem e_callB {id : String} {x : Str} {G : List D → Option D} {e : Expr} {es : List Expr} {p pos : Pos} {f : Rho → Res (List D)} (hc : CallR X (.builtin id) (rDn X.K T G)) (hg : Gl X x) (hm : X.mg x = none) (hv : bootBuiltins x = some (.builtin id)) (ha : DA X T W (e :: es) f)
    (hn : x ≠ "__name__" := by decide) (hdb : (x == ("__debug__" : Str)) = false := by decide) (hpl : starEach (e :: es) X.env = (false, eval e X.env) :: starEach es X.env := by rfl) (hpl2 : (backTo pos (starEach es X.env)).any (·.1) = false := by rfl) : DE X T W (.Call (.Name x p) (e :: es) [] pos) (cal G f) :=
  (pe_callB hc hg hm hv ha hn hdb hpl hpl2).to fun _ _ _ h => cal_to h
theorem e_callTy {T' : String} {x : Str} {G : List D → Option D} {e : Expr} {es : List Expr} {p pos : Pos} {f : Rho → Res (List D)} (hc : CallR X (.type T') (rDn X.K T G)) (hg : Gl X x) (hm : X.mg x = none) (hv : bootBuiltins x = some (.type T')) (ha : DA X T W (e :: es) f)
    (hn : x ≠ "__name__" := by decide) (hdb : (x == ("__debug__" : Str)) = false := by decide) (hpl : starEach (e :: es) X.env = (false, eval e X.env) :: starEach es X.env := by rfl) (hpl2 : (backTo pos (starEach es X.env)).any (·.1) = false := by rfl) : DE X T W (.Call (.Name x p) (e :: es) [] pos) (cal G f) :=
  (pe_callTy hc hg hm hv ha hn hdb hpl hpl2).to fun _ _ _ h => cal_to h
end
def lenD : List D → Option D
  | [.str x] => if x.length ≤ sizeLine then some (.int x.length) else none
  | [.tup xs] => some (.int xs.length)
  | [.lst xs] => some (.int xs.length)
  | [.arr ns] => some (.int ns.length)
  | _ => none
def absD : List D → Option D
  | [.int i] => some (.int (if i < 0 then -i else i))
  | _ => none
def maxD : List D → Option D
  | [.int i, .int j] => some (.int (if j > i then j else i))
  | _ => none
def minD : List D → Option D
  | [.int i, .int j] => some (.int (if j < i then j else i))
  | _ => none
def intD : List D → Option D
  | [.int i] => some (.int i)
  | [.bl k] => some (.int (if k then 1 else 0))
  | [.str x] => if x.length ≤ 640 then (PySem.intText? x).map .int else none
  | _ => none
def tupD : List D → Option D
  | [.lst xs] => some (.tup xs)
  | [.tup xs] => some (.tup xs)
  | _ => none
def allB : List D → Option (List Bool)
  | [] => some []
  | .bl b :: r => (allB r).map (b :: ·)
  | _ => none
def allD : List D → Option D
  | [.lst xs] => (allB xs).map fun bs => .bl (bs.all id)
  | _ => none
def tyD : D → Option String
  | .non => some "NoneType"
  | .bl _ => some "bool"
  | .int _ => some "int"
  | .str _ => some "str"
  | .lst _ => some "list"
  | .tup _ => some "tuple"
  | _ => none
def isiD : List D → Option D
  | [d, .ty n] => (tyD d).bind fun t => (kitB t n).map .bl
  | _ => none
section
variable {X : Cx} {T : List (Addr × Str)} {W : WX}
theorem all1 {K : PySem.W.Frag} {F : Hp} {xs : List V} {d : D} (r : RpAll K F xs [d]) : ∃ v, xs = [v] ∧ Rp K F v d := by
  cases r with
  | cons h t => cases t; exact ⟨_, rfl, h⟩
theorem all2 {K : PySem.W.Frag} {F : Hp} {xs : List V} {d e : D} (r : RpAll K F xs [d, e]) : ∃ v w, xs = [v, w] ∧ Rp K F v d ∧ Rp K F w e := by
  cases r with
  | cons h t =>
    obtain ⟨w, rfl, h2⟩ := all1 t
    exact ⟨_, w, rfl, h, h2⟩
theorem c_len : CallR X (.builtin "len") (rDn X.K T lenD) := by
  intro pins s σ H xs us Q I r h
  obtain ⟨F, ds, z, hz, rs, hG, q⟩ := h
  unfold lenD at hG
  split at hG
  · rename_i x
    obtain ⟨v, rfl, rv⟩ := all1 rs
    cases rv
    split at hG
    · rename_i hl
      cases hG
      exact call_len_str pins s σ H _ us Q I r ⟨x, rfl, hl, done0 hz q (.int _)⟩
    · cases hG
  · obtain ⟨v, rfl, rv⟩ := all1 rs
    cases hG
    cases rv with
    | tup h1 r1 => exact call_len_seq pins s σ H _ us Q I r ⟨_, _, rfl, .inr (hz.sub.st h1), by rw [r1.length]; exact done0 hz q (.int _)⟩
  · obtain ⟨v, rfl, rv⟩ := all1 rs
    cases hG
    cases rv with
    | lst h1 r1 => exact call_len_seq pins s σ H _ us Q I r ⟨_, _, rfl, .inl (SqL.of (hz.sub _ _ h1)), by rw [r1.length]; exact done0 hz q (.int _)⟩
  · obtain ⟨v, rfl, rv⟩ := all1 rs
    cases hG
    cases rv with
    | arr h1 => exact call_len_seq pins s σ H _ us Q I r ⟨_, _, rfl, .inl (hz.sub.sl h1), by rw [List.length_map]; exact done0 hz q (.int _)⟩
  · cases hG
theorem c_int : CallR X (.type "int") (rDn X.K T intD) := by
  intro pins s σ H xs us Q I r h
  obtain ⟨F, ds, z, hz, rs, hG, q⟩ := h
  unfold intD at hG
  split at hG
  · obtain ⟨v, rfl, rv⟩ := all1 rs
    cases rv
    cases hG
    exact call_int1 pins s σ H _ us Q I r (.inl ⟨_, rfl, done0 hz q (.int _)⟩)
  · obtain ⟨v, rfl, rv⟩ := all1 rs
    cases rv
    cases hG
    exact call_int1 pins s σ H _ us Q I r (.inr ⟨_, rfl, done0 hz q (.int _)⟩)
  · rename_i x
    obtain ⟨v, rfl, rv⟩ := all1 rs
    cases rv
    split at hG
    · rename_i hl
      cases e : PySem.intText? x with
      | none => rw [e] at hG; cases hG
      | some n =>
        rw [e] at hG
        cases hG
        exact call_int_str pins s σ H _ us Q I r ⟨x, n, rfl, e, hl, done0 hz q (.int _)⟩
    · cases hG
  · cases hG
theorem c_tup : CallR X (.type "tuple") (rDn X.K T tupD) := by
  intro pins s σ H xs us Q I r h
  obtain ⟨F, ds, z, hz, rs, hG, q⟩ := h
  unfold tupD at hG
  split at hG
  · obtain ⟨v, rfl, rv⟩ := all1 rs
    cases hG
    cases rv with
    | lst h1 r1 => exact call_tuple_of pins s σ H _ us Q I r ⟨_, _, rfl, .inl ⟨SqL.of (hz.sub _ _ h1), fun p hp => donep hz hp ntT q (rp_tup hz hp r1)⟩⟩
  · obtain ⟨v, rfl, rv⟩ := all1 rs
    cases hG
    cases rv with
    | tup h1 r1 => exact call_tuple_of pins s σ H _ us Q I r ⟨_, _, rfl, .inr ⟨hz.sub.st h1, done0 hz q (.tup h1 r1)⟩⟩
  · cases hG
theorem allB_rp {K : PySem.W.Frag} {F : Hp} : ∀ {ds : List D} {xs : List V} {bs : List Bool}, RpAll K F xs ds → allB ds = some bs → xs = bs.map V.bl
  | [], _, bs, .nil, h => by cases h; rfl
  | .bl b :: ds, _, bs, .cons r t, h => by
    have h : (allB ds).map (b :: ·) = some bs := h
    cases e : allB ds with
    | none => rw [e] at h; cases h
    | some bs' =>
      rw [e] at h
      cases h
      cases r
      rw [allB_rp t e] <;> rfl
  | .non :: _, _, _, _, h => by cases h
  | .int _ :: _, _, _, _, h => by cases h
  | .str _ :: _, _, _, _, h => by cases h
  | .lst _ :: _, _, _, _, h => by cases h
  | .tup _ :: _, _, _, _, h => by cases h
  | .fn _ :: _, _, _, _, h => by cases h
  | .ty _ :: _, _, _, _, h => by cases h
  | .dK _ :: _, _, _, _, h => by cases h
  | .dT _ :: _, _, _, _, h => by cases h
  | .arr _ :: _, _, _, _, h => by cases h
  | .pro _ :: _, _, _, _, h => by cases h
  | .dic _ _ _ _ :: _, _, _, _, h => by cases h
  | .adr _ :: _, _, _, _, h => by cases h
  | .ins _ _ _ :: _, _, _, _, h => by cases h
  | .tab _ _ _ :: _, _, _, _, h => by cases h
theorem c_all (hc : X.calm = true) : CallR X (.builtin "all") (rDn X.K T allD) := by
  intro pins s σ H xs us Q I r h
  obtain ⟨F, ds, z, hz, rs, hG, q⟩ := h
  unfold allD at hG
  split at hG
  · rename_i es
    obtain ⟨v, rfl, rv⟩ := all1 rs
    cases e : allB es with
    | none => rw [e] at hG; cases hG
    | some bs =>
      rw [e] at hG
      cases hG
      cases rv with
      | lst h1 r1 =>
        have ex := allB_rp r1 e
        subst ex
        exact cr_all hc pins s σ H _ us Q I r ⟨_, bs, rfl, SqL.of (hz.sub _ _ h1), done0 hz q (.bl _)⟩
  · cases hG
theorem ty_of {K : PySem.W.Frag} {F H : Hp} {v : V} {d : D} {t : String} (hz : Fz F H) (r : Rp K F v d) (h : tyD d = some t) : TyX K H v (.type t) := by
  cases r with
  | non => cases h; exact .base .non
  | bl b => cases h; exact .base (.bl b)
  | int i => cases h; exact .base (.int i)
  | str x => cases h; exact .base (.str x)
  | lst h1 _ => cases h; exact .base (.lst (hz.sub _ _ h1))
  | tup h1 _ =>
    cases h
    rcases h1 with (h1 | ⟨o, h1⟩) | ⟨o, its, n, hk, hc, _⟩
    · exact .base (.tup (hz.sub _ _ h1))
    · exact .fTuple (hz.sub _ _ h1)
    · exact .kTuple hk hc
  | _ => cases h
theorem c_isi : CallR X (.builtin "isinstance") (rDn X.K T isiD) := by
  intro pins s σ H xs us Q I r h
  obtain ⟨F, ds, z, hz, rs, hG, q⟩ := h
  unfold isiD at hG
  split at hG
  · rename_i d n
    obtain ⟨v, w, rfl, rv, rw'⟩ := all2 rs
    cases rw'
    cases e : tyD d with
    | none => rw [e] at hG; cases hG
    | some t =>
      rw [e] at hG
      have hG : (kitB t n).map D.bl = some z := hG
      cases e2 : kitB t n with
      | none => rw [e2] at hG; cases hG
      | some b =>
        rw [e2] at hG
        cases hG
        exact call_isi pins s σ H _ us Q I r ⟨v, _, _, _, b, rfl, .ty n, ty_of hz rv e, kit_ty e2, done0 hz q (.bl b)⟩
  · cases hG
end
end DN
namespace DN
open PySem PySem.Spec PyProof.Rows L2
open LamX (Tabs ExtN)

/-! ### == and != of data -/
def flatD : D → Bool
  | .non => true
  | .bl _ => true
  | .int _ => true
  | .str _ => true
  | _ => false
mutual
def eqd : D → D → Bool
  | .non, .non => true
  | .bl a, .bl b => a == b
  | .bl a, .int j => (if a then 1 else 0) == j
  | .int i, .bl b => i == (if b then 1 else 0)
  | .int i, .int j => i == j
  | .str x, .str y => x == y
  | .lst xs, .lst ys => eqds xs ys
  | .tup xs, .tup ys => eqds xs ys
  | _, _ => false
def eqds : List D → List D → Bool
  | [], [] => true
  | x :: xs, y :: ys => eqd x y && eqds xs ys
  | _, _ => false
end
mutual
/-- plain data that is no deeper than n -/
def plain : Nat → D → Bool
  | _, .non => true
  | _, .bl _ => true
  | _, .int _ => true
  | _, .str x => PyData.strOk x
  | n + 1, .lst xs => plains n xs
  | n + 1, .tup xs => plains n xs
  | _, _ => false
def plains : Nat → List D → Bool
  | _, [] => true
  | n, x :: xs => plain n x && plains n xs
end
mutual
def pyO : D → PyData
  | .non => .none
  | .bl b => .bool b
  | .int i => .int i
  | .str x => .str x
  | .lst xs => .list (pyA xs)
  | .tup xs => .tuple (pyA xs)
  | _ => .none
def pyA : List D → List PyData
  | [] => []
  | x :: xs => pyO x :: pyA xs
end
mutual
theorem plain_py {K : PySem.W.Frag} {H : Hp} : ∀ (n : Nat) (d : D) (v : V), plain n d = true → Rp K H v d → Dp K H v (pyO d) ∧ (pyO d).canLay0 = true ∧ (pyO d).depth ≤ n
  | n, .non, _, _, .non => by
    unfold pyO
    exact ⟨.non, by simp [PyData.canLay0], by simp [PyData.depth]⟩
  | n, .bl b, _, _, .bl _ => by
    unfold pyO
    exact ⟨.bl b, by simp [PyData.canLay0], by simp [PyData.depth]⟩
  | n, .int b, _, _, .int _ => by
    unfold pyO
    exact ⟨.int b, by simp [PyData.canLay0], by simp [PyData.depth]⟩
  | n, .str b, _, h, .str _ => by
    unfold plain at h
    unfold pyO
    exact ⟨.str b, by simpa [PyData.canLay0] using h, by simp [PyData.depth]⟩
  | n + 1, .lst xs, _, h, .lst h1 r => by
    unfold plain at h
    obtain ⟨a, b, c⟩ := plains_py n xs _ h r
    unfold pyO
    exact ⟨.lst (SqL.of h1) a, by simpa [PyData.canLay0] using b, by simp only [PyData.depth]; omega⟩
  | n + 1, .tup xs, _, h, .tup h1 r => by
    unfold plain at h
    obtain ⟨a, b, c⟩ := plains_py n xs _ h r
    unfold pyO
    exact ⟨.tup h1 a, by simpa [PyData.canLay0] using b, by simp only [PyData.depth]; omega⟩
  | 0, .lst xs, _, h, _ => by simp [plain] at h
  | 0, .tup xs, _, h, _ => by simp [plain] at h
  | _, .fn _, _, h, _ => by simp [plain] at h
  | _, .ty _, _, h, _ => by simp [plain] at h
  | _, .dK _, _, h, _ => by simp [plain] at h
  | _, .dT _, _, h, _ => by simp [plain] at h
  | _, .arr _, _, h, _ => by simp [plain] at h
  | _, .pro _, _, h, _ => by simp [plain] at h
  | _, .dic _ _ _ _, _, h, _ => by simp [plain] at h
  | _, .adr _, _, h, _ => by simp [plain] at h
  | _, .ins _ _ _, _, h, _ => by simp [plain] at h
  | _, .tab _ _ _, _, h, _ => by simp [plain] at h
theorem plains_py {K : PySem.W.Frag} {H : Hp} : ∀ (n : Nat) (ds : List D) (vs : List V), plains n ds = true → RpAll K H vs ds → DpAll K H vs (pyA ds) ∧ PyData.canLayAll0 (pyA ds) = true ∧ PyData.depthAll (pyA ds) ≤ n
  | n, [], _, _, .nil => by
    unfold pyA
    exact ⟨.nil, by simp [PyData.canLayAll0], by simp [PyData.depthAll]⟩
  | n, d :: ds, _, h, .cons r t => by
    unfold plains at h
    rw [Bool.and_eq_true] at h
    obtain ⟨a, b, c⟩ := plain_py n d _ h.1 r
    obtain ⟨a2, b2, c2⟩ := plains_py n ds _ h.2 t
    unfold pyA
    exact ⟨.cons a a2, by simp [PyData.canLayAll0, b, b2], by simp only [PyData.depthAll]; omega⟩
end
mutual
theorem eqd_py : ∀ (n m : Nat) (d e : D), plain n d = true → plain m e = true → PyData.eqv (pyO d) (pyO e) = eqd d e
  | n, m, d, e, hd, he => by
    cases d <;> cases e <;> first
      | (simp only [pyO, PyData.eqv, eqd]; done)
      | (cases n <;> simp [plain] at hd; done)
      | (cases m <;> simp [plain] at he; done)
      | (cases n with
         | zero => simp [plain] at hd
         | succ n =>
           cases m with
           | zero => simp [plain] at he
           | succ m =>
             unfold plain at hd he
             simp only [pyO, PyData.eqv, eqd]
             exact eqds_py n m _ _ hd he)
theorem eqds_py : ∀ (n m : Nat) (d e : List D), plains n d = true → plains m e = true → PyData.eqvAll (pyA d) (pyA e) = eqds d e
  | n, m, [], [], _, _ => by simp [pyA, PyData.eqvAll, eqds]
  | n, m, [], _ :: _, _, _ => by simp [pyA, PyData.eqvAll, eqds]
  | n, m, _ :: _, [], _, _ => by simp [pyA, PyData.eqvAll, eqds]
  | n, m, x :: xs, y :: ys, hd, he => by
    unfold plains at hd he
    rw [Bool.and_eq_true] at hd he
    simp only [pyA, PyData.eqvAll, eqds]
    rw [eqd_py n m x y hd.1 he.1, eqds_py n m xs ys hd.2 he.2]
end
def eqOk (d e : D) : Bool := (flatD d && flatD e) || (plain 64 d && plain 64 e)
def eqD (d e : D) : Option D := if eqOk d e = true then some (.bl (eqd d e)) else none
def neD (d e : D) : Option D := if eqOk d e = true then some (.bl (!eqd d e)) else none
section
variable {X : Cx} {T : List (Addr × Str)} {W : WX}
/-- either two scalars that == tells apart, or plain data -/
theorem eq_cases {K : PySem.W.Frag} {F H : Hp} {x y : V} {d e : D} (hz : Fz F H) (rd : Rp K F x d) (re : Rp K F y e) (h : eqOk d e = true) :
    (scal x y = true ∧ decide (x = y) = eqd d e) ∨ (∃ a b, Dp K H x a ∧ Dp K H y b ∧ SeqAt.shaped a = true ∧ SeqAt.shaped b = true ∧ PyData.eqv a b = eqd d e) := by
  have deep : plain 64 d = true → plain 64 e = true → ∃ a b, Dp K H x a ∧ Dp K H y b ∧ SeqAt.shaped a = true ∧ SeqAt.shaped b = true ∧ PyData.eqv a b = eqd d e := fun hd he => by
    obtain ⟨a1, a2, a3⟩ := plain_py 64 d x hd (rd.mono hz.sub)
    obtain ⟨b1, b2, b3⟩ := plain_py 64 e y he (re.mono hz.sub)
    refine ⟨_, _, a1, b1, ?_, ?_, eqd_py 64 64 d e hd he⟩
    · unfold SeqAt.shaped
      rw [a2, decide_eq_true a3] <;> rfl
    · unfold SeqAt.shaped
      rw [b2, decide_eq_true b3] <;> rfl
  unfold eqOk at h
  rw [Bool.or_eq_true, Bool.and_eq_true, Bool.and_eq_true] at h
  rcases h with ⟨h1, h2⟩ | ⟨h1, h2⟩
  · cases rd <;> cases re <;> first
      | (cases h1; done)
      | (cases h2; done)
      | (refine .inr (deep ?_ ?_) <;> simp [plain] <;> done)
      | (refine .inl ⟨rfl, ?_⟩; simp only [eqd]; first | exact dec_str | (simp; done))
  · exact .inr (deep h1 h2)
theorem o_eq (hu : X.A.units + 64 < cLine) : OpR X (compareOp .Eq) (rD2 X.K T eqD) := by
  intro pins s σ H x y v u Q I rx ry h
  obtain ⟨F, d, e, z, hz, rd, re, hG, q⟩ := h
  unfold eqD at hG
  split at hG
  · rename_i hk
    cases hG
    rcases eq_cases hz rd re hk with ⟨h1, h2⟩ | ⟨a, b, h1, h2, h3, h4, h5⟩
    · exact op_eq pins s σ H x y v u Q I rx ry ⟨h1, by rw [h2]; exact done0 hz q (.bl _)⟩
    · exact op_eqD hu pins s σ H x y v u Q I rx ry ⟨a, b, h1, h2, h3, h4, by rw [h5]; exact done0 hz q (.bl _)⟩
  · cases hG
theorem o_ne (hu : X.A.units + 64 < cLine) : OpR X (compareOp .NotEq) (rD2 X.K T neD) := by
  intro pins s σ H x y v u Q I rx ry h
  obtain ⟨F, d, e, z, hz, rd, re, hG, q⟩ := h
  unfold neD at hG
  split at hG
  · rename_i hk
    cases hG
    rcases eq_cases hz rd re hk with ⟨h1, h2⟩ | ⟨a, b, h1, h2, h3, h4, h5⟩
    · exact op_ne pins s σ H x y v u Q I rx ry ⟨h1, by rw [h2]; exact done0 hz q (.bl _)⟩
    · exact op_neD hu pins s σ H x y v u Q I rx ry ⟨a, b, h1, h2, h3, h4, by rw [h5]; exact done0 hz q (.bl _)⟩
  · cases hG
end

/-! ### in, not in -/
def hasS (x y : Str) : Bool := if x.cps.size = 1 then decide (x.cps.getD 0 0 ∈ y.cps.toList) else !(Builtin.Str.occurrences y x 0 y.length 1).isEmpty
def inL (d : D) (xs : List D) : Option Bool := if (flatD d && xs.all flatD) = true then some (xs.any fun y => eqd y d) else if (plain 60 d && plains 60 xs) = true then some (xs.any fun y => eqd y d) else none
def inB : D → D → Option Bool
  | .str x, .str y => some (hasS x y)
  | d, .tup xs => inL d xs
  | d, .lst xs => inL d xs
  | _, _ => none
def inD (d e : D) : Option D := (inB d e).map .bl
def niD (d e : D) : Option D := (inB d e).map fun b => .bl (!b)
section
variable {X : Cx} {T : List (Addr × Str)} {W : WX}
theorem flat_rp {K : PySem.W.Frag} {F : Hp} {v : V} {d : D} (r : Rp K F v d) (h : flatD d = true) : flatV v = true := by
  cases r <;> first | rfl | cases h
theorem flat_all {K : PySem.W.Frag} {F : Hp} : ∀ {vs : List V} {ds : List D}, RpAll K F vs ds → ds.all flatD = true → vs.all flatV = true
  | _, _, .nil, _ => rfl
  | _, _, .cons r t, h => by
    rw [List.all_cons, Bool.and_eq_true] at h
    rw [List.all_cons, flat_rp r h.1, flat_all t h.2] <;> rfl
theorem eqV_eqd {K : PySem.W.Frag} {F : Hp} {v w : V} {d e : D} (r : Rp K F v d) (q : Rp K F w e) (h : flatD d = true) (h2 : flatD e = true) : eqV v w = eqd d e := by
  cases r <;> first
    | (cases h; done)
    | (cases q <;> first | (cases h2; done) | (simp [eqV, eqd]; done))
theorem inV_eq {K : PySem.W.Frag} {F : Hp} {w : V} {e : D} (q : Rp K F w e) (h2 : flatD e = true) : ∀ {vs : List V} {ds : List D}, RpAll K F vs ds → ds.all flatD = true → inV w vs = ds.any fun y => eqd y e
  | _, _, .nil, _ => rfl
  | v :: vs, d :: ds, .cons r t, h => by
    rw [List.all_cons, Bool.and_eq_true] at h
    have ih := inV_eq q h2 t h.2
    unfold inV at ih ⊢
    rw [List.any_cons, List.any_cons, ih, eqV_eqd r q h.1 h2]
theorem one_of {x : Str} (h : x.cps.size = 1) : x = ⟨#[x.cps.getD 0 0]⟩ := by
  obtain ⟨cps⟩ := x
  simp only at h ⊢
  congr 1
  apply Array.ext
  · simp [h]
  · intro i h1 h2
    have : i = 0 := by omega
    subst this
    simp [Array.getD, h]
theorem any_py (d : D) (hd : plain 60 d = true) : ∀ ds : List D, plains 60 ds = true → ((pyA ds).any fun z => PyData.eqv z (pyO d)) = ds.any fun y => eqd y d
  | [], _ => rfl
  | y :: ds, h => by
    have h : (plain 60 y && plains 60 ds) = true := h
    rw [Bool.and_eq_true] at h
    show (PyData.eqv (pyO y) (pyO d) || (pyA ds).any fun z => PyData.eqv z (pyO d)) = _
    rw [eqd_py 60 60 y d h.1 hd, any_py d hd ds h.2]
    rfl
theorem in_deep {pins : List (Addr × Obj)} {s : Shared} {σ : L2.St} {H F : Hp} {x : V} {v u : Value} {a : Addr} {xs : List V} {d : D} {ds : List D} {Q : VK} (hu : X.A.units + 64 < cLine) (I : Inv X pins σ H s) (hz : Fz F H) (rx : RelV x v) (ry : RelV (.ref a) u) (rd : Rp X.K F x d) (hs : SqT X.K F a xs ∨ F a = some (.lst xs)) (r1 : RpAll X.K F xs ds) (hd : plain 60 d = true) (hds : plains 60 ds = true) :
    (Q (.bl (ds.any fun y => eqd y d)) H → wpAny (model X.prog X.w) X.A (compareOp .In v u) (EP X pins σ Q) X.xe s) ∧ (Q (.bl (!ds.any fun y => eqd y d)) H → wpAny (model X.prog X.w) X.A (compareOp .NotIn v u) (EP X pins σ Q) X.xe s) := by
  obtain ⟨a1, a2, a3⟩ := plain_py 60 d x hd (rd.mono hz.sub)
  obtain ⟨b1, b2, b3⟩ := plains_py 60 ds xs hds (r1.mono hz.sub)
  obtain ⟨as, q1⟩ := Dp.reads I _ x v a1 rx
  have room : X.A.units + 1 + min (PyData.depthAll (pyA ds)) (pyO d).depth < cLine := by omega
  rw [← any_py d hd ds hds]
  rcases hs with hs | hs
  · have c1 : Dp X.K H (.ref a) (.tuple (pyA ds)) := Dp.tup (hz.sub.st hs) b1
    obtain ⟨bs, q2⟩ := Dp.reads I _ (.ref a) u c1 ry
    exact ⟨fun q => SeqAt.in_tuple_reads q2 q1 b2 a2 room ⟨.bl _, H, I, rfl, q⟩, fun q => SeqAt.notIn_tuple_reads q2 q1 b2 a2 room ⟨.bl _, H, I, rfl, q⟩⟩
  · have c1 : Dp X.K H (.ref a) (.list (pyA ds)) := Dp.lst (SqL.of (hz.sub _ _ hs)) b1
    obtain ⟨bs, q2⟩ := Dp.reads I _ (.ref a) u c1 ry
    exact ⟨fun q => SeqAt.in_list_reads q2 q1 b2 a2 room ⟨.bl _, H, I, rfl, q⟩, fun q => SeqAt.notIn_list_reads q2 q1 b2 a2 room ⟨.bl _, H, I, rfl, q⟩⟩
theorem o_in (hu : X.A.units + 64 < cLine) : OpR X (compareOp .In) (rD2 X.K T inD) := by
  intro pins s σ H x y v u Q I rx ry h
  obtain ⟨F, d, e, z, hz, rd, re, hG, q⟩ := h
  unfold inD at hG
  cases hb : inB d e with
  | none => rw [hb] at hG; cases hG
  | some b =>
    rw [hb] at hG
    cases hG
    cases re with
    | str y =>
      cases rd with
      | str x =>
        have hb : some (hasS x y) = some b := hb
        unfold hasS at hb
        split at hb
        · rename_i h1
          cases hb
          exact op_in_sign pins s σ H _ _ v u Q I rx ry ⟨x.cps.getD 0 0, y, congrArg V.str (one_of h1), rfl, done0 hz q (.bl _)⟩
        · cases hb
          exact op_in_str pins s σ H _ _ v u Q I rx ry ⟨x, y, rfl, rfl, done0 hz q (.bl _)⟩
      | _ => cases hb
    | tup h1 r1 =>
      rename_i a xs ds
      have hb : inL d ds = some b := by
        cases d <;> exact hb
      unfold inL at hb
      split at hb
      · rename_i hf
        rw [Bool.and_eq_true] at hf
        cases hb
        refine op_in_seq pins s σ H _ _ v u Q I rx ry ⟨a, xs, rfl, .inr (hz.sub.st h1), flat_rp rd hf.1, flat_all r1 hf.2, ?_⟩
        rw [inV_eq rd hf.1 r1 hf.2]
        exact done0 hz q (.bl _)
      · split at hb
        · rename_i hf
          rw [Bool.and_eq_true] at hf
          cases hb
          exact (in_deep hu I hz rx ry rd (.inl h1) r1 hf.1 hf.2).1 (done0 hz q (.bl _))
        · cases hb
    | lst h1 r1 =>
      rename_i a xs ds
      have hb : inL d ds = some b := by
        cases d <;> exact hb
      unfold inL at hb
      split at hb
      · rename_i hf
        rw [Bool.and_eq_true] at hf
        cases hb
        refine op_in_seq pins s σ H _ _ v u Q I rx ry ⟨a, xs, rfl, .inl (SqL.of (hz.sub _ _ h1)), flat_rp rd hf.1, flat_all r1 hf.2, ?_⟩
        rw [inV_eq rd hf.1 r1 hf.2]
        exact done0 hz q (.bl _)
      · split at hb
        · rename_i hf
          rw [Bool.and_eq_true] at hf
          cases hb
          exact (in_deep hu I hz rx ry rd (.inr h1) r1 hf.1 hf.2).1 (done0 hz q (.bl _))
        · cases hb
    | _ => cases rd <;> cases hb
theorem o_ni (hu : X.A.units + 64 < cLine) : OpR X (compareOp .NotIn) (rD2 X.K T niD) := by
  intro pins s σ H x y v u Q I rx ry h
  obtain ⟨F, d, e, z, hz, rd, re, hG, q⟩ := h
  unfold niD at hG
  cases hb : inB d e with
  | none => rw [hb] at hG; cases hG
  | some b =>
    rw [hb] at hG
    cases hG
    cases re with
    | str y =>
      cases rd with
      | str x =>
        have hb : some (hasS x y) = some b := hb
        unfold hasS at hb
        split at hb
        · rename_i h1
          cases hb
          exact op_notIn_sign pins s σ H _ _ v u Q I rx ry ⟨x.cps.getD 0 0, y, congrArg V.str (one_of h1), rfl, done0 hz q (.bl _)⟩
        · cases hb
          exact op_notin_str pins s σ H _ _ v u Q I rx ry ⟨x, y, rfl, rfl, done0 hz q (.bl _)⟩
      | _ => cases hb
    | tup h1 r1 =>
      rename_i a xs ds
      have hb : inL d ds = some b := by
        cases d <;> exact hb
      unfold inL at hb
      split at hb
      · rename_i hf
        rw [Bool.and_eq_true] at hf
        cases hb
        refine op_notIn_seq pins s σ H _ _ v u Q I rx ry ⟨a, xs, rfl, .inr (hz.sub.st h1), flat_rp rd hf.1, flat_all r1 hf.2, ?_⟩
        rw [inV_eq rd hf.1 r1 hf.2]
        exact done0 hz q (.bl _)
      · split at hb
        · rename_i hf
          rw [Bool.and_eq_true] at hf
          cases hb
          exact (in_deep hu I hz rx ry rd (.inl h1) r1 hf.1 hf.2).2 (done0 hz q (.bl _))
        · cases hb
    | lst h1 r1 =>
      rename_i a xs ds
      have hb : inL d ds = some b := by
        cases d <;> exact hb
      unfold inL at hb
      split at hb
      · rename_i hf
        rw [Bool.and_eq_true] at hf
        cases hb
        refine op_notIn_seq pins s σ H _ _ v u Q I rx ry ⟨a, xs, rfl, .inl (SqL.of (hz.sub _ _ h1)), flat_rp rd hf.1, flat_all r1 hf.2, ?_⟩
        rw [inV_eq rd hf.1 r1 hf.2]
        exact done0 hz q (.bl _)
      · split at hb
        · rename_i hf
          rw [Bool.and_eq_true] at hf
          cases hb
          exact (in_deep hu I hz rx ry rd (.inr h1) r1 hf.1 hf.2).2 (done0 hz q (.bl _))
        · cases hb
    | _ => cases rd <;> cases hb
end
end DN
namespace DN
open PySem PySem.Spec PyProof.Rows L2
open LamX (Tabs ExtN)

/-! ### statements -/
inductive SR where
  | nx (ρ : Rho) | rt (d : D) | bk (ρ : Rho) | ct (ρ : Rho) | ex (n : Str) (ρ : Rho) | bad
def bindS {α : Type} (r : Res α) (ρ : Rho) (k : α → SR) : SR := match r with
  | .ok a => k a
  | .ex n => .ex n ρ
  | .bad => .bad
/-- the frame's own objects are new since the entry -/
def Ow (H0 : Hp) (σ : L2.St) (ρ : Rho) : Prop := ∀ (i : Nat) (d : D) (p : Addr), ρ[i]? = some (En.o d) → σ[i]? = some (some (V.ref p)) → ∀ o, H0 p = some o → ∃ ps, o = .tbl ps
structure Sg (K : PySem.W.Frag) (T : List (Addr × Str)) (F0 H0 F H : Hp) (σ : L2.St) (ρ : Rho) : Prop where
  at_ : At K T F H σ ρ
  nx : Nx T F0 H0 F H
  ow : Ow H0 σ ρ
def aftS (K : PySem.W.Frag) (T : List (Addr × Str)) (W : WX) (F0 H0 F : Hp) (Z : Ends) : SR → Prop
  | .nx ρ => ∀ σ F' H', Sg K T F0 H0 F' H' σ ρ → Sub F F' → Z.nx σ H'
  | .bk ρ => ∀ σ F' H', Sg K T F0 H0 F' H' σ ρ → Sub F F' → Z.bk σ H'
  | .ct ρ => ∀ σ F' H', Sg K T F0 H0 F' H' σ ρ → Sub F F' → Z.ct σ H'
  | .rt d => ∀ v F' H', Nx T F0 H0 F' H' → Rp K F' v d → Z.rt v H'
  | .ex n ρ => ∀ σ F' H', Sg K T F0 H0 F' H' σ ρ → Sub F F' → W (.ref (He.ga K n)) none σ H'
  | .bad => False
def tS (K : PySem.W.Frag) (T : List (Addr × Str)) (W : WX) (F0 H0 : Hp) (s : Rho → SR) : TS := fun Z σ H => ∃ ρ F, Sg K T F0 H0 F H σ ρ ∧ aftS K T W F0 H0 F Z (s ρ)
abbrev DS (X : Cx) (T : List (Addr × Str)) (W : WX) (F0 H0 : Hp) (st : Stmt) (s : Rho → SR) : Prop := PS X st (tS X.K T W F0 H0 s)
abbrev DSs (X : Cx) (T : List (Addr × Str)) (W : WX) (F0 H0 : Hp) (st : List Stmt) (s : Rho → SR) : Prop := PSs X st (tS X.K T W F0 H0 s)
section
variable {K : PySem.W.Frag} {T : List (Addr × Str)} {W : WX} {F0 H0 F H F1 H1 : Hp} {σ : L2.St} {ρ : Rho} {Z : Ends}
theorem Sg.step (g : Sg K T F0 H0 F H σ ρ) (n : Nx T F H F1 H1) : Sg K T F0 H0 F1 H1 σ ρ := ⟨g.at_.nx n, g.nx.trans n, g.ow⟩
theorem aftS.mono {r : SR} (e : Sub F F1) (h : aftS K T W F0 H0 F Z r) : aftS K T W F0 H0 F1 Z r := by
  cases r with
  | nx ρ => exact fun σ F' H' g s => h σ F' H' g (e.trans s)
  | bk ρ => exact fun σ F' H' g s => h σ F' H' g (e.trans s)
  | ct ρ => exact fun σ F' H' g s => h σ F' H' g (e.trans s)
  | ex n ρ => exact fun σ F' H' g s => h σ F' H' g (e.trans s)
  | rt d => exact h
  | bad => exact h
theorem aftS.bind {α β : Type} {R : Hp → α → β → Prop} {r : Res β} {k : β → SR} (g : Sg K T F0 H0 F H σ ρ) (h : aftS K T W F0 H0 F Z (bindS r ρ k)) :
    aft R K T W σ F H (fun a H1 => ∃ b F1, r = .ok b ∧ Nx T F H F1 H1 ∧ Sg K T F0 H0 F1 H1 σ ρ ∧ R F1 a b ∧ aftS K T W F0 H0 F1 Z (k b)) r := by
  cases r with
  | ok b => exact fun a F2 H2 n ra => ⟨b, F2, rfl, n, g.step n, ra, aftS.mono n.f h⟩
  | ex m => exact fun F' H' n => h σ F' H' (g.step n) n.f
  | bad => exact h
theorem Ow.set {i : Nat} {v : V} {d : D} (o : Ow H0 σ ρ) : Ow H0 (σ.set i (some v)) (ρ.set i (.z d)) := fun j e p h1 h2 => by
  rw [List.getElem?_set] at h1 h2
  by_cases hij : i = j
  · rw [if_pos hij] at h1
    split at h1 <;> cases h1
  · rw [if_neg hij] at h1 h2
    exact o j e p h1 h2
end
def sskip : Rho → SR := fun ρ => .nx ρ
def sseq (s t : Rho → SR) : Rho → SR := fun ρ => match s ρ with
  | .nx ρ' => t ρ'
  | r => r
def sret (f : Rho → Res D) : Rho → SR := fun ρ => bindS (f ρ) ρ .rt
def sif (c : Rho → Res Bool) (s t : Rho → SR) : Rho → SR := fun ρ => bindS (c ρ) ρ fun b => if b = true then s ρ else t ρ
/-- targets -/
abbrev Tg := Rho → D → Option Rho
abbrev Tgs := Rho → List D → Option Rho
def gn (i : Nat) : Tg := fun ρ d => some (ρ.set i (.z d))
def gsn : Tgs := fun ρ ds => match ds with
  | [] => some ρ
  | _ => none
def gsc (g : Tg) (h : Tgs) : Tgs := fun ρ ds => match ds with
  | d :: r => (g ρ d).bind fun ρ' => h ρ' r
  | [] => none
def gt (n : Nat) (h : Tgs) : Tg := fun ρ d => match d with
  | .tup ds => if ds.length = n then h ρ ds else none
  | .lst ds => if ds.length = n then h ρ ds else none
  | _ => none
def sasg (f : Rho → Res D) (g : Tg) : Rho → SR := fun ρ => bindS (f ρ) ρ fun d => match g ρ d with
  | some ρ' => .nx ρ'
  | none => .bad
def tGd (K : PySem.W.Frag) (T : List (Addr × Str)) (g : Tg) : TG := fun v σ H Q => ∃ ρ F d ρ', At K T F H σ ρ ∧ Rp K F v d ∧ g ρ d = some ρ' ∧ ∀ σ', At K T F H σ' ρ' → (∀ H0, Ow H0 σ ρ → Ow H0 σ' ρ') → Q σ' H
theorem _root_.L2.PG.to {X : Cx} {e : Expr} {t u : TG} (h : PG X e t) (k : ∀ v σ H Q, u v σ H Q → t v σ H Q) : PG X e u := ⟨fun pins s σ H v w Q I r q => h.run pins s σ H v w Q I r (k v σ H Q q)⟩
theorem _root_.L2.PG.or {X : Cx} {e : Expr} {t u : TG} (h : PG X e t) (h2 : PG X e u) : PG X e (fun v σ H Q => t v σ H Q ∨ u v σ H Q) := ⟨fun pins s σ H v w Q I r q => q.elim (h.run pins s σ H v w Q I r) (h2.run pins s σ H v w Q I r)⟩
theorem _root_.L2.PGs.to {X : Cx} {es : List Expr} {t u : TGs} (h : PGs X es t) (k : ∀ v σ H Q, u v σ H Q → t v σ H Q) : PGs X es u := ⟨fun pins s σ H v w Q I r q => h.run pins s σ H v w Q I r (k v σ H Q q)⟩
section
variable {X : Cx} {T : List (Addr × Str)} {W : WX} {F0 H0 : Hp}
abbrev DG (X : Cx) (T : List (Addr × Str)) (e : Expr) (g : Tg) : Prop := PG X e (tGd X.K T g)
theorem g_name {i : Nat} {e : Expr} (h : PG X e (gName i)) : DG X T e (gn i) := h.to fun v σ H Q ⟨ρ, F, d, ρ', a, r, hg, q⟩ => by
  cases hg
  exact q _ ⟨a.z, a.t, a.r.set r⟩ fun H0 o => o.set
theorem s_nil : DSs X T W F0 H0 [] sskip := pss_nil.to fun Z σ H ⟨ρ, F, g, h⟩ => h σ F H g (Sub.refl F)
theorem s_one {st : Stmt} {s : Rho → SR} (h : DS X T W F0 H0 st s) : DSs X T W F0 H0 [st] s := pss_one h
theorem s_cons {st : Stmt} {rest : List Stmt} {s t : Rho → SR} (h : DS X T W F0 H0 st s) (h2 : DSs X T W F0 H0 rest t) : DSs X T W F0 H0 (st :: rest) (sseq s t) :=
  (pss_cons h h2).to fun Z σ H ⟨ρ, F, g, h⟩ => by
    refine ⟨ρ, F, g, ?_⟩
    unfold sseq at h
    cases e : s ρ with
    | nx ρ' =>
      rw [e] at h
      exact fun σ' F' H' g' sb => ⟨ρ', F', g', aftS.mono sb h⟩
    | bk ρ' => rw [e] at h; exact h
    | ct ρ' => rw [e] at h; exact h
    | rt d => rw [e] at h; exact h
    | ex n ρ' => rw [e] at h; exact h
    | bad => rw [e] at h; exact h
theorem s_ret {e : Expr} {pos : Pos} {f : Rho → Res D} (h : DE X T W e f) : DS X T W F0 H0 (.Return (some e) pos) (sret f) :=
  (ps_ret h).to fun Z σ H ⟨ρ, F, g, h⟩ => by
    refine ⟨ρ, F, g.at_, (aftS.bind (R := Rp X.K) g h).imp fun d _ v F1 H1 _ _ q => ?_⟩
    obtain ⟨b, F2, _, n, g2, rv, q⟩ := q
    exact q v F2 H1 g2.nx rv
theorem s_if {c : Expr} {a b : List Stmt} {pos : Pos} {f : Rho → Res Bool} {s t : Rho → SR} (hc : DQ X T W c f) (ha : DSs X T W F0 H0 a s) (hb : DSs X T W F0 H0 b t) : DS X T W F0 H0 (.If c a b pos) (sif f s t) :=
  (ps_if hc ha hb).to fun Z σ H ⟨ρ, F, g, h⟩ => by
    refine ⟨ρ, F, g.at_, (aftS.bind (R := RBool) g h).imp fun d _ v F1 H1 _ _ q => ?_⟩
    obtain ⟨b, F2, _, n, g2, rv, q⟩ := q
    obtain rfl : v = b := rv
    cases v with
    | true => exact ⟨ρ, F2, g2, q⟩
    | false => exact ⟨ρ, F2, g2, q⟩
theorem sasg_to {f : Rho → Res D} {g : Tg} {K : PySem.W.Frag} {Z : Ends} {σ : L2.St} {H : Hp} (h : tS K T W F0 H0 (sasg f g) Z σ H) : tAsg (tE K T W f) (tGd K T g) Z σ H := by
  obtain ⟨ρ, F, gg, h⟩ := h
  refine ⟨ρ, F, gg.at_, (aftS.bind (R := Rp K) gg h).imp fun d _ v F1 H1 _ _ q => ?_⟩
  obtain ⟨b, F2, _, n, g2, rv, q⟩ := q
  cases e : g ρ b with
  | none => rw [e] at q; exact q.elim
  | some ρ' =>
    rw [e] at q
    exact ⟨ρ, F2, b, ρ', g2.at_, rv, e, fun σ' a' o' => q σ' F2 H1 ⟨a', g2.nx, o' H0 g2.ow⟩ (Sub.refl F2)⟩
theorem s_asg {tg e : Expr} {pos : Pos} {f : Rho → Res D} {g : Tg} (he : DE X T W e f) (hg : DG X T tg g) (hs : swapsWithSole [tg] e pos.line X.env = pure false := by rfl) (hw : swappedStores [tg] e X.env = pure none := by rfl)
    (h1 : (assignEach [tg] X.env).map (·.2) = [assign tg X.env] := by rfl) : DS X T W F0 H0 (.Assign [tg] e pos) (sasg f g) :=
  (ps_asg he hg hs hw h1).to fun Z σ H h => sasg_to h
end

/-! ### while -/
section
variable {X : Cx} {T : List (Addr × Str)} {W : WX} {F0 H0 : Hp}
end

/-! ### what is walked -/
/-- the walk J gives ds, while F is frozen -/
def Walks (K : PySem.W.Frag) (T : List (Addr × Str)) (F : Hp) (J : It) (ds : List D) : Prop :=
  ∀ (i : Nat) (F' H : Hp), Sub F F' → Fz F' H → (∀ d, ds[i]? = some d → J.go i H ∧ ∀ x H', J.yld i H x H' → ∃ F2, Nx T F' H F2 H' ∧ Rp K F2 x d) ∧ (ds.length ≤ i → J.stop i H)
def tI (K : PySem.W.Frag) (T : List (Addr × Str)) (W : WX) (f : Rho → Res (List D)) : TI := tG (fun K F J ds => Walks K T F J ds) K T W f
abbrev DI (X : Cx) (T : List (Addr × Str)) (W : WX) (tg iter : Expr) (f : Rho → Res (List D)) : Prop := PI X tg iter (tI X.K T W f)
theorem _root_.L2.PI.to {X : Cx} {tg e : Expr} {t u : TI} (h : PI X tg e t) (k : ∀ σ H R, u σ H R → t σ H R) : PI X tg e u := ⟨fun pins s σ H R I q => h.run pins s σ H R I (k σ H R q)⟩
theorem _root_.L2.PI.or {X : Cx} {tg e : Expr} {t u : TI} (h : PI X tg e t) (h2 : PI X tg e u) : PI X tg e (fun σ H R => t σ H R ∨ u σ H R) := ⟨fun pins s σ H R I q => q.elim (h.run pins s σ H R I) (h2.run pins s σ H R I)⟩
def loopD (g : Tg) (s : Rho → SR) : List D → Rho → SR
  | [], ρ => .nx ρ
  | d :: ds, ρ => match g ρ d with
    | none => .bad
    | some ρ1 => match s ρ1 with
      | .nx ρ' => loopD g s ds ρ'
      | .ct ρ' => loopD g s ds ρ'
      | .bk ρ' => .nx ρ'
      | r => r
def sfor (f : Rho → Res (List D)) (g : Tg) (s : Rho → SR) : Rho → SR := fun ρ => bindS (f ρ) ρ fun ds => loopD g s ds ρ
section
variable {X : Cx} {T : List (Addr × Str)} {W : WX} {F0 H0 : Hp}
theorem s_for {tg iter : Expr} {body : List Stmt} {pos : Pos} {f : Rho → Res (List D)} {g : Tg} {s : Rho → SR} (hp : PassesOwn (model X.prog X.w) X.A X.env X.xe) (hc : X.calm = true) (hi : DI X T W tg iter f) (hg : DG X T tg g) (hb : DSs X T W F0 H0 body s)
    (hs : ∀ x, foldedSetIterable iter X.env x = pure x := by intro _; rfl) : DS X T W F0 H0 (.For tg iter body [] pos) (sfor f g s) :=
  (ps_for hp hc hi hg hb hs).to fun Z σ H ⟨ρ, F, gg, h⟩ => by
    refine ⟨ρ, F, gg.at_, (aftS.bind (R := fun F J ds => Walks X.K T F J ds) gg h).imp fun d _ J F1 H1 _ _ q => ?_⟩
    obtain ⟨ds, F2, _, n, g2, wk, q⟩ := q
    refine ⟨fun i m σ H => m = ds.length - i ∧ i ≤ ds.length ∧ ∃ ρ F', Sg X.K T F0 H0 F' H σ ρ ∧ Sub F2 F' ∧ aftS X.K T W F0 H0 F' Z (loopD g s (ds.drop i) ρ), ⟨ds.length, by omega, by omega, ρ, F2, g2, Sub.refl F2, q⟩, ?_⟩
    rintro i m σ H ⟨rfl, hi, ρ, F3, g3, sb, q⟩
    obtain ⟨wg, ws⟩ := wk i F3 H sb g3.at_.z
    by_cases hlt : i < ds.length
    · have e : ds[i]? = some ds[i] := List.getElem?_eq_getElem hlt
      obtain ⟨go, yl⟩ := wg _ e
      refine .inr ⟨go, fun σ' H' => ∃ ρ' F', Sg X.K T F0 H0 F' H' σ' ρ' ∧ Sub F2 F' ∧ aftS X.K T W F0 H0 F' Z (loopD g s (ds.drop (i + 1)) ρ'), fun σ' H' w => ⟨ds.length - (i + 1), by omega, rfl, by omega, w⟩, fun x H' y => ?_⟩
      obtain ⟨F4, n4, rx⟩ := yl x H' y
      rw [List.drop_eq_getElem_cons hlt] at q
      have g4 := g3.step n4
      have q : aftS X.K T W F0 H0 F3 Z (match g ρ ds[i] with
        | none => .bad
        | some ρ1 => match s ρ1 with
          | .nx ρ' => loopD g s (ds.drop (i + 1)) ρ'
          | .ct ρ' => loopD g s (ds.drop (i + 1)) ρ'
          | .bk ρ' => .nx ρ'
          | r => r) := q
      cases eg : g ρ ds[i] with
      | none => rw [eg] at q; exact q.elim
      | some ρ1 =>
        rw [eg] at q
        have q : aftS X.K T W F0 H0 F3 Z (match s ρ1 with
          | .nx ρ' => loopD g s (ds.drop (i + 1)) ρ'
          | .ct ρ' => loopD g s (ds.drop (i + 1)) ρ'
          | .bk ρ' => .nx ρ'
          | r => r) := q
        refine ⟨ρ, F4, ds[i], ρ1, g4.at_, rx, eg, fun σ1 a1 o1 => ⟨ρ1, F4, ⟨a1, g4.nx, o1 H0 g4.ow⟩, ?_⟩⟩
        cases e2 : s ρ1 with
        | nx ρ' => rw [e2] at q; exact fun σ' F' H' g' sb' => ⟨ρ', F', g', (sb.trans n4.f).trans sb', aftS.mono (n4.f.trans sb') q⟩
        | ct ρ' => rw [e2] at q; exact fun σ' F' H' g' sb' => ⟨ρ', F', g', (sb.trans n4.f).trans sb', aftS.mono (n4.f.trans sb') q⟩
        | bk ρ' => rw [e2] at q; exact fun σ' F' H' g' sb' => q σ' F' H' g' (n4.f.trans sb')
        | rt d => rw [e2] at q; exact q
        | ex n ρ' => rw [e2] at q; exact fun σ' F' H' g' sb' => q σ' F' H' g' (n4.f.trans sb')
        | bad => rw [e2] at q; exact q
    · have e : i = ds.length := by omega
      subst e
      refine .inl ⟨ws (Nat.le_refl _), ?_⟩
      rw [List.drop_length] at q
      exact q σ F3 H g3 (Sub.refl F3)

/-! the walks -/
def itemsD : D → Res (List D)
  | .tup xs => .ok xs
  | .lst xs => .ok xs
  | .arr ns => .ok (ns.map .int)
  | .str x => .ok (x.cps.toList.map fun c => .str ⟨#[c]⟩)
  | _ => .bad
def its (f : Rho → Res D) : Rho → Res (List D) := fun ρ => (f ρ).bind itemsD
theorem walks_list {K : PySem.W.Frag} {F : Hp} {a : Addr} {xs : List V} {ds : List D} (h : SqL K F a xs) (r : RpAll K F xs ds) : Walks K T F (Itl K a) ds := fun i F' H sb z => by
  have hl : SqL K H a xs := (sb.trans z.sub).sl h
  refine ⟨fun d hd => ?_, fun hle => ⟨xs, hl, by rw [r.length]; exact hle⟩⟩
  obtain ⟨v, hv, rv⟩ := r.get hd
  refine ⟨⟨xs, v, hl, hv⟩, fun x H' y => ?_⟩
  obtain ⟨rfl, y⟩ := y
  have e := y xs hl
  rw [hv] at e
  cases e
  exact ⟨F', Nx.refl z, rv.mono sb⟩
theorem walks_tup {K : PySem.W.Frag} {F : Hp} {a : Addr} {xs : List V} {ds : List D} (h : SqT K F a xs) (r : RpAll K F xs ds) : Walks K T F (Itt K a) ds := fun i F' H sb z => by
  have hl : SqT K H a xs := (sb.trans z.sub).st h
  refine ⟨fun d hd => ?_, fun hle => ⟨xs, hl, by rw [r.length]; exact hle⟩⟩
  obtain ⟨v, hv, rv⟩ := r.get hd
  refine ⟨⟨xs, v, hl, hv⟩, fun x H' y => ?_⟩
  obtain ⟨rfl, y⟩ := y
  have e := y xs hl
  rw [hv] at e
  cases e
  exact ⟨F', Nx.refl z, rv.mono sb⟩
end
end DN
namespace DN
open PySem PySem.Spec PyProof.Rows L2
open LamX (Tabs ExtN)

/-! ### the walks of for and of comprehensions -/
section
variable {X : Cx} {T : List (Addr × Str)} {W : WX} {F0 H0 : Hp}
theorem walks_str {K : PySem.W.Frag} {F : Hp} {x : Str} : Walks K T F (Its x) (x.cps.toList.map fun c => D.str ⟨#[c]⟩) := fun i F' H sb z => by
  refine ⟨fun d hd => ?_, fun hle => ?_⟩
  · rw [List.getElem?_map] at hd
    cases e : x.cps.toList[i]? with
    | none => rw [e] at hd; cases hd
    | some c =>
      rw [e] at hd
      cases hd
      have hi : i < x.cps.size := by
        have := (List.getElem?_eq_some_iff.mp e).1
        simpa using this
      refine ⟨hi, fun v H' y => ?_⟩
      obtain ⟨rfl, c', hc', rfl⟩ := y
      have e2 : x.cps[i]? = some c := by simpa using e
      rw [e2] at hc'
      cases hc'
      exact ⟨F', Nx.refl z, .str _⟩
  · show x.cps.size ≤ i
    simpa using hle
theorem i_any {tg l : Expr} {f : Rho → Res D} (h : DE X T W l f) : DI X T W tg l (its f) :=
  ((pi_list h).or ((pi_tup h).or (pi_str h))).to fun σ H R ⟨ρ, F, a, h⟩ => by
    have h : aft (fun F J ds => Walks X.K T F J ds) X.K T W σ F H R ((f ρ).bind itemsD) := h
    cases e : f ρ with
    | bad => rw [e] at h; exact h.elim
    | ex n =>
      rw [e] at h
      exact .inl ⟨ρ, F, a, by rw [e]; exact h⟩
    | ok d =>
      rw [e] at h
      have h : aft (fun F J ds => Walks X.K T F J ds) X.K T W σ F H R (itemsD d) := h
      cases d with
      | lst ds =>
        refine .inl ⟨ρ, F, a, ?_⟩
        rw [e]
        intro v F' H' n r
        cases r with
        | lst h1 r1 => exact ⟨_, rfl, ⟨_, SqL.of (n.z.sub _ _ h1)⟩, h _ F' H' n (walks_list (SqL.of h1) r1)⟩
      | arr ns =>
        refine .inl ⟨ρ, F, a, ?_⟩
        rw [e]
        intro v F' H' n r
        cases r with
        | arr h1 => exact ⟨_, rfl, ⟨_, n.z.sub.sl h1⟩, h _ F' H' n (walks_list h1 (RpAll.ints ns))⟩
      | tup ds =>
        refine .inr (.inl ⟨ρ, F, a, ?_⟩)
        rw [e]
        intro v F' H' n r
        cases r with
        | tup h1 r1 => exact ⟨_, rfl, ⟨_, n.z.sub.st h1⟩, h _ F' H' n (walks_tup h1 r1)⟩
      | str x =>
        refine .inr (.inr ⟨ρ, F, a, ?_⟩)
        rw [e]
        intro v F' H' n r
        cases r
        exact ⟨x, rfl, h _ F' H' n walks_str⟩
      | _ => exact h.elim
def rngD (lo : Int) (n : Nat) : List D := (List.range n).map fun (i : Nat) => D.int (lo + (i : Int))
theorem walks_rng {K : PySem.W.Frag} {F : Hp} {lo : Int} {n : Nat} : Walks K T F (Itr lo n) (rngD lo n) := fun i F' H sb z => by
  refine ⟨fun d hd => ?_, fun hle => ?_⟩
  · unfold rngD at hd
    rw [List.getElem?_map] at hd
    cases e : (List.range n)[i]? with
    | none => rw [e] at hd; cases hd
    | some j =>
      rw [e] at hd
      cases hd
      obtain ⟨h1, h2⟩ := List.getElem?_eq_some_iff.mp e
      rw [List.getElem_range] at h2
      rw [List.length_range] at h1
      subst h2
      refine ⟨h1, fun v H' y => ?_⟩
      obtain ⟨rfl, rfl⟩ := y
      exact ⟨F', Nx.refl z, .int _⟩
  · unfold rngD at hle
    rw [List.length_map, List.length_range] at hle
    exact hle
def rng1 (f : Rho → Res (List D)) : Rho → Res (List D) := fun ρ => (f ρ).bind fun ds => match ds with
  | [.int j] => if -(2 ^ 62) ≤ j ∧ j < 2 ^ 62 then .ok (rngD 0 j.toNat) else .bad
  | _ => .bad
theorem i_rng1 {tg a : Expr} {p pos : Pos} {f : Rho → Res (List D)} (hg : Gl X "range") (hm : X.mg "range" = none) (ha : DA X T W [a] f) (hs : starEach [a] X.env = [(false, eval a X.env)] := by rfl) : DI X T W tg (.Call (.Name "range" p) [a] [] pos) (rng1 f) :=
  (pi_range1 hg hm ha hs).to fun σ H R ⟨ρ, F, a, h⟩ => by
    refine ⟨ρ, F, a, (aft.bind (R := RpAll X.K) h).imp fun d _ v F1 H1 _ _ q => ?_⟩
    obtain ⟨ds, F2, _, n, rv, q⟩ := q
    match ds, rv, q with
    | [.int j], .cons (.int _) .nil, q =>
      have q : aft (fun F J ds => Walks X.K T F J ds) X.K T W σ F2 H1 R (if -(2 ^ 62) ≤ j ∧ j < 2 ^ 62 then .ok (rngD 0 j.toNat) else .bad) := q
      split at q
      · rename_i hj
        exact ⟨j, rfl, hj.1, hj.2, q _ F2 H1 (Nx.refl n.z) walks_rng⟩
      · exact q.elim
end

/-! ### comprehensions -/
def wipeR (ρ : Rho) : List Nat → Rho
  | [] => ρ
  | v :: vs => (wipeR ρ vs).set v .u
def compD (g : Tg) (t : Rho → Res Bool) (e : Rho → Res D) (ρ : Rho) : List D → Res (List D)
  | [] => .ok []
  | d :: ds => match g ρ d with
    | none => .bad
    | some ρ1 => match t ρ1 with
      | .ok b => if b = true then (match e ρ1 with
        | .ok y => (compD g t e ρ ds).bind fun ys => .ok (y :: ys)
        | _ => .bad) else compD g t e ρ ds
      | _ => .bad
def lcD (f : Rho → Res (List D)) (i : Nat) (t : Rho → Res Bool) (e : Rho → Res D) : Rho → Res D := fun ρ => (f ρ).bind fun ds => if ds.length < sizeLine then (compD (gn i) t e (ρ.set i .u) ds).bind fun ys => .ok (.lst ys) else .bad
def yes : Rho → Res Bool := fun _ => .ok true
theorem tabs_upd {T : List (Addr × Str)} {H : Hp} {p : Addr} {xs : List V} {o : HO} (h : Tabs T H) (e : H p = some (.lst xs)) : Tabs T (upd H p o) := fun q hq => by
  obtain ⟨ps, h1, h2, h3⟩ := h q hq
  refine ⟨ps, ?_, h2, fun pos cv hc => ?_⟩
  · rw [upd_ne fun z => by rw [z, e] at h1; cases h1]; exact h1
  · obtain ⟨c, e1, e2⟩ := h3 pos cv hc
    refine ⟨c, e1, ?_⟩
    rw [upd_ne fun z => by rw [z, e] at e2; unfold LamX.CodeO at e2; cases e2]; exact e2
section
variable {X : Cx} {T : List (Addr × Str)} {W : WX} {F0 H0 : Hp}
abbrev W0 : WX := fun _ _ _ _ => False
theorem no_ex {α β : Type} {R : Hp → α → β → Prop} {K : PySem.W.Frag} {σ : L2.St} {F H : Hp} {Q : α → Hp → Prop} {r : Res β} (z : Fz F H) {b : β} (e : r = .ok b) (h : ∀ a F' H', Nx T F H F' H' → R F' a b → Q a H') : aft R K T W0 σ F H Q r := by
  rw [e]; exact h
theorem lc_to {K : PySem.W.Frag} {f : Rho → Res (List D)} {i : Nat} {t : Rho → Res Bool} {e : Rho → Res D} {σ : L2.St} {H : Hp} {Q : VK} (h : tE K T W (lcD f i t e) σ H Q) :
    tLc (tI K T W f) (gName i) (tT K T W0 t) (tE K T W0 e) [i] σ H Q := by
  obtain ⟨ρ, F, a, h⟩ := h
  refine ⟨ρ, F, a, (aft.bind (R := fun F J ds => Walks K T F J ds) h).imp fun d _ J F1 H1 _ _ q => ?_⟩
  obtain ⟨ds, F2, _, n, wk, q⟩ := q
  have q : aft (Rp K) K T W σ F2 H1 Q (if ds.length < sizeLine then (compD (gn i) t e (ρ.set i .u) ds).bind fun ys => .ok (.lst ys) else .bad) := q
  split at q
  · rename_i hlen
    cases hc : compD (gn i) t e (ρ.set i .u) ds with
    | bad => rw [hc] at q; exact q.elim
    | ex m =>
      exfalso
      have : ∀ ds : List D, compD (gn i) t e (ρ.set i .u) ds ≠ .ex m := fun ds => by
        induction ds with
        | nil => intro z; cases z
        | cons d ds ih =>
          intro z
          unfold compD at z
          simp only [gn] at z
          split at z
          · split at z
            · split at z
              · cases e2 : compD (gn i) t e (ρ.set i .u) ds with
                | ok ys => rw [e2] at z; cases z
                | ex m' =>
                  rw [e2] at z
                  cases z
                  exact ih e2
                | bad => rw [e2] at z; cases z
              · cases z
            · exact ih z
          · cases z
      exact this ds hc
    | ok ys =>
      rw [hc] at q
      have a2 := a.nx n
      intro p hp
      -- behind k turns
      refine ⟨fun k m H => m = ds.length - k ∧ k ≤ ds.length ∧ ∃ F' acc dacc rest, Nx T F2 H1 F' H ∧ F' p = none ∧ H p = some (.lst acc) ∧ RpAll K F' acc dacc ∧ acc.length ≤ k ∧ compD (gn i) t e (ρ.set i .u) (ds.drop k) = .ok rest ∧ dacc ++ rest = ys,
        ⟨ds.length, by omega, by omega, F2, [], [], ys, Nx.lay n.z hp, ?_, upd_same, .nil, by simp, hc, rfl⟩, ?_⟩
      · cases z : F2 p with
        | none => rfl
        | some o =>
          have := n.z.sub _ _ z
          rw [hp] at this; cases this
      rintro k m H ⟨rfl, hk, F', acc, dacc, rest, nx, hFp, hHp, ra, la, hr, hy⟩
      obtain ⟨wg, ws⟩ := wk k F' H nx.f nx.z
      by_cases hlt : k < ds.length
      · obtain ⟨go, yl⟩ := wg _ (List.getElem?_eq_getElem hlt)
        rw [List.drop_eq_getElem_cons hlt] at hr
        unfold compD at hr
        simp only [gn] at hr
        refine .inr ⟨go, fun H => ∃ F' acc dacc rest, Nx T F2 H1 F' H ∧ F' p = none ∧ H p = some (.lst acc) ∧ RpAll K F' acc dacc ∧ acc.length ≤ k + 1 ∧ compD (gn i) t e (ρ.set i .u) (ds.drop (k + 1)) = .ok rest ∧ dacc ++ rest = ys, fun H' w => ⟨ds.length - (k + 1), by omega, rfl, by omega, w⟩, fun x H' y => ?_⟩
        obtain ⟨F3, n3, rx⟩ := yl x H' y
        have hp3 : H' p = some (.lst acc) := n3.keep hHp ntL
        have hf3 : F3 p = none := n3.out hHp ntL hFp
        have a3 : At K T F3 H' (σ.set i none) (ρ.set i .u) := ⟨n3.z, (nx.trans n3).tab a2.t, (a2.r.mono (nx.trans n3)).wipe1⟩
        have a4 : At K T F3 H' ((σ.set i none).set i (some x)) ((ρ.set i .u).set i (.z ds[k])) := ⟨a3.z, a3.t, a3.r.set rx⟩
        show wipe ((σ.set i none).set i (some x)) [i] = wipe σ [i] ∧ _
        refine ⟨?_, ?_⟩
        · show ((σ.set i none).set i (some x)).set i none = σ.set i none
          rw [List.set_set, List.set_set]
        · cases ht : t ((ρ.set i .u).set i (.z ds[k])) with
          | bad => rw [ht] at hr; cases hr
          | ex m => rw [ht] at hr; cases hr
          | ok b =>
            rw [ht] at hr
            refine ⟨_, F3, a4, no_ex a4.z ht fun b' F4 H4 n4 rb => ?_⟩
            obtain rfl : b' = b := rb
            cases b' with
            | false =>
              show ∃ F' acc dacc rest, _
              have hr : compD (gn i) t e (ρ.set i .u) (ds.drop (k + 1)) = .ok rest := hr
              exact ⟨F4, acc, dacc, rest, (nx.trans n3).trans n4, n4.out hp3 ntL hf3, n4.keep hp3 ntL, ra.mono (n3.trans n4).f, by omega, hr, hy⟩
            | true =>
              have hr : (match e ((ρ.set i .u).set i (.z ds[k])) with
                | .ok y => (compD (gn i) t e (ρ.set i .u) (ds.drop (k + 1))).bind fun ys => .ok (y :: ys)
                | _ => .bad) = .ok rest := hr
              cases he : e ((ρ.set i .u).set i (.z ds[k])) with
              | bad => rw [he] at hr; cases hr
              | ex m => rw [he] at hr; cases hr
              | ok y =>
                rw [he] at hr
                have hr : (compD (gn i) t e (ρ.set i .u) (ds.drop (k + 1))).bind (fun ys => .ok (y :: ys)) = .ok rest := hr
                cases hr2 : compD (gn i) t e (ρ.set i .u) (ds.drop (k + 1)) with
                | bad => rw [hr2] at hr; cases hr
                | ex m => rw [hr2] at hr; cases hr
                | ok rest' =>
                  rw [hr2] at hr
                  cases hr
                  show tE K T W0 e _ H4 _
                  refine ⟨_, F4, a4.nx n4, no_ex n4.z he fun v F5 H5 n5 rv => ?_⟩
                  have hp5 : H5 p = some (.lst acc) := (n4.trans n5).keep hp3 ntL
                  have hf5 : F5 p = none := (n4.trans n5).out hp3 ntL hf3
                  have n6 := (nx.trans n3).trans (n4.trans n5)
                  refine ⟨acc, hp5, by omega, F5, acc ++ [v], dacc ++ [y], rest', ⟨n6.f, ⟨fun b o eb => ?_, n6.z.nt⟩, fun b o eb no => ?_, n6.new, fun tb => tabs_upd (n6.tab tb) hp5⟩, hf5, upd_same, ?_, by rw [List.length_append]; simp; omega, rfl, by rw [List.append_assoc]; exact hy⟩
                  · rw [upd_ne fun z => by rw [z, hf5] at eb; cases eb]
                    exact n6.z.sub _ _ eb
                  · rw [upd_ne fun z => by rw [z, hp] at eb; cases eb]
                    exact n6.h _ _ eb no
                  · exact (ra.mono ((n3.trans n4).trans n5).f).append (.cons rv .nil)
      · have ek : k = ds.length := by omega
        subst ek
        refine .inl ⟨ws (Nat.le_refl _), ?_⟩
        rw [List.drop_length] at hr
        cases hr
        rw [List.append_nil] at hy
        subst hy
        refine q (.ref p) (upd F' p (.lst acc)) H ⟨fun b o eb => ?_, ⟨fun b o eb => ?_, fun b ps eb => ?_⟩, nx.h, fun b o eb => ?_, nx.tab⟩ (.lst upd_same (ra.mono fun b o eb => ?_))
        · rw [upd_ne fun z => by rw [z] at eb; rw [nx.f _ _ eb] at hFp; cases hFp]
          exact nx.f _ _ eb
        · by_cases hb : b = p
          · subst hb; rw [upd_same] at eb; rw [← eb]; exact hHp
          · rw [upd_ne hb] at eb; exact nx.z.sub _ _ eb
        · by_cases hb : b = p
          · subst hb; rw [upd_same] at eb; cases eb
          · rw [upd_ne hb] at eb; exact nx.z.nt _ _ eb
        · by_cases hb : b = p
          · subst hb
            exact .inr fun o' e' => by rw [hp] at e'; cases e'
          · rw [upd_ne hb] at eb; exact nx.new _ _ eb
        · rw [upd_ne fun z => by rw [z, hFp] at eb; cases eb]; exact eb
  · exact q.elim
theorem ts_nil : PTs X [] (tT X.K T W yes) := ⟨fun pins s σ H Q I ⟨ρ, F, a, h⟩ => pts_nil.run pins s σ H Q I (h true F H (Nx.refl a.z) rfl)⟩
theorem ts_one {c : Expr} {f : Rho → Res Bool} (h : DQ X T W c f) : PTs X [c] (tT X.K T W f) := pts_one h
theorem e_lc {elt tg iter : Expr} {ifs : List Expr} {scope : Scope} {x : Str} {i : Nat} {pos : Pos} {f : Rho → Res (List D)} {t : Rho → Res Bool} {e : Rho → Res D} (hc : X.calm = true) (hN : X.N.Nodup) (hi : DI X T W tg iter f) (ok : BlkOk X.N X.env.scope scope [(x, i)])
    (hg : ∀ (s : Shared) (H : Hp) (C : Addr) (cl : List (Str × Addr)) (fp : List Addr), PG (X.blk s H scope (compEnvC scope cl C X.env) fp) tg (gName i))
    (ht : ∀ (s : Shared) (H : Hp) (C : Addr) (cl : List (Str × Addr)) (fp : List Addr), PTs (X.blk s H scope (compEnvC scope cl C X.env) fp) ifs (tT X.K T W0 t))
    (he : ∀ (s : Shared) (H : Hp) (C : Addr) (cl : List (Str × Addr)) (fp : List Addr), DE (X.blk s H scope (compEnvC scope cl C X.env) fp) T W0 elt e) (hs : ∀ x, foldedSetIterable iter X.env x = pure x := by intro _; rfl) :
    DE X T W (.ListComp elt [⟨tg, iter, ifs, 0⟩] scope pos) (lcD f i t e) :=
  (pe_lc (own := [(x, i)]) hc hN hi ok hg ht he hs).to fun _ _ _ h => lc_to h
end

/-! ### defs -/
def startR (n : Nat) (ds : List D) : Rho := ds.map En.z ++ List.replicate (n - ds.length) .u
def runB (n : Nat) (s : Rho → SR) (ds : List D) : Res D := match s (startR n ds) with
  | .nx _ => .ok .non
  | .rt d => .ok d
  | .ex m _ => .ex m
  | _ => .bad
abbrev WofE (E : XK) : WX := fun cls d _ H => E cls d H
def spD (K : PySem.W.Frag) (T : List (Addr × Str)) (n : Nat) (den : List D → Res D) : Sp := fun vs H Q E => ∃ F ds, Fz F H ∧ Tabs T H ∧ RpAll K F vs ds ∧ ds.length = n ∧ aft (Rp K) K T (WofE E) [] F H Q (den ds)
def callD (n : Nat) (den : List D → Res D) (f : Rho → Res (List D)) : Rho → Res D := fun ρ => (f ρ).bind fun ds => if ds.length = n then den ds else .bad
theorem Rl.start {K : PySem.W.Frag} {F H : Hp} {vs : List V} {ds : List D} {N : List Str} (r : RpAll K F vs ds) : Rl K F H (L2.start N vs) (startR N.length ds) := by
  have hl := r.length
  have key : ∀ (i : Nat) (en : En), (startR N.length ds)[i]? = some en → (∃ d, ds[i]? = some d ∧ en = .z d) ∨ en = .u := fun i en h => by
    unfold startR at h
    rw [List.getElem?_append] at h
    split at h
    · rw [List.getElem?_map] at h
      cases e : ds[i]? with
      | none => rw [e] at h; cases h
      | some d => rw [e] at h; cases h; exact .inl ⟨d, rfl, rfl⟩
    · rw [List.getElem?_replicate] at h
      split at h
      · cases h; exact .inr rfl
      · cases h
  refine ⟨?_, fun i d h => ?_, fun i d h => ?_, fun i j d e p q _ h => ?_⟩
  · unfold L2.start startR
    simp [hl]
  · rcases key i _ h with ⟨d', e, z⟩ | z
    · cases z
      obtain ⟨v, hv, rv⟩ := r.get e
      refine ⟨v, ?_, rv⟩
      unfold L2.start
      rw [List.getElem?_append_left (by rw [List.length_map]; exact (List.getElem?_eq_some_iff.mp hv).1), List.getElem?_map, hv]
      rfl
    · cases z
  · rcases key i _ h with ⟨d', e, z⟩ | z <;> cases z
  · rcases key i _ h with ⟨d', e, z⟩ | z <;> cases z
structure OkD (P : Program) (w : World) (K : PySem.W.Frag) (mg : Str → Option Value) (base : Heap) (T : List (Addr × Str)) (k : Nat) (x : Str) (n : Nat) (den : List D → Res D) : Prop where
  ex : ∃ fd ps, FnOk P w K mg base (L2.CX P w) k (He.ga K x) fd ps (spD K T n den) ∧ Binds K fd ps []
  kp : PySem.W.keepIn K (.ref (He.ga K x)) = true
  mg : mg x = some (.ref (He.ga K x))
theorem fn_ok {P : Program} {w : World} {K : PySem.W.Frag} {mg : Str → Option Value} {base : Heap} {T : List (Addr × Str)} {k : Nat} {x qual : Str} {params : Arguments} {body : List Stmt} {scope : Scope} {kws : List (Str × V)} {f : Addr} {fd : FuncData} {N ps : List Str} {n : Nat} {s : Rho → SR}
    (Fd : FunD K x qual params body scope [] kws f fd) (S : FnScope N ps scope) (hn : ps.length = n)
    (hb : ∀ (cdv : Value) (A : Around) (outer : List Env) (s0 : Shared) (H0 : Hp) (E : XK) (F0 : Hp), Room k (A.deeper (envOfC qual scope s0.heap.objs.size f cdv)) → DSs (cxOf (L2.CX P w) P w K mg base N qual scope f cdv A outer s0 H0 E) T (WofE E) F0 H0 body s) :
    FnOk P w K mg base (L2.CX P w) (k + 1) f fd ps (spD K T n (runB N.length s)) := by
  refine Fd.ok S (fun vs H Q E h => ?_) fun cdv A outer s0 H vs Q E hr h => ?_
  · obtain ⟨F, ds, _, _, r, hl, _⟩ := h
    rw [r.length, hl, hn]
  · obtain ⟨F, ds, z, tb, r, hl, h⟩ := h
    refine ⟨_, hb cdv A outer s0 H E F hr, startR N.length ds, F, ⟨⟨z, tb, Rl.start r⟩, Nx.refl z, fun i d p h1 => ?_⟩, ?_⟩
    · exfalso
      have o := (Rl.start (K := K) (F := F) (H := H) (N := N) r)
      unfold startR at h1
      rw [List.getElem?_append] at h1
      split at h1
      · rw [List.getElem?_map] at h1
        cases e : ds[i]? with
        | none => rw [e] at h1; cases h1
        | some d => rw [e] at h1; cases h1
      · rw [List.getElem?_replicate] at h1
        split at h1 <;> cases h1
    · unfold runB at h
      cases e : s (startR N.length ds) with
      | nx ρ => rw [e] at h; exact fun σ F' H' g _ => h .non F' H' g.nx .non
      | rt d => rw [e] at h; exact fun v F' H' nx rv => h v F' H' nx rv
      | ex m ρ => rw [e] at h; exact fun σ F' H' g _ => h F' H' g.nx
      | bk ρ => rw [e] at h; exact h.elim
      | ct ρ => rw [e] at h; exact h.elim
      | bad => rw [e] at h; exact h.elim
section
variable {X : Cx} {T : List (Addr × Str)} {W : WX} {F0 H0 : Hp}
theorem call_to {K : PySem.W.Frag} {n : Nat} {den : List D → Res D} {f : Rho → Res (List D)} {σ : L2.St} {H : Hp} {Q : VK} (h : tE K T W (callD n den f) σ H Q) : tCallS (spD K T n den) (WE W) (tA K T W f) σ H Q := by
  obtain ⟨ρ, F, a, h⟩ := h
  refine ⟨ρ, F, a, (aft.bind (R := RpAll K) h).imp fun d _ v F1 H1 _ _ q => ?_⟩
  obtain ⟨b, F2, _, nx, rv, q⟩ := q
  have q : aft (Rp K) K T W σ F2 H1 Q (if b.length = n then den b else .bad) := q
  split at q
  · rename_i hl
    refine ⟨F2, b, nx.z, nx.tab a.t, rv, hl, ?_⟩
    cases e : den b with
    | ok d => rw [e] at q; exact q
    | ex m => rw [e] at q; exact q
    | bad => rw [e] at q; exact q.elim
  · exact q.elim
theorem e_call {j k n : Nat} {x : Str} {den : List D → Res D} {e : Expr} {es : List Expr} {p pos : Pos} {f : Rho → Res (List D)} (O : OkD X.prog X.w X.K X.mg X.base T j x n den) (hr : Room k X.A) (tk : Takes X W) (hg : Gl X x) (ha : DA X T W (e :: es) f) (hj : j ≤ k := by decide)
    (hdb : (x == ("__debug__" : Str)) = false := by decide) (he : starEach (e :: es) X.env = (false, eval e X.env) :: starEach es X.env := by rfl) (hpl : (backTo pos (starEach es X.env)).any (·.1) = false := by rfl) :
    DE X T W (.Call (.Name x p) (e :: es) [] pos) (callD n den f) := by
  obtain ⟨fd, ps, G, b⟩ := O.ex
  exact (pe_callS (E := WE W) G (hr.mono hj) hg O.mg O.kp b (fun σ => passAt tk σ) ha hdb he hpl).to fun _ _ _ h => call_to h
/-- what is known of an own error class -/
structure ExcN (K : PySem.W.Frag) (mg : Str → Option Value) (x : Str) : Prop where
  e : PySem.W.excIn K (He.ga K x) He.veBase "ValueError.__new__" = true
  k : PySem.W.keepIn K (.ref (He.ga K x)) = true
  b : PySem.W.subIn K (.ref (He.ga K x)) (.type "BaseException") = some true
  t : PySem.W.typeIn K (.ref (He.ga K x)) = some (.type "type")
  g : mg x = some (.ref (He.ga K x))
def sraise (x : Str) : Rho → SR := fun ρ => .ex x ρ
theorem s_raise {x m : Str} {j : Nat} {p p2 pos pos2 : Pos} (N : ExcN X.K X.mg x) (hc : X.calm = true) (tk : Takes X W) (hg : Gl X x) (hdb : (x == ("__debug__" : Str)) = false := by decide) : DS X T W F0 H0 (.Raise (some (.Call (.Name x p) [.Constant (.str m) j p2] [] pos)) none pos2) (sraise x) :=
  (ps_raise hc tk (pmk_own PySem.F.excBase_ValueError N.e N.g N.k (raises_own N.b N.t) hg hdb)).to fun Z σ H ⟨ρ, F, g, h⟩ => h σ F H g (Sub.refl F)
end
end DN
namespace DN
open PySem PySem.Spec PyProof.Rows L2
open LamX (Tabs ExtN)

/-! ### the module's names -/
section
variable {X : Cx} {T : List (Addr × Str)} {W : WX}
theorem e_gint {x : Str} {i : Int} {pos : Pos} (h : ∃ t, X.mg x = some (.int i t)) (hg : Gl X x) (hd : (x == ("__debug__" : Str)) = false := by decide) : DE X T W (.Name x pos) (con (.int i)) := by
  obtain ⟨t, h⟩ := h
  exact e_c (pe_glob (v := .int i) hg h ⟨t, rfl⟩ hd) fun _ => .int i
theorem e_gstr {x z : Str} {pos : Pos} (h : ∃ t, X.mg x = some (.str z t)) (hg : Gl X x) (hd : (x == ("__debug__" : Str)) = false := by decide) : DE X T W (.Name x pos) (con (.str z)) := by
  obtain ⟨t, h⟩ := h
  exact e_c (pe_glob (v := .str z) hg h ⟨t, rfl⟩ hd) fun _ => .str z
theorem RpAll.strs {K : PySem.W.Frag} {F : Hp} : ∀ (ns : List Str), RpAll K F (ns.map V.str) (ns.map D.str)
  | [] => .nil
  | n :: ns => .cons (.str n) (RpAll.strs ns)
theorem e_gtup {x : Str} {zs : List Str} {pos : Pos} (h : X.mg x = some (.ref (He.ga X.K x))) (ht : ∀ H, SqT X.K H (He.ga X.K x) (zs.map V.str)) (hg : Gl X x) (hd : (x == ("__debug__" : Str)) = false := by decide) : DE X T W (.Name x pos) (con (.tup (zs.map D.str))) :=
  e_c (pe_glob (v := .ref (He.ga X.K x)) hg h rfl hd) fun F => .tup (ht F) (RpAll.strs zs)
theorem e_ty {x : Str} {n : String} {pos : Pos} (hm : X.mg x = none) (hv : bootBuiltins x = some (.type n)) (hg : Gl X x) (hn : x ≠ "__name__" := by decide) (hd : (x == ("__debug__" : Str)) = false := by decide) : DE X T W (.Name x pos) (con (.ty n)) :=
  e_c (pe_bltn (v := .ty n) hg hm hv rfl hn hd) fun F => .ty n
end
theorem bt_len : bootBuiltins "len" = some (.builtin "len") := by decide +kernel
theorem bt_isinstance : bootBuiltins "isinstance" = some (.builtin "isinstance") := by decide +kernel
theorem bt_all : bootBuiltins "all" = some (.builtin "all") := by decide +kernel
theorem bt_int : bootBuiltins "int" = some (.type "int") := by decide +kernel
theorem bt_str : bootBuiltins "str" = some (.type "str") := by decide +kernel
theorem bt_tuple : bootBuiltins "tuple" = some (.type "tuple") := by decide +kernel
/-! ### the end -/
theorem start_arr {K : PySem.W.Frag} {H : Hp} {a : Addr} {ns : List Int} (h : SqL K H a (ns.map V.int)) : ∃ F, Fz F H ∧ Rp K F (.ref a) (.arr ns) := by
  rcases h with (h | ⟨o, h⟩) | h
  · refine ⟨fun b => if b = a then some (.lst (ns.map V.int)) else none, ⟨fun b o e => ?_, fun b ps e => ?_⟩, .arr (.inl (.inl (if_pos rfl)))⟩
    · by_cases hb : b = a
      · rw [if_pos hb] at e; rw [hb, h]; exact e
      · rw [if_neg hb] at e; cases e
    · by_cases hb : b = a
      · rw [if_pos hb] at e; cases e
      · rw [if_neg hb] at e; cases e
  · refine ⟨fun b => if b = a then some (.frz o (.lst (ns.map V.int))) else none, ⟨fun b o e => ?_, fun b ps e => ?_⟩, .arr (.inl (.inr ⟨o, if_pos rfl⟩))⟩
    · by_cases hb : b = a
      · rw [if_pos hb] at e; rw [hb, h]; exact e
      · rw [if_neg hb] at e; cases e
    · by_cases hb : b = a
      · rw [if_pos hb] at e; cases e
      · rw [if_neg hb] at e; cases e
  · exact ⟨fun _ => none, ⟨(fun b o e => nomatch e), (fun b ps e => nomatch e)⟩, .arr (.inr h)⟩
theorem law_sp {K : PySem.W.Frag} {T : List (Addr × Str)} {H : Hp} {a : Addr} {ns : List Int} {den : List D → Res D} (hT : Tabs T H) (h : SqL K H a (ns.map V.int)) (hd : den [.arr ns] = .ok (.bl true)) : spD K T 1 den [.ref a] H (fun v _ => v = .bl true) fun _ _ _ => False := by
  obtain ⟨F, z, r⟩ := start_arr h
  refine ⟨F, [.arr ns], z, hT, .cons r .nil, rfl, ?_⟩
  rw [hd]
  intro v F' H' n rv
  cases rv
  rfl
theorem cx_false {P : Program} {w : World} {l : List Env} {H : Hp} {s : Shared} {e : Value} {s' : Shared} (h : L2.CX P w l H s (fun _ _ _ => False) e s') : False := by
  obtain ⟨_, _, _, _, _, _, _, _, _, _, _, _, z⟩ := h
  exact z.elim
end DN
namespace HT
open PySem PyProof.Rows
section
variable {prog : Program} {w : World} {A : Around} {E : Value → Shared → Prop} {s : Shared}
/-- the slice ::-1 applied to n places -/
theorem back_applied {sl : Addr} {u : Tok} {n : Nat} {Q : Int × Int × Nat → Shared → Prop} (hs : s.heap.IsSliceOf sl .none .none (.int (-1) u)) (h : Q ((n : Int) - 1, -1, n) s) :
    wpAny (model prog w) A (Builtin.Slice.sliceApplied (.ref sl) (pure (n : Int))) Q E s := by
  obtain ⟨os, h1, _, h2⟩ := hs
  have f0 : ∀ {Q : Value → Shared → Prop}, Q .none s → wpAny (model prog w) A (field (.ref sl) 0) Q E s := fun q => wpAny_field h1 h2 rfl q
  have f1 : ∀ {Q : Value → Shared → Prop}, Q .none s → wpAny (model prog w) A (field (.ref sl) 1) Q E s := fun q => wpAny_field h1 h2 rfl q
  have f2 : ∀ {Q : Value → Shared → Prop}, Q (.int (-1) u) s → wpAny (model prog w) A (field (.ref sl) 2) Q E s := fun q => wpAny_field h1 h2 rfl q
  unfold Builtin.Slice.sliceApplied
  wp_walk using f0, f1, f2, slicePart_int, slicePart_none
  have e : Builtin.Slice.slicePlaces ((n : Int) - 1) (-1) (-1) = n := by
    unfold Builtin.Slice.slicePlaces
    simp
    omega
  exact e.symm ▸ h
theorem back_taken (xs : Array Value) : ((List.range xs.size).filterMap fun (k : Nat) => xs[((xs.size : Int) - 1 + (k : Int) * (-1)).toNat]?).toArray = xs.toList.reverse.toArray := by
  rw [← PySem.W.krv_all, ← List.filterMap_reverse, ← PySem.W.krv_range, List.filterMap_map]
  refine congrArg List.toArray (congrFun (congrArg List.filterMap (funext fun k => ?_)) _)
  show xs[_]? = xs[xs.size - 1 - k]?
  congr 1
  omega
theorem back_body {t sl : Addr} {u : Tok} {items : Array Value} {Q : Fin → Shared → Prop} (ht : IsTup s.heap t items) (hs : s.heap.IsSliceOf sl .none .none (.int (-1) u)) (hz : items.size ≤ sizeLine)
    (h : Q (.done (.ret (.ref s.heap.objs.size))) { s with heap := s.heap.push { cls := .type "tuple", data := .seq items.toList.reverse.toArray } }) : wpAny (model prog w) A (Builtin.«tuple.__getitem__» ⟨[.ref t, .ref sl], []⟩) Q E s := by
  have ty : s.TypeIs (.ref sl) "slice" := let ⟨o, a, b, _⟩ := hs; ⟨o, a, b⟩
  have z : ¬ items.toList.reverse.toArray.size > sizeLine := by simpa using hz
  unfold Builtin.«tuple.__getitem__»
  wp_walk using tupleItemsOf_ ht, wpAny_typeOf ty, back_applied hs
  rw [back_taken, if_neg z]
  wp_walk using wpAny_newObj_type
  exact h
theorem back_getItem {t sl : Addr} {u : Tok} {items : Array Value} {Q : Value → Shared → Prop} (ht : IsTup s.heap t items) (hs : s.heap.IsSliceOf sl .none .none (.int (-1) u)) (hz : items.size ≤ sizeLine)
    (h : Q (.ref s.heap.objs.size) { s with heap := s.heap.push { cls := .type "tuple", data := .seq items.toList.reverse.toArray } }) : wpAny (model prog w) A (getItem (.ref t) (.ref sl)) Q E s := by
  have c : ∀ {A' : Around} {E' : Value → Shared → Prop} {R : Value → Shared → Prop}, R (.ref s.heap.objs.size) { s with heap := s.heap.push { cls := .type "tuple", data := .seq items.toList.reverse.toArray } } →
      wpAny (model prog w) A' (call (.builtin "tuple.__getitem__") [.ref t, .ref sl]) R E' s :=
    fun q => wpAny_call_entry PyProof.Rows.slot_tuple_getitem ht.typeIs entry_tuple_getitem (back_body ht hs hz ⟨_, rfl, q⟩) (args_tuple_getitem _ _)
  unfold getItem
  wp_walk using wpAny_sequenceKey ht.typeIs (by decide), wpAny_callSpecial?_slot (name := Str.ofString "__getitem__") ht.typeIs PyProof.Rows.slot_tuple_getitem, c
  exact h
end
end HT
namespace DN
open PySem PySem.Spec PyProof.Rows L2
open LamX (Tabs ExtN)
section
variable {X : Cx}
/-- what the expression ::-1 gives: a slice without bounds, step -1 -/
theorem back_eval {k : Nat} {p1 p2 p3 : Pos} {pins : List (Addr × Obj)} {s : Shared} {σ : L2.St} {H : Hp} {R : Value → Shared → Prop} (I : Inv X pins σ H s)
    (h : ∀ (s' : Shared) (b : Addr) (u : Tok), Inv X pins σ H s' → s'.heap.IsSliceOf b .none .none (.int (-1) u) → R (.ref b) s') :
    wpAny (model X.prog X.w) X.A (eval (.Slice none none (some (.UnaryOp .USub (.Constant (.int 1) k p1) p2)) p3) X.env) R X.xe s := by
  have step : PE X (.UnaryOp .USub (.Constant (.int 1) k p1) p2) (tUn (rU fun i => .int (-i)) (tC (.int 1))) := pe_un un_neg pe_int
  apply wpAny_Slice
  simp only [evalPart_none, evalPart_some]
  refine wpAny_pure (wpAny_pure (wpAny_mono (step.run pins s σ H (fun x H' => x = .int (-1) ∧ H' = H) I ⟨1, rfl, rfl, rfl⟩) (fun v s' q => ?_) fun _ _ z => z))
  obtain ⟨_, _, J, r, rfl, rfl⟩ := q
  obtain ⟨u, rfl⟩ := r
  exact h _ _ u (J.kept (t' := s'.toks) fun _ _ e => Heap.get?_push_of_some _ e) (Heap.IsSliceOf.new ..)
/-- t[::-1], t a tuple -/
def tRevT (K : PySem.W.Frag) (te : TE) : TE := fun σ H Q => te σ H fun x H1 => ∃ a xs, x = .ref a ∧ SqT K H1 a xs ∧ ∀ p, H1 p = none → Q (.ref p) (upd H1 p (.tup xs.reverse))
theorem pe_revT {e : Expr} {te : TE} {k : Nat} {p1 p2 p3 pos : Pos} (he : PE X e te) : PE X (.Subscript e (.Slice none none (some (.UnaryOp .USub (.Constant (.int 1) k p1) p2)) p3) pos) (tRevT X.K te) where
  run pins s σ H Q I h := by
    apply Subscript_
    refine wpAny_mono (he.run pins s σ H _ I h) (fun v s1 q => ?_) fun _ _ z => z
    obtain ⟨_, H1, J, rv, a, xs, rfl, hx, q⟩ := q
    cases rv
    refine back_eval J fun s2 b u J2 sl => ?_
    obtain ⟨its, r, tup, hz⟩ := J2.tuple hx
    have lz : its.length ≤ sizeLine := r.length ▸ hz
    refine tail_any (ops := [.ref a, .ref b]) tup.typeIs PyProof.Rows.slot_tuple_getitem.lookup (HT.back_getItem tup sl (by simpa using lz) ?_) (by with_unfolding_all rfl)
    have new := J2.laid (t' := s2.toks) (o := .tup xs.reverse) (h' := s2.heap.push { cls := .type "tuple", data := .seq its.reverse.toArray }) (fun _ _ e => Heap.get?_push_of_some _ e) (Nat.le_refl _)
      ⟨by simpa using hz, its.reverse, r.reverse, _, Heap.get?_push_size _ rfl, rfl, 0, rfl⟩
    exact ⟨.ref _, _, new, rfl, q _ (J2.hok.fresh (Nat.le_refl _))⟩
end
def revD : D → Option D
  | .tup xs => some (.tup xs.reverse)
  | .lst xs => some (.lst xs.reverse)
  | _ => none
theorem _root_.L2.PE.or {X : Cx} {e : Expr} {t u : TE} (h : PE X e t) (h2 : PE X e u) : PE X e (fun σ H Q => t σ H Q ∨ u σ H Q) := ⟨fun pins s σ H Q I q => q.elim (h.run pins s σ H Q I) (h2.run pins s σ H Q I)⟩
section
variable {X : Cx} {T : List (Addr × Str)} {W : WX}
theorem e_rev {e : Expr} {f : Rho → Res D} {k : Nat} {p1 p2 p3 pos : Pos} (he : DE X T W e f) : DE X T W (.Subscript e (.Slice none none (some (.UnaryOp .USub (.Constant (.int 1) k p1) p2)) p3) pos) (una revD f) :=
  (PE.or (pe_revT he) (pe_revL he)).to fun σ H Q ⟨ρ, F, a, h⟩ => by
    by_cases hl : ∃ ds, f ρ = .ok (.lst ds)
    · refine .inr ⟨ρ, F, a, (aft.bind (R := Rp X.K) h).imp fun d ed v F1 H1 _ _ q => ?_⟩
      obtain ⟨b, F2, eb, n, rv, q⟩ := q
      obtain ⟨ds, hl⟩ := hl
      rw [hl] at eb
      cases eb
      obtain ⟨z, hz, q⟩ := ofO_ok q
      cases rv with
      | lst h1 r1 =>
        cases hz
        exact ⟨_, _, rfl, SqL.of (n.z.sub _ _ h1), fun p hp => q _ _ _ (Nx.push n.z hp ntL) (rp_lst n.z hp r1.reverse)⟩
    · refine .inl ⟨ρ, F, a, (aft.bind (R := Rp X.K) h).imp fun d ed v F1 H1 _ _ q => ?_⟩
      obtain ⟨b, F2, eb, n, rv, q⟩ := q
      obtain ⟨z, hz, q⟩ := ofO_ok q
      cases rv with
      | tup h1 r1 =>
        cases hz
        exact ⟨_, _, rfl, n.z.sub.st h1, fun p hp => q _ _ _ (Nx.push n.z hp ntT) (rp_tup n.z hp r1.reverse)⟩
      | lst h1 r1 => exact absurd ⟨_, eb⟩ hl
      | _ => cases hz
end
end DN
namespace DN
open PySem PySem.Spec PyProof.Rows L2

/-! ### evaluating functions of data -/
def app2 (G : D → D → Option D) : Res D → Res D → Res D
  | .ok a, .ok b => ofO (G a b)
  | .ok _, .ex n => .ex n
  | .ok _, .bad => .bad
  | .ex n, _ => .ex n
  | .bad, _ => .bad
def app1 (G : D → Option D) (r : Res D) : Res D := r.bind fun a => ofO (G a)
def appL (G : List D → Option D) (r : Res (List D)) : Res D := r.bind fun a => ofO (G a)
def consR : Res D → Res (List D) → Res (List D)
  | .ok a, .ok b => .ok (a :: b)
  | .ok _, .ex n => .ex n
  | .ok _, .bad => .bad
  | .ex n, _ => .ex n
  | .bad, _ => .bad
def callR (n : Nat) (den : List D → Res D) (r : Res (List D)) : Res D := r.bind fun ds => if ds.length = n then den ds else .bad
def tstR (r : Res D) : Res Bool := r.bind ans
def seqR (r : SR) (t : Rho → SR) : SR := match r with
  | .nx ρ => t ρ
  | r => r
def retR (r : Res D) (ρ : Rho) : SR := bindS r ρ .rt
def asgR (r : Res D) (ρ : Rho) (g : Tg) : SR := bindS r ρ fun d => match g ρ d with
  | some ρ' => .nx ρ'
  | none => .bad
def ifR (r : Res Bool) (s t : Rho → SR) (ρ : Rho) : SR := bindS r ρ fun b => if b = true then s ρ else t ρ
def finR : SR → Res D
  | .nx _ => .ok .non
  | .rt d => .ok d
  | .ex m _ => .ex m
  | _ => .bad
def andR (r : Res Bool) (g : Rho → Res Bool) (ρ : Rho) : Res Bool := r.bind fun b => if b = true then g ρ else .ok false
def orR (r : Res Bool) (g : Rho → Res Bool) (ρ : Rho) : Res Bool := r.bind fun b => if b = true then .ok true else g ρ
def notR (r : Res Bool) : Res Bool := r.bind fun b => .ok (!b)
def andER (r : Res D) (g : Rho → Res D) (ρ : Rho) : Res D := r.bind fun d => (ans d).bind fun b => if b = true then g ρ else .ok (.bl false)
def orER (r : Res D) (g : Rho → Res D) (ρ : Rho) : Res D := r.bind fun d => (ans d).bind fun b => if b = true then .ok (.bl true) else g ρ
def notER (r : Res D) : Res D := r.bind fun d => (ans d).bind fun b => .ok (.bl (!b))
def mkTR (r : Res (List D)) : Res D := r.bind fun ds => if ds.length ≤ sizeLine then .ok (.tup ds) else .bad
def mkLR (r : Res (List D)) : Res D := r.bind fun ds => if ds.length ≤ sizeLine then .ok (.lst ds) else .bad
def slcR (r : Res D) (lo hi : Res (Option Int)) : Res D := r.bind fun d => lo.bind fun lo => hi.bind fun hi => ofO (slD d lo hi)
def psmR (r : Res D) : Res (Option Int) := r.bind intO
def forR (r : Res (List D)) (g : Tg) (s : Rho → SR) (ρ : Rho) : SR := bindS r ρ fun ds => loopD g s ds ρ
def chnR (G G' : D → D → Option D) (a b c : Res D) : Res D := a.bind fun d => b.bind fun e => (ofO (G d e)).bind fun z => (ans z).bind fun k => if k = true then c.bind fun c => ofO (G' e c) else .ok (.bl false)
theorem runB_eq {n : Nat} {g : Rho → SR} {ds : List D} {ρ : Rho} (h : startR n ds = ρ) : runB n g ds = finR (g ρ) := by
  subst h
  unfold runB finR
  cases g (startR n ds) <;> rfl
section
variable {ρ : Rho}
theorem bin_def {G f g} : bop G f g ρ = app2 G (f ρ) (g ρ) := by
  unfold bop app2
  cases f ρ <;> cases g ρ <;> rfl
theorem una_def {G f} : una G f ρ = app1 G (f ρ) := rfl
theorem cal_def {G f} : cal G f ρ = appL G (f ρ) := rfl
theorem acons_def {f g} : acons f g ρ = consR (f ρ) (g ρ) := by
  unfold acons consR
  cases f ρ <;> cases g ρ <;> rfl
theorem anil_def : anil ρ = .ok [] := rfl
theorem con_def {d} : con d ρ = .ok d := rfl
theorem callD_def {n den f} : callD n den f ρ = callR n den (f ρ) := rfl
theorem tst_def {f} : tst f ρ = tstR (f ρ) := rfl
theorem sseq_def {s t} : sseq s t ρ = seqR (s ρ) t := by
  unfold sseq seqR
  cases s ρ <;> rfl
theorem sret_def {f} : sret f ρ = retR (f ρ) ρ := rfl
theorem sasg_def {f g} : sasg f g ρ = asgR (f ρ) ρ g := rfl
theorem sif_def {c s t} : sif c s t ρ = ifR (c ρ) s t ρ := rfl
theorem sskip_def : sskip ρ = .nx ρ := rfl
theorem sraise_def {x} : sraise x ρ = .ex x ρ := rfl
theorem andQ_def {f g} : andQ f g ρ = andR (f ρ) g ρ := rfl
theorem orQ_def {f g} : orQ f g ρ = orR (f ρ) g ρ := rfl
theorem notQ_def {f} : notQ f ρ = notR (f ρ) := rfl
theorem andE_def {f g} : andE f g ρ = andER (f ρ) g ρ := rfl
theorem orE_def {f g} : orE f g ρ = orER (f ρ) g ρ := rfl
theorem notE_def {f} : notE f ρ = notER (f ρ) := rfl
theorem mkT_def {f} : mkT f ρ = mkTR (f ρ) := rfl
theorem mkL_def {f} : mkL f ρ = mkLR (f ρ) := rfl
theorem slc_def {f g h} : slc f g h ρ = slcR (f ρ) (g ρ) (h ρ) := rfl
theorem psm_def {f} : psm f ρ = psmR (f ρ) := rfl
theorem pno_def : pno ρ = .ok none := rfl
theorem sfor_def {f g s} : sfor f g s ρ = forR (f ρ) g s ρ := rfl
theorem chn_def {G G' f g h} : chn G G' f g h ρ = chnR G G' (f ρ) (g ρ) (h ρ) := rfl
theorem var_zero {d r} : var 0 (.z d :: r) = .ok d := rfl
theorem var_succ {n x r} : var (n + 1) (x :: r) = var n r := rfl
theorem app2_ok {G a b} : app2 G (.ok a) (.ok b) = ofO (G a b) := rfl
theorem app1_ok {G a} : app1 G (.ok a) = ofO (G a) := rfl
theorem appL_ok {G a} : appL G (.ok a) = ofO (G a) := rfl
theorem consR_ok {a b} : consR (.ok a) (.ok b) = .ok (a :: b) := rfl
theorem ofO_some {α} {a : α} : ofO (some a) = .ok a := rfl
theorem call0 {den} : callR 0 den (.ok []) = den [] := rfl
theorem call1 {den a} : callR 1 den (.ok [a]) = den [a] := rfl
theorem call2 {den a b} : callR 2 den (.ok [a, b]) = den [a, b] := rfl
theorem call3 {den a b c} : callR 3 den (.ok [a, b, c]) = den [a, b, c] := rfl
theorem call4 {den a b c d} : callR 4 den (.ok [a, b, c, d]) = den [a, b, c, d] := rfl
theorem call5 {den a b c d e} : callR 5 den (.ok [a, b, c, d, e]) = den [a, b, c, d, e] := rfl
theorem tstR_ok {b} : tstR (.ok (.bl b)) = .ok b := rfl
theorem seqR_nx {t} : seqR (.nx ρ) t = t ρ := rfl
theorem seqR_rt {d t} : seqR (.rt d) t = .rt d := rfl
theorem seqR_ex {n t} : seqR (.ex n ρ) t = .ex n ρ := rfl
theorem retR_ok {d} : retR (.ok d) ρ = .rt d := rfl
theorem retR_ex {n} : retR (.ex n) ρ = .ex n ρ := rfl
theorem asgR_n {d i} : asgR (.ok d) ρ (gn i) = .nx (ρ.set i (.z d)) := rfl
theorem asgR_ex {n g} : asgR (.ex n) ρ g = .ex n ρ := rfl
theorem asgR_2 {a b i j} : asgR (.ok (.tup [a, b])) ρ (gt 2 (gsc (gn i) (gsc (gn j) gsn))) = .nx ((ρ.set i (.z a)).set j (.z b)) := rfl
theorem asgR_2L {a b i j} : asgR (.ok (.lst [a, b])) ρ (gt 2 (gsc (gn i) (gsc (gn j) gsn))) = .nx ((ρ.set i (.z a)).set j (.z b)) := rfl
theorem asgR_3 {a b c i j k} : asgR (.ok (.tup [a, b, c])) ρ (gt 3 (gsc (gn i) (gsc (gn j) (gsc (gn k) gsn)))) = .nx (((ρ.set i (.z a)).set j (.z b)).set k (.z c)) := rfl
theorem ifR_t {s t} : ifR (.ok true) s t ρ = s ρ := rfl
theorem ifR_f {s t} : ifR (.ok false) s t ρ = t ρ := rfl
theorem finR_rt {d} : finR (.rt d) = .ok d := rfl
theorem finR_nx : finR (.nx ρ) = .ok .non := rfl
theorem finR_ex {n} : finR (.ex n ρ) = .ex n := rfl
theorem andR_t {g} : andR (.ok true) g ρ = g ρ := rfl
theorem andR_f {g} : andR (.ok false) g ρ = .ok false := rfl
theorem orR_t {g} : orR (.ok true) g ρ = .ok true := rfl
theorem orR_f {g} : orR (.ok false) g ρ = g ρ := rfl
theorem notR_ok {b} : notR (.ok b) = .ok (!b) := rfl
theorem andER_t {g} : andER (.ok (.bl true)) g ρ = g ρ := rfl
theorem andER_f {g} : andER (.ok (.bl false)) g ρ = .ok (.bl false) := rfl
theorem orER_t {g} : orER (.ok (.bl true)) g ρ = .ok (.bl true) := rfl
theorem orER_f {g} : orER (.ok (.bl false)) g ρ = g ρ := rfl
theorem notER_ok {b} : notER (.ok (.bl b)) = .ok (.bl (!b)) := rfl
theorem psmR_ok {i} : psmR (.ok (.int i)) = .ok (some i) := rfl
theorem slcR_ok {d lo hi} : slcR (.ok d) (.ok lo) (.ok hi) = ofO (slD d lo hi) := rfl
theorem loop_cons {g s d ds ρ1 ρ'} (h : g ρ d = some ρ1) (h2 : s ρ1 = .nx ρ') : loopD g s (d :: ds) ρ = loopD g s ds ρ' := by
  show (match g ρ d with | none => SR.bad | some ρ1 => match s ρ1 with | .nx ρ' => loopD g s ds ρ' | .ct ρ' => loopD g s ds ρ' | .bk ρ' => .nx ρ' | r => r) = _
  rw [h]
  show (match s ρ1 with | .nx ρ' => loopD g s ds ρ' | .ct ρ' => loopD g s ds ρ' | .bk ρ' => .nx ρ' | r => r) = _
  rw [h2]
theorem forR_ok {ds g s} : forR (.ok ds) g s ρ = loopD g s ds ρ := rfl
theorem mkTR_ok {ds : List D} (h : ds.length ≤ 1000000) : mkTR (.ok ds) = .ok (.tup ds) := by
  show (if ds.length ≤ sizeLine then Res.ok (D.tup ds) else .bad) = _
  rw [if_pos (by rw [sizeLine_eq]; omega)]
theorem mkLR_ok {ds : List D} (h : ds.length ≤ 1000000) : mkLR (.ok ds) = .ok (.lst ds) := by
  show (if ds.length ≤ sizeLine then Res.ok (D.lst ds) else .bad) = _
  rw [if_pos (by rw [sizeLine_eq]; omega)]
theorem chn_le {i j k} : chnR leD leD (.ok (.int i)) (.ok (.int j)) (.ok (.int k)) = .ok (.bl (decide (i ≤ j) && decide (j ≤ k))) := by
  show (if decide (i ≤ j) = true then Res.ok (D.bl (decide (j ≤ k))) else .ok (.bl false)) = _
  cases decide (i ≤ j) <;> rfl
theorem chn_lt {i j k} : chnR leD ltD (.ok (.int i)) (.ok (.int j)) (.ok (.int k)) = .ok (.bl (decide (i ≤ j) && decide (j < k))) := by
  show (if decide (i ≤ j) = true then Res.ok (D.bl (decide (j < k))) else .ok (.bl false)) = _
  cases decide (i ≤ j) <;> rfl
/-! the operators on what they are for -/
theorem add_ii {i j} : addD (.int i) (.int j) = some (.int (i + j)) := rfl
theorem sub_ii {i j} : subD (.int i) (.int j) = some (.int (i - j)) := rfl
theorem neg_i {i} : negD (.int i) = some (.int (-i)) := rfl
theorem lt_ii {i j} : ltD (.int i) (.int j) = some (.bl (decide (i < j))) := rfl
theorem le_ii {i j} : leD (.int i) (.int j) = some (.bl (decide (i ≤ j))) := rfl
theorem gt_ii {i j} : gtD (.int i) (.int j) = some (.bl (decide (j < i))) := rfl
theorem ge_ii {i j} : geD (.int i) (.int j) = some (.bl (decide (j ≤ i))) := rfl
theorem eq_ii {i j} : eqD (.int i) (.int j) = some (.bl (i == j)) := by simp [eqD, eqOk, flatD, eqd]
theorem ne_ii {i j} : neD (.int i) (.int j) = some (.bl (!(i == j))) := by simp [neD, eqOk, flatD, eqd]
theorem eq_ss {i j} : eqD (.str i) (.str j) = some (.bl (i == j)) := by simp [eqD, eqOk, flatD, eqd]
theorem ne_ss {i j} : neD (.str i) (.str j) = some (.bl (!(i == j))) := by simp [neD, eqOk, flatD, eqd]
theorem eq_bb {i j} : eqD (.bl i) (.bl j) = some (.bl (i == j)) := by simp [eqD, eqOk, flatD, eqd]
theorem ne_bb {i j} : neD (.bl i) (.bl j) = some (.bl (!(i == j))) := by simp [neD, eqOk, flatD, eqd]
theorem mul_l {i j : Int} (h : -(2 ^ 64) < i ∧ i < 2 ^ 64) : mulD (.int i) (.int j) = some (.int (i * j)) := by
  show (if CMulD i j then some (D.int (i * j)) else none) = _
  rw [if_pos (.inl (.inl h))]
theorem mul_r {i j : Int} (h : -(2 ^ 64) < j ∧ j < 2 ^ 64) : mulD (.int i) (.int j) = some (.int (i * j)) := by
  show (if CMulD i j then some (D.int (i * j)) else none) = _
  rw [if_pos (.inl (.inr h))]
theorem log2_lt {n k : Nat} (h : n < 2 ^ k) (hk : 0 < k) : n.log2 < k := by
  by_cases h0 : n = 0
  · subst h0; simpa using hk
  · exact (Nat.log2_lt h0).mpr h
theorem div_s {i j : Int} (h : 0 < j ∧ j < 2 ^ 64) : divD (.int i) (.int j) = some (.int (i / j)) := by
  show (if CDivW i j then some (D.int (i / j)) else none) = _
  have a : j.natAbs.log2 < 64 := log2_lt (by omega) (by decide)
  rw [if_pos ⟨h.1, by omega⟩]
theorem mod_p {i j : Int} (h : 0 < j) : modD (.int i) (.int j) = some (.int (i % j)) := by
  show (if 0 < j then some (D.int (i % j)) else none) = _
  rw [if_pos h]
theorem ix_t {xs : List D} {i : Int} (h : 0 ≤ i ∧ i < xs.length) : ixD (.tup xs) (.int i) = some (xs.getD i.toNat .non) := by
  show atI xs i = _
  unfold atI ixN
  rw [if_pos h.1, if_pos h.2]
  show xs[i.toNat]? = _
  rw [List.getElem?_eq_getElem (by omega), List.getD_eq_getElem?_getD, List.getElem?_eq_getElem (by omega)]
  rfl
theorem ix_l {xs : List D} {i : Int} (h : 0 ≤ i ∧ i < xs.length) : ixD (.lst xs) (.int i) = some (xs.getD i.toNat .non) := by
  show atI xs i = _
  unfold atI ixN
  rw [if_pos h.1, if_pos h.2]
  show xs[i.toNat]? = _
  rw [List.getElem?_eq_getElem (by omega), List.getD_eq_getElem?_getD, List.getElem?_eq_getElem (by omega)]
  rfl
theorem ix_tm {xs : List D} {i m : Int} (h : 0 < m ∧ m ≤ xs.length) : ixD (.tup xs) (.int (i % m)) = some (xs.getD (i % m).toNat .non) := ix_t ⟨Int.emod_nonneg _ (by omega), Int.lt_of_lt_of_le (Int.emod_lt_of_pos _ h.1) h.2⟩
theorem ix_lm {xs : List D} {i m : Int} (h : 0 < m ∧ m ≤ xs.length) : ixD (.lst xs) (.int (i % m)) = some (xs.getD (i % m).toNat .non) := ix_l ⟨Int.emod_nonneg _ (by omega), Int.lt_of_lt_of_le (Int.emod_lt_of_pos _ h.1) h.2⟩
theorem ix_t0 {a : D} {r : List D} : ixD (.tup (a :: r)) (.int 0) = some a := by
  show atI (a :: r) 0 = _
  unfold atI ixN
  rw [if_pos (by decide), if_pos (by simp only [List.length_cons]; omega)]
  rfl
theorem ix_t1 {a b : D} {r : List D} : ixD (.tup (a :: b :: r)) (.int 1) = some b := by
  show atI (a :: b :: r) 1 = _
  unfold atI ixN
  rw [if_pos (by decide), if_pos (by simp only [List.length_cons]; omega)]
  rfl
theorem ix_t2 {a b c : D} {r : List D} : ixD (.tup (a :: b :: c :: r)) (.int 2) = some c := by
  show atI (a :: b :: c :: r) 2 = _
  unfold atI ixN
  rw [if_pos (by decide), if_pos (by simp only [List.length_cons]; omega)]
  rfl
theorem ix_t3 {a b c d : D} {r : List D} : ixD (.tup (a :: b :: c :: d :: r)) (.int 3) = some d := by
  show atI (a :: b :: c :: d :: r) 3 = _
  unfold atI ixN
  rw [if_pos (by decide), if_pos (by simp only [List.length_cons]; omega)]
  rfl
theorem ix_t4 {a b c d e : D} {r : List D} : ixD (.tup (a :: b :: c :: d :: e :: r)) (.int 4) = some e := by
  show atI (a :: b :: c :: d :: e :: r) 4 = _
  unfold atI ixN
  rw [if_pos (by decide), if_pos (by simp only [List.length_cons]; omega)]
  rfl
theorem ix_t5 {a b c d e f : D} {r : List D} : ixD (.tup (a :: b :: c :: d :: e :: f :: r)) (.int 5) = some f := by
  show atI (a :: b :: c :: d :: e :: f :: r) 5 = _
  unfold atI ixN
  rw [if_pos (by decide), if_pos (by simp only [List.length_cons]; omega)]
  rfl
theorem ix_t6 {a b c d e f g : D} {r : List D} : ixD (.tup (a :: b :: c :: d :: e :: f :: g :: r)) (.int 6) = some g := by
  show atI (a :: b :: c :: d :: e :: f :: g :: r) 6 = _
  unfold atI ixN
  rw [if_pos (by decide), if_pos (by simp only [List.length_cons]; omega)]
  rfl
theorem ix_t7 {a b c d e f g h : D} {r : List D} : ixD (.tup (a :: b :: c :: d :: e :: f :: g :: h :: r)) (.int 7) = some h := by
  show atI (a :: b :: c :: d :: e :: f :: g :: h :: r) 7 = _
  unfold atI ixN
  rw [if_pos (by decide), if_pos (by simp only [List.length_cons]; omega)]
  rfl
theorem ix_l0 {a : D} {r : List D} : ixD (.lst (a :: r)) (.int 0) = some a := by
  show atI (a :: r) 0 = _
  unfold atI ixN
  rw [if_pos (by decide), if_pos (by simp only [List.length_cons]; omega)]
  rfl
theorem ix_l1 {a b : D} {r : List D} : ixD (.lst (a :: b :: r)) (.int 1) = some b := by
  show atI (a :: b :: r) 1 = _
  unfold atI ixN
  rw [if_pos (by decide), if_pos (by simp only [List.length_cons]; omega)]
  rfl
theorem ix_l2 {a b c : D} {r : List D} : ixD (.lst (a :: b :: c :: r)) (.int 2) = some c := by
  show atI (a :: b :: c :: r) 2 = _
  unfold atI ixN
  rw [if_pos (by decide), if_pos (by simp only [List.length_cons]; omega)]
  rfl
theorem ix_l3 {a b c d : D} {r : List D} : ixD (.lst (a :: b :: c :: d :: r)) (.int 3) = some d := by
  show atI (a :: b :: c :: d :: r) 3 = _
  unfold atI ixN
  rw [if_pos (by decide), if_pos (by simp only [List.length_cons]; omega)]
  rfl
theorem ix_l4 {a b c d e : D} {r : List D} : ixD (.lst (a :: b :: c :: d :: e :: r)) (.int 4) = some e := by
  show atI (a :: b :: c :: d :: e :: r) 4 = _
  unfold atI ixN
  rw [if_pos (by decide), if_pos (by simp only [List.length_cons]; omega)]
  rfl
theorem ix_l5 {a b c d e f : D} {r : List D} : ixD (.lst (a :: b :: c :: d :: e :: f :: r)) (.int 5) = some f := by
  show atI (a :: b :: c :: d :: e :: f :: r) 5 = _
  unfold atI ixN
  rw [if_pos (by decide), if_pos (by simp only [List.length_cons]; omega)]
  rfl
theorem ix_l6 {a b c d e f g : D} {r : List D} : ixD (.lst (a :: b :: c :: d :: e :: f :: g :: r)) (.int 6) = some g := by
  show atI (a :: b :: c :: d :: e :: f :: g :: r) 6 = _
  unfold atI ixN
  rw [if_pos (by decide), if_pos (by simp only [List.length_cons]; omega)]
  rfl
theorem ix_l7 {a b c d e f g h : D} {r : List D} : ixD (.lst (a :: b :: c :: d :: e :: f :: g :: h :: r)) (.int 7) = some h := by
  show atI (a :: b :: c :: d :: e :: f :: g :: h :: r) 7 = _
  unfold atI ixN
  rw [if_pos (by decide), if_pos (by simp only [List.length_cons]; omega)]
  rfl
theorem len_t {xs : List D} : lenD [.tup xs] = some (.int xs.length) := rfl
theorem len_l {xs : List D} : lenD [.lst xs] = some (.int xs.length) := rfl
theorem len_a {xs : List Int} : lenD [.arr xs] = some (.int xs.length) := rfl
theorem abs_i {i : Int} : absD [.int i] = some (.int (if i < 0 then -i else i)) := rfl
theorem max_ii {i j : Int} : maxD [.int i, .int j] = some (.int (if j > i then j else i)) := rfl
theorem min_ii {i j : Int} : minD [.int i, .int j] = some (.int (if j < i then j else i)) := rfl
theorem int_i {i : Int} : intD [.int i] = some (.int i) := rfl
theorem int_b {b : Bool} : intD [.bl b] = some (.int (if b then 1 else 0)) := rfl
theorem int_t : intD [.bl true] = some (.int 1) := rfl
theorem int_f : intD [.bl false] = some (.int 0) := rfl
theorem len_s {x : Str} (h : x.length ≤ 1000000) : lenD [.str x] = some (.int x.length) := by
  show (if x.length ≤ sizeLine then some (D.int x.length) else none) = _
  rw [if_pos (by rw [sizeLine_eq]; omega)]
theorem kit_tt : kitB "tuple" "tuple" = some true := by decide +kernel
theorem isi_s {i n b} (h : kitB "str" n = some b) : isiD [.str i, .ty n] = some (.bl b) := by simp [isiD, tyD, h]
theorem isi_t {i n b} (h : kitB "tuple" n = some b) : isiD [.tup i, .ty n] = some (.bl b) := by simp [isiD, tyD, h]
end
end DN
namespace DN
open PySem PySem.Spec PyProof.Rows L2
instance : Decidable (CPow i j) := by unfold CPow; infer_instance
end DN
namespace DN
open PySem PySem.Spec PyProof.Rows L2
open LamX (Tabs ExtN)

/-! ### methods of texts -/
def rDm (K : PySem.W.Frag) (T : List (Addr × Str)) (G : D → List D → Option D) : V → List V → Hp → VK → Prop := fun x xs H Q =>
  ∃ F d ds z, Fz F H ∧ Rp K F x d ∧ RpAll K F xs ds ∧ G d ds = some z ∧ ∀ v F' H', Nx T F H F' H' → Rp K F' v z → Q v H'
def met (G : D → List D → Option D) (f : Rho → Res D) (g : Rho → Res (List D)) : Rho → Res D := fun ρ => (f ρ).bind fun d => match d with
  | .str x => (g ρ).bind fun ds => ofO (G (.str x) ds)
  | _ => .bad
section
variable {X : Cx} {T : List (Addr × Str)} {W : WX}
theorem e_met {name : Str} {id : String} {G : D → List D → Option D} {o e : Expr} {es : List Expr} {f : Rho → Res D} {g : Rho → Res (List D)} {apos pos : Pos} (pa : PlainAttrs "str") (slot : Slot "str" name id) (hty : typeOf (.builtin id) = pure (.type "method_descriptor")) (hm : MtR X id (rDm X.K T G)) (ho : DE X T W o f) (ha : DA X T W (e :: es) g)
    (h1 : attributeBase o name X.env (eval o X.env) = eval o X.env := by rfl) (h5 : ((backTo pos (starEach (e :: es) X.env)).all (fun x => !x.1) && (backToKw pos (keywordEach [] X.env)).all (fun x => x.1.isSome) && decide ((e :: es).length + ([] : List Keyword).length + (if ([] : List Keyword).isEmpty then 0 else 1) < 30)) = true := by rfl) (h2 : (apos.endLine == pos.line) = true := by rfl) (h3 : starEach (e :: es) X.env = (false, eval e X.env) :: starEach es X.env := by rfl) (h4 : (backTo pos (starEach es X.env)).any (·.1) = false := by rfl) : DE X T W (.Call (.Attribute o name apos) (e :: es) [] pos) (met G f g) :=
  (pe_bm pa slot hty hm ho ha h1 h5 h2 h3 h4).to fun σ H Q ⟨ρ, F, a, h⟩ => by
    refine ⟨ρ, F, a, (aft.bind (R := Rp X.K) h).imp fun d _ v F1 H1 _ _ q => ?_⟩
    obtain ⟨b, F2, _, n, rv, q⟩ := q
    cases rv with
    | str x =>
      refine ⟨rfl, ρ, F2, a.nx n, (aft.bind (R := RpAll X.K) q).imp fun ds _ vs F3 H3 _ _ q => ?_⟩
      obtain ⟨ds', F4, _, n2, rs, q⟩ := q
      obtain ⟨z, hz, q⟩ := ofO_ok q
      exact ⟨F4, .str x, ds', z, n2.z, .str x, rs, hz, q⟩
    | _ => exact q.elim
def splitD : D → List D → Option D
  | .str a, [.str b] => if (b.length == 0) = false ∧ a.length + 2 ≤ sizeLine then some (.lst ((Txt.split a b).map .str)) else none
  | _, _ => none
def strsO : List D → Option (List Str)
  | [] => some []
  | .str x :: r => (strsO r).map (x :: ·)
  | _ => none
def joinD : D → List D → Option D
  | .str a, [.lst xs] => (strsO xs).bind fun ys => if (ys.map (·.length)).sum + ys.length * a.length ≤ 16777216 then some (.str (Txt.join a ys)) else none
  | .str a, [.tup xs] => (strsO xs).bind fun ys => if (ys.map (·.length)).sum + ys.length * a.length ≤ 16777216 then some (.str (Txt.join a ys)) else none
  | _, _ => none
theorem m_split : MtR X "str.split" (rDm X.K T splitD) := by
  intro pins s σ H x xs v us Q I rx rs h
  obtain ⟨F, d, ds, z, hz, rd, rds, hG, q⟩ := h
  unfold splitD at hG
  split at hG
  · cases rd
    obtain ⟨v1, rfl, r1⟩ := all1 rds
    cases r1
    split at hG
    · rename_i hc
      cases hG
      exact mt_split pins s σ H _ _ v us Q I rx rs ⟨_, _, rfl, rfl, hc.1, hc.2, fun p hp => donep hz hp ntL q (rp_lst hz hp (RpAll.strs _))⟩
    · cases hG
  · cases hG
theorem strs_rp {K : PySem.W.Frag} {F : Hp} : ∀ {ds : List D} {xs : List V} {ys : List Str}, RpAll K F xs ds → strsO ds = some ys → xs = ys.map V.str
  | [], _, ys, .nil, h => by cases h; rfl
  | d :: ds, _, ys, .cons r t, h => by
    cases d with
    | str x =>
      have h : (strsO ds).map (x :: ·) = some ys := h
      cases e : strsO ds with
      | none => rw [e] at h; cases h
      | some ys' =>
        rw [e] at h
        cases h
        cases r
        rw [strs_rp t e] <;> rfl
    | _ => cases h
theorem m_join : MtR X "str.join" (rDm X.K T joinD) := by
  intro pins s σ H x xs v us Q I rx rs h
  obtain ⟨F, d, ds, z, hz, rd, rds, hG, q⟩ := h
  unfold joinD at hG
  split at hG
  · rename_i a es
    cases rd
    obtain ⟨v1, rfl, r1⟩ := all1 rds
    cases e : strsO es with
    | none => rw [e] at hG; cases hG
    | some ys =>
      rw [e] at hG
      have hG : (if (ys.map (·.length)).sum + ys.length * a.length ≤ 16777216 then some (D.str (Txt.join a ys)) else none) = some z := hG
      split at hG
      · rename_i hc
        cases hG
        cases r1 with
        | lst h1 r1 =>
          have ex := strs_rp r1 e
          subst ex
          exact mt_join pins s σ H _ _ v us Q I rx rs ⟨a, _, ys, rfl, rfl, .inl (SqL.of (hz.sub _ _ h1)), hc, done0 hz q (.str _)⟩
      · cases hG
  · rename_i a es
    cases rd
    obtain ⟨v1, rfl, r1⟩ := all1 rds
    cases e : strsO es with
    | none => rw [e] at hG; cases hG
    | some ys =>
      rw [e] at hG
      have hG : (if (ys.map (·.length)).sum + ys.length * a.length ≤ 16777216 then some (D.str (Txt.join a ys)) else none) = some z := hG
      split at hG
      · rename_i hc
        cases hG
        cases r1 with
        | tup h1 r1 =>
          have ex := strs_rp r1 e
          subst ex
          exact mt_join pins s σ H _ _ v us Q I rx rs ⟨a, _, ys, rfl, rfl, .inr (hz.sub.st h1), hc, done0 hz q (.str _)⟩
      · cases hG
  · cases hG
end
/-! evaluating -/
def metR (G : D → List D → Option D) (r : Res D) (l : Res (List D)) : Res D := r.bind fun d => match d with
  | .str x => l.bind fun ds => ofO (G (.str x) ds)
  | _ => .bad
theorem met_def {ρ : Rho} {G f g} : met G f g ρ = metR G (f ρ) (g ρ) := rfl
theorem metR_ok {G x ds} : metR G (.ok (.str x)) (.ok ds) = ofO (G (.str x) ds) := rfl
end DN
namespace DN
open PySem PySem.Spec PyProof.Rows L2
open LamX (Tabs ExtN CodeO GivesTo tLam LamS TabB lamCx lamEnv)

/-! ### list.count, flat items -/
section
variable {X : Cx}
def rCountF (K : PySem.W.Frag) : V → List V → Hp → VK → Prop := fun x xs H Q => ∃ (a : Addr) (ys : List V) (y : V), x = V.ref a ∧ xs = [y] ∧ SqL K H a ys ∧ flatV y = true ∧ ys.all flatV = true ∧ Q (.int ((ys.countP fun z => eqV z y : Nat) : Int)) H
theorem countU {y : V} : ∀ {ys : List V} {us : List Value}, Vals ys us → ys.all flatV = true → us.countP (eqU y) = ys.countP fun z => eqV z y
  | _, _, .nil, _ => rfl
  | z :: ys, u :: us, .cons r t, f => by
    rw [List.all_cons, Bool.and_eq_true] at f
    rw [List.countP_cons, List.countP_cons, countU t f.2, eqU_of r f.1]
theorem mt_countF : MtR X "list.count" (rCountF X.K) := by
  intro pins s σ H x xs v us Q I rx rxs h
  obtain ⟨a, ys, y, rfl, rfl, hs, fy, fys, q⟩ := h
  cases rx
  obtain ⟨u, rfl, ru⟩ := rxs.one
  obtain ⟨its, rv, ⟨⟨cls, dd, data, sl⟩, n, ho, hc, hdn, hd⟩, hlen⟩ := I.list hs
  simp only at hc hd
  subst hc hd
  refine call_meets PySem.F.slot_list_count ⟨_, ho, rfl⟩ PySem.F.entry_list_count (PySem.F.args_list_count_2 _ _)
    (SeqAt.list_countAt a its.toArray n dd sl u (eqU y)) ⟨ho, fun u' hu' => mem_eqAt ru fy rv fys u' (by simpa using hu'), ?_⟩
  have ec : its.toArray.toList.countP (eqU y) = ys.countP fun z => eqV z y := countU rv fys
  rw [ec]
  exact ⟨.int _, H, I.kept fun _ _ z => z, ⟨_, rfl⟩, q⟩
end

/-! ### told: what an own error is told as -/
def kindIx (n : Str) : Option Int :=
  if n = "TooGreat" then some 0 else if n = "NoText" then some 1 else if n = "NoDeed" then some 2 else if n = "NoKey" then some 3 else if n = "NoRoom" then some 4 else none
def toldR : Res D → Res D
  | .ok d => .ok (.tup [.str "told", d])
  | .ex n => (match kindIx n with
    | some k => .ok (.tup [.str "refused", .int k])
    | none => .bad)
  | .bad => .bad
def toldD (f : Rho → Res D) : Rho → Res D := fun ρ => toldR (f ρ)
def five : List Str := ["TooGreat", "NoText", "NoDeed", "NoKey", "NoRoom"]
/-- what is known of the five classes -/
structure ExK (K : PySem.W.Frag) (n : Str) : Prop where
  c : ExcC K (He.ga K n)
  m : PySem.W.exmOne K (.ref (He.ga K n)) (.ref (He.ga K "PileError")) = some true
  v : PySem.W.kitOne K (.ref (He.ga K n)) (.type "ValueError") = some true
  k : ∀ m ∈ five, PySem.W.kitOne K (.ref (He.ga K n)) (.ref (He.ga K m)) = some (decide (n = m))
def exKB (K : PySem.W.Frag) (n : Str) : Bool :=
  He.eqO (PySem.W.findIn K (.ref (He.ga K n)) "__getattribute__") (some (some (.builtin "BaseException.__getattribute__"))) &&
  (He.eqO (PySem.W.findIn K (.ref (He.ga K n)) "__getattr__") (some none) &&
  (decide (PySem.W.subIn K (.ref (He.ga K n)) (.type "BaseException") = some true) &&
  (PySem.W.hasDictIn K (He.ga K n) &&
  (He.eqO (PySem.W.findIn K (.ref (He.ga K n)) "__class__") (some (some (.builtin "object.__class__"))) &&
  (He.eqO (PySem.W.specialIn K (.builtin "object.__class__") "__get__") (some (some (.builtin "getset_descriptor.__get__"))) &&
  (decide (PySem.W.takesIn K (.builtin "object.__class__") = some true) &&
  (decide (PySem.W.mroIn K (He.ga K n) (.type "object") = some true) &&
  (decide (PySem.W.exmOne K (.ref (He.ga K n)) (.ref (He.ga K "PileError")) = some true) &&
  (decide (PySem.W.kitOne K (.ref (He.ga K n)) (.type "ValueError") = some true) &&
  five.all fun m => decide (PySem.W.kitOne K (.ref (He.ga K n)) (.ref (He.ga K m)) = some (decide (n = m))))))))))))
def toldB (K : PySem.W.Frag) : Bool := five.all fun n => exKB K n
theorem exKB_ok {K : PySem.W.Frag} {n : Str} (h : exKB K n = true) : ExK K n := by
  unfold exKB at h
  simp only [Bool.and_eq_true] at h
  obtain ⟨h1, h2, h3, h4, h5, h6, h7, h8, h9, h10, h11⟩ := h
  exact ⟨⟨He.eqO_ok h1, He.eqO_ok h2, of_decide_eq_true h3, h4, He.eqO_ok h5, He.eqO_ok h6, of_decide_eq_true h7, of_decide_eq_true h8⟩, of_decide_eq_true h9, of_decide_eq_true h10, fun m hm => of_decide_eq_true (List.all_eq_true.mp h11 m hm)⟩
theorem toldB_ok {K : PySem.W.Frag} (h : toldB K = true) : ∀ n ∈ five, ExK K n := fun n hn => exKB_ok (List.all_eq_true.mp h n hn)
theorem kindIx_mem {n : Str} {k : Int} (h : kindIx n = some k) : n ∈ five := by
  unfold kindIx at h
  unfold five
  split at h
  · rename_i e; subst e; simp
  · split at h
    · rename_i e; subst e; simp
    · split at h
      · rename_i e; subst e; simp
      · split at h
        · rename_i e; subst e; simp
        · split at h
          · rename_i e; subst e; simp
          · cases h
/-- what told's module must have -/
structure ToldC (K : PySem.W.Frag) (mg : Str → Option Value) : Prop where
  ex : ∀ n ∈ five, ExK K n
  g : ∀ n ∈ five, mg n = some (.ref (He.ga K n))
  p : mg "PileError" = some (.ref (He.ga K "PileError"))
  i : mg "isinstance" = none
  v : mg "ValueError" = none
/-- told's names -/
structure ToldS (sg : Scope) : Prop where
  l : ∀ n ∈ (["deed", "found", "e", "kinds"] : List Str), sg.names.lookup n = some .local
  g : ∀ n ∈ five, sg.names.lookup n = some .globalImplicit
  gp : sg.names.lookup ("PileError" : Str) = some .globalImplicit
  gi : sg.names.lookup ("isinstance" : Str) = some .globalImplicit
  gv : sg.names.lookup ("ValueError" : Str) = some .globalImplicit
theorem bt_ValueError : bootBuiltins "ValueError" = some (.type "ValueError") := by decide +kernel
def TTd (K : PySem.W.Frag) (T : List (Addr × Str)) : (XK → Hp → VK → Prop) → Hp → VK → Prop := fun tl H Q =>
  ∃ F r, Fz F H ∧ (∀ E H' F' Q', Nx T F H F' H' → aft (Rp K) K T (WofE E) [] F' H' Q' r → tl E H' Q') ∧ aft (Rp K) K T (fun _ _ _ _ => False) [] F H Q (toldR r)
theorem takes_len {X : Cx} {W : WX} (t : Takes X W) : Takes X (fun c d σ H => σ.length = X.N.length → W c d σ H) := fun u s' ⟨a, B, sI, pins, σ, H, cls, d, e, I, nb, up, sky, na, os, ag, w⟩ =>
  t u s' ⟨a, B, sI, pins, σ, H, cls, d, e, I, nb, up, sky, na, os, ag, w I.len⟩

section
variable {X : Cx} {T : List (Addr × Str)}
/-- the suite's reading, of an error of the class at D -/
def isR (K : PySem.W.Frag) (D a : Addr) (n : Str) : TE := tCB (rIsE K D a) (tCons (tVar 2) (tCons (tC (.ref (He.ga K n))) tNil))
def isV (K : PySem.W.Frag) (D a : Addr) : TE := tCB (rIsE K D a) (tCons (tVar 2) (tCons (tC (.ty "ValueError")) tNil))
def RS (K : PySem.W.Frag) (a D : Addr) : TS :=
  tSeq (tAsg (tLst (tCons (isR K D a "TooGreat") (tCons (isR K D a "NoText") (tCons (isR K D a "NoDeed") (tCons (isR K D a "NoKey") tNil))))) (gName 3))
  (tSeq (tDrop (tBM K "list" rAppend (tVar 3) (tCons (isR K D a "NoRoom") tNil)))
  (tSeq (tAsg (tTup (tCons (tC (.str "refused")) (tCons (tUn (rU fun i => .int (-i)) (tC (.int 1))) tNil))) (gName 1))
  (tIfS (tAnd (tB (isV K D a)) (tB (tEqI (tBM K "list" (rCountF K) (tVar 3) (tCons (tC (.bl true)) tNil)) (tC (.int 1))))) (tAsg (tTup (tCons (tC (.str "refused")) (tCons (tBM K "list" (rIndex K) (tVar 3) (tCons (tC (.bl true)) tNil)) tNil))) (gName 1)) tNext)))
theorem isR_run {K : PySem.W.Frag} {n m : Str} {a : Addr} {σ : L2.St} {H : Hp} {Q : VK} (E : ExK K n) (hm : m ∈ five) (h2 : σ[2]? = some (some (.ref a))) (hq : Q (.bl (decide (n = m))) H) : isR K (He.ga K n) a m σ H Q :=
  ⟨.ref a, h2, .ref (He.ga K m), .ref (He.ga K m), _, rfl, fun u r => r, E.k m hm, hq⟩
theorem isV_run {K : PySem.W.Frag} {n : Str} {a : Addr} {σ : L2.St} {H : Hp} {Q : VK} (E : ExK K n) (h2 : σ[2]? = some (some (.ref a))) (hq : Q (.bl true) H) : isV K (He.ga K n) a σ H Q :=
  ⟨.ref a, h2, .ty "ValueError", .type "ValueError", _, rfl, fun u r => r, E.v, hq⟩
theorem suite_run {K : PySem.W.Frag} {n : Str} {a : Addr} {σ : L2.St} {F H : Hp} {D : Ends} {b0 b1 b2 b3 b4 : Bool} {j : Nat} (E : ExK K n) (z : Fz F H) (hl : σ.length = 4) (h2 : σ[2]? = some (some (.ref a)))
    (e0 : decide (n = "TooGreat") = b0) (e1 : decide (n = "NoText") = b1) (e2 : decide (n = "NoDeed") = b2) (e3 : decide (n = "NoKey") = b3) (e4 : decide (n = "NoRoom") = b4)
    (hc : ([V.bl b0, .bl b1, .bl b2, .bl b3, .bl b4].countP fun z => eqV z (.bl true)) = 1) (hj : [V.bl b0, .bl b1, .bl b2, .bl b3, .bl b4][j]? = some (.bl true)) (hno : ∀ (m : Nat) (z' : V), m < j → [V.bl b0, .bl b1, .bl b2, .bl b3, .bl b4][m]? = some z' → eqV z' (.bl true) = false)
    (hk : ∀ σ' p F' H', Nx T F H F' H' → F' p = some (.tup [.str "refused", .int (j : Nat)]) → σ'.length = 4 → σ'[1]? = some (some (.ref p)) → D.nx σ' H') : RS K a (He.ga K n) D σ H := by
  have sl := sizeLine_eq
  refine isR_run E (by unfold five; simp) h2 (isR_run E (by unfold five; simp) h2 (isR_run E (by unfold five; simp) h2 (isR_run E (by unfold five; simp) h2 ⟨by simp; omega, fun p1 hp1 => ?_⟩)))
  rw [e0, e1, e2, e3]
  have g3 : (σ.set 3 (some (V.ref p1)))[3]? = some (some (.ref p1)) := by rw [List.getElem?_set]; simp [hl]
  have g2 : (σ.set 3 (some (V.ref p1)))[2]? = some (some (.ref a)) := by rw [List.getElem?_set]; simpa using h2
  refine ⟨.ref p1, g3, .inl ⟨rfl, _, .inl (.inl upd_same)⟩, isR_run E (by unfold five; simp) g2 ⟨p1, _, _, rfl, rfl, upd_same, by simp; omega, ?_⟩⟩
  rw [e4, upd_upd]
  have n1 : Nx T F H F (upd H p1 (.lst [V.bl b0, .bl b1, .bl b2, .bl b3, .bl b4])) := Nx.lay z hp1
  refine ⟨1, rfl, by simp; omega, fun p2 hp2 => ?_⟩
  have np : p1 ≠ p2 := fun e => by rw [← e, upd_same] at hp2; cases hp2
  have n2 := n1.trans (Nx.lay (T := T) (o := .tup [V.str "refused", V.int (-1)]) n1.z hp2)
  have k1 : (upd (upd H p1 (.lst [V.bl b0, .bl b1, .bl b2, .bl b3, .bl b4])) p2 (.tup [V.str "refused", V.int (-1)])) p1 = some (.lst [V.bl b0, .bl b1, .bl b2, .bl b3, .bl b4]) := by rw [upd_ne np, upd_same]
  have f3 : ((σ.set 3 (some (V.ref p1))).set 1 (some (V.ref p2)))[3]? = some (some (.ref p1)) := by rw [List.getElem?_set]; simpa using g3
  have f2 : ((σ.set 3 (some (V.ref p1))).set 1 (some (V.ref p2)))[2]? = some (some (.ref a)) := by rw [List.getElem?_set]; simpa using g2
  refine isV_run E f2 ⟨true, rfl, ?_⟩
  refine ⟨.ref p1, f3, .inl ⟨rfl, _, .inl (.inl k1)⟩, p1, _, .bl true, rfl, rfl, .inl (.inl k1), rfl, rfl, ?_⟩
  rw [hc]
  refine ⟨_, _, rfl, rfl, true, rfl, ?_⟩
  refine ⟨.ref p1, f3, .inl ⟨rfl, _, .inl (.inl k1)⟩, p1, _, .bl true, j, .bl true, rfl, rfl, .inl (.inl k1), rfl, rfl, hj, rfl, hno, ⟨by simp; omega, fun p3 hp3 => ?_⟩⟩
  have n3 := n2.trans (Nx.push (T := T) (o := .tup [V.str "refused", V.int (j : Nat)]) n2.z hp3 fun ps z => by cases z)
  refine hk _ p3 _ _ n3 upd_same (by simp [hl]) ?_
  rw [List.getElem?_set]
  simp [hl]
theorem told_gives {sg : Scope} {x q : Str} {g : Addr} {cdg : Value} {q1 q2 q3 q4 q5 q6 q7 q8 q9 q10 q11 q12 q13 q14 q15 q16 q17 q18 q19 q20 q21 q22 q23 q24 q25 q26 q27 q28 q29 q30 q31 q32 q33 q34 q35 q36 q37 q38 q39 q40 q41 q42 q43 q44 q45 q46 q47 q48 q49 q50 q51 q52 q53 q54 q55 q56 q57 q58 q59 q60 q61 q62 q63 q64 : Pos} (S : ToldS sg) (C : ToldC X.K X.mg) (h1 : (q26.endLine == q27.line) = true) (h2 : (q40.endLine == q41.line) = true) (h3 : (q42.endLine == q43.line) = true) :
    GivesTo X ["deed", "found", "e", "kinds"] x sg g cdg [.Try [(.Assign [(.Name "found" q1)] (.Tuple [(.Constant (.str "told") 0 q2), .Call (.Name "deed" q3) [] [] q4] 0 q5) q6)] [.ExceptHandler (some (.Name "PileError" q60)) (some "e") [(.Assign [(.Name "kinds" q7)] (.List [(.Call (.Name "isinstance" q8) [.Name "e" q9, .Name "TooGreat" q10] [] q11), (.Call (.Name "isinstance" q12) [.Name "e" q13, .Name "NoText" q14] [] q15), (.Call (.Name "isinstance" q16) [.Name "e" q17, .Name "NoDeed" q18] [] q19), (.Call (.Name "isinstance" q20) [.Name "e" q21, .Name "NoKey" q22] [] q23)] q24) q25), (.Expr (.Call (.Attribute (.Name "kinds" q28) "append" q26) [(.Call (.Name "isinstance" q29) [.Name "e" q30, .Name "NoRoom" q31] [] q32)] [] q27) q33), (.Assign [(.Name "found" q34)] (.Tuple [(.Constant (.str "refused") 0 q35), .UnaryOp .USub (.Constant (.int 1) 0 q36) q37] 0 q38) q39), (.If (.BoolOp .And [(.Call (.Name "isinstance" q44) [.Name "e" q45, .Name "ValueError" q46] [] q47), .Compare (.Call (.Attribute (.Name "kinds" q48) "count" q40) [.Constant (.bool true) 0 q49] [] q41) [.Eq] [.Constant (.int 1) 0 q50] q51] q52) [.Assign [(.Name "found" q53)] (.Tuple [(.Constant (.str "refused") 0 q54), .Call (.Attribute (.Name "kinds" q55) "index" q42) [.Constant (.bool true) 0 q56] [] q43] 0 q57) q58] [] q59)] q61] [] [] q62, .Return (some (.Name "found" q63)) q64] "deed" q (TTd X.K T) := by
  intro f c' s H Q tl act hc h
  obtain ⟨F, r, hz, htl, hq⟩ := h
  have vis : ∀ n ∈ (["deed", "found", "e", "kinds"] : List Str), Vis sg n := fun n hn => .inl (S.l n hn)
  have isE : ∀ (n : Str) (a : Addr) (oe : Obj) (D : Addr) (pn : List (Addr × Obj)) (p1 p2 p3 p4 : Pos), n ∈ five → ExcC X.K D → Zc (.ref D) none oe → (∃ vs, oe.data = .fields vs) → (n == ("__debug__" : Str)) = false →
      PE ((cxOf C8.CX0 X.prog X.w X.K X.mg X.base ["deed", "found", "e", "kinds"] x sg g cdg X.A X.stack s H C8.E0).nox.suite a ((a, oe) :: pn)) (.Call (.Name "isinstance" p1) [.Name "e" p2, .Name n p3] [] p4) (tCB (rIsE X.K D a) (tCons (tVar 2) (tCons (tC (.ref (He.ga X.K n))) tNil))) := fun n a oe D pn p1 p2 p3 p4 hn CC zc fl hdb =>
    pe_callB (call_isE CC zc fl) S.gi C.i bt_isinstance (pa_cons (pe_var (i := 2) rfl (vis "e" (by simp))) (pa_cons (pe_glob (v := .ref (He.ga X.K n)) (S.g n hn) (C.g n hn) rfl hdb) pa_nil))
  have isVE : ∀ (a : Addr) (oe : Obj) (D : Addr) (pn : List (Addr × Obj)) (p1 p2 p3 p4 : Pos), ExcC X.K D → Zc (.ref D) none oe → (∃ vs, oe.data = .fields vs) →
      PE ((cxOf C8.CX0 X.prog X.w X.K X.mg X.base ["deed", "found", "e", "kinds"] x sg g cdg X.A X.stack s H C8.E0).nox.suite a ((a, oe) :: pn)) (.Call (.Name "isinstance" p1) [.Name "e" p2, .Name "ValueError" p3] [] p4) (isV X.K D a) := fun a oe D pn p1 p2 p3 p4 CC zc fl =>
    pe_callB (call_isE CC zc fl) S.gi C.i bt_isinstance (pa_cons (pe_var (i := 2) rfl (vis "e" (by simp))) (pa_cons (pe_bltn (v := .ty "ValueError") S.gv C.v bt_ValueError rfl) pa_nil))
  have nd : (["deed", "found", "e", "kinds"] : List Str).Nodup := by decide +kernel
  have lf : sg.names.lookup ("found" : Str) = some .local := S.l "found" (by simp)
  have lk : sg.names.lookup ("kinds" : Str) = some .local := S.l "kinds" (by simp)
  have hs : ∀ (a : Addr) (oe : Obj) (D : Addr) (pn : List (Addr × Obj)), ExcC X.K D → Zc (.ref D) none oe → (∃ vs, oe.data = .fields vs) →
      PSs ((cxOf C8.CX0 X.prog X.w X.K X.mg X.base ["deed", "found", "e", "kinds"] x sg g cdg X.A X.stack s H C8.E0).nox.suite a ((a, oe) :: pn)) [(.Assign [(.Name "kinds" q7)] (.List [(.Call (.Name "isinstance" q8) [.Name "e" q9, .Name "TooGreat" q10] [] q11), (.Call (.Name "isinstance" q12) [.Name "e" q13, .Name "NoText" q14] [] q15), (.Call (.Name "isinstance" q16) [.Name "e" q17, .Name "NoDeed" q18] [] q19), (.Call (.Name "isinstance" q20) [.Name "e" q21, .Name "NoKey" q22] [] q23)] q24) q25), (.Expr (.Call (.Attribute (.Name "kinds" q28) "append" q26) [(.Call (.Name "isinstance" q29) [.Name "e" q30, .Name "NoRoom" q31] [] q32)] [] q27) q33), (.Assign [(.Name "found" q34)] (.Tuple [(.Constant (.str "refused") 0 q35), .UnaryOp .USub (.Constant (.int 1) 0 q36) q37] 0 q38) q39), (.If (.BoolOp .And [(.Call (.Name "isinstance" q44) [.Name "e" q45, .Name "ValueError" q46] [] q47), .Compare (.Call (.Attribute (.Name "kinds" q48) "count" q40) [.Constant (.bool true) 0 q49] [] q41) [.Eq] [.Constant (.int 1) 0 q50] q51] q52) [.Assign [(.Name "found" q53)] (.Tuple [(.Constant (.str "refused") 0 q54), .Call (.Attribute (.Name "kinds" q55) "index" q42) [.Constant (.bool true) 0 q56] [] q43] 0 q57) q58] [] q59)] (RS X.K a D) := fun a oe D pn CC zc fl =>
    pss_cons (ps_asg (pe_lst (pa_cons (isE "TooGreat" a oe D pn _ _ _ _ (by unfold five; simp) CC zc fl (by decide)) (pa_cons (isE "NoText" a oe D pn _ _ _ _ (by unfold five; simp) CC zc fl (by decide)) (pa_cons (isE "NoDeed" a oe D pn _ _ _ _ (by unfold five; simp) CC zc fl (by decide)) (pa_cons (isE "NoKey" a oe D pn _ _ _ _ (by unfold five; simp) CC zc fl (by decide)) pa_nil))))) (pg_name (i := 3) nd rfl (.inl lk) (.inr lk)))
    (pss_cons (ps_expr (pe_bm PySem.F.plainAttrs_list PySem.F.slot_list_append PySem.F.type_list_append mt_append (pe_var (i := 3) rfl (.inl lk)) (pa_cons (isE "NoRoom" a oe D pn _ _ _ _ (by unfold five; simp) CC zc fl (by decide)) pa_nil) rfl rfl h1))
    (pss_cons (ps_asg (pe_tup (pa_cons pe_str (pa_cons (pe_un un_neg pe_int) pa_nil))) (pg_name (i := 1) nd rfl (.inl lf) (.inr lf)))
    (pss_one (ps_if (PW.pt (pw_and (pt_val (isVE a oe D pn _ _ _ _ CC zc fl)) (pw_and1 (pt_cmp (pc_eqI (pe_bm PySem.F.plainAttrs_list PySem.F.slot_list_count PySem.F.type_list_count mt_countF (pe_var (i := 3) rfl (.inl lk)) (pa_cons pe_bl pa_nil) rfl rfl h2) pe_int)))))
      (pss_one (ps_asg (pe_tup (pa_cons pe_str (pa_cons (pe_bm PySem.F.plainAttrs_list PySem.F.slot_list_index PySem.F.type_list_index mt_index (pe_var (i := 3) rfl (.inl lk)) (pa_cons pe_bl pa_nil) rfl rfl h3) pa_nil))) (pg_name (i := 1) nd rfl (.inl lf) (.inr lf)))) pss_nil))))
  refine ⟨_, pss_cons (ps_try_as (X := (cxOf C8.CX0 X.prog X.w X.K X.mg X.base ["deed", "found", "e", "kinds"] x sg g cdg X.A X.stack s H C8.E0).nox) (c := .ref (He.ga X.K "PileError")) (i := 2)
      (tb := fun W D σ H => ∃ Ech : XK, (∀ cls d σ' H', Ech cls d H' → σ'.length = 4 → W cls d σ' H') ∧ σ[0]? = some (some (.ref f)) ∧ H c' = some (CodeO c' q) ∧ tl Ech H fun v H1 => ([V.str "told", v] : List V).length ≤ sizeLine ∧ ∀ p, H1 p = none → D.nx (σ.set 1 (some (.ref p))) (upd H1 p (.tup [.str "told", v])))
      (ts := fun a cls d D σ H => ∃ C, cls = .ref C ∧ d = none ∧ ExcC X.K C ∧ RS X.K a C D σ H)
      (Wout := fun _ _ _ _ => False) rfl rfl nd rfl (S.l "e" (by simp)) ⟨S.gp, by decide, .inl C.p⟩ LamX.takes0 (fun W pn xe tk _ => ?_) (fun a oe cls d pn zc fl => ?_)) (pss_one (ps_ret (pe_var (i := 1) rfl (.inl lf)))), ?_⟩
  · refine ⟨fun pins s' σ H' D I h' => ?_⟩
    obtain ⟨Ech, hW, e1, e2, e3⟩ := h'
    have hp := act (fun c d σ H => σ.length = 4 → W c d σ H) pn xe Ech q3 q4 (takes_len tk) hW
    exact (pss_one (ps_asg (pe_tup (pa_cons pe_str (pa_cons hp pa_nil))) (pg_name (i := 1) nd rfl (.inl lf) (.inr lf)))).run pins s' σ H' D I ⟨e1, e2, e3⟩
  · refine ⟨fun pins s' σ H' D I h' => ?_⟩
    obtain ⟨CC, rfl, rfl, ce, h'⟩ := h'
    exact (hs a oe CC pn ce zc fl).run pins s' σ H' D I h'
  · have sl := sizeLine_eq
    refine ⟨fun cls d H' => ∃ n k F', cls = .ref (He.ga X.K n) ∧ d = none ∧ kindIx n = some k ∧ Nx T F H F' H' ∧ ∀ v F'' H'', Nx T F H F'' H'' → Rp X.K F'' v (.tup [.str "refused", .int k]) → Q v H'', ?_, rfl, hc, ?_⟩
    · intro cls d σ' H' ⟨n, k, F', ec, ed, ek, nx, hQ⟩ hl
      subst ec ed
      have ek' := C.ex n (kindIx_mem ek)
      refine ⟨true, ek'.m, fun _ a ha => ⟨_, rfl, rfl, ek'.c, ?_⟩, fun z => by cases z⟩
      have fin : ∀ (j : Nat) (σ2 : L2.St) (p : Addr) (F2 H2 : Hp), k = (j : Int) → Nx T F' H' F2 H2 → F2 p = some (.tup [.str "refused", .int (j : Nat)]) → σ2.length = 4 → σ2[1]? = some (some (.ref p)) → tRet (tVar 1) { nx := fun _ H' => Q .non H', rt := Q } (σ2.set 2 none) H2 := fun j σ2 p F2 H2 e n2 fp l2 h1 => by
        refine ⟨.ref p, ?_, hQ _ F2 H2 (nx.trans n2) ?_⟩
        · rw [List.getElem?_set]; simpa using h1
        · rw [e]
          exact .tup (.inl (.inl fp)) (.cons (.str _) (.cons (.int _) .nil))
      have l2 : (σ'.set 2 (some (V.ref a))).length = 4 := by rw [List.length_set]; exact hl
      have g2 : (σ'.set 2 (some (V.ref a)))[2]? = some (some (.ref a)) := by rw [List.getElem?_set]; simp [hl]
      have hno : ∀ (l : List V) (j : Nat), (l.take j).all (fun z => !eqV z (.bl true)) = true → ∀ (m : Nat) (z' : V), m < j → l[m]? = some z' → eqV z' (.bl true) = false := fun l j ha m z' hm he => by
        have := List.all_eq_true.mp ha z' (List.mem_of_getElem? (i := m) (by rw [List.getElem?_take, if_pos hm]; exact he))
        simpa using this
      unfold kindIx at ek
      split at ek
      · rename_i e; subst e; cases ek
        exact suite_run (T := T) (j := 0) ek' nx.z l2 g2 (b0 := true) (b1 := false) (b2 := false) (b3 := false) (b4 := false) (by decide +kernel) (by decide +kernel) (by decide +kernel) (by decide +kernel) (by decide +kernel) rfl rfl (hno _ _ rfl) fun σ2 p F2 H2 => fin 0 σ2 p F2 H2 rfl
      · split at ek
        · rename_i e; subst e; cases ek
          exact suite_run (T := T) (j := 1) ek' nx.z l2 g2 (b0 := false) (b1 := true) (b2 := false) (b3 := false) (b4 := false) (by decide +kernel) (by decide +kernel) (by decide +kernel) (by decide +kernel) (by decide +kernel) rfl rfl (hno _ _ rfl) fun σ2 p F2 H2 => fin 1 σ2 p F2 H2 rfl
        · split at ek
          · rename_i e; subst e; cases ek
            exact suite_run (T := T) (j := 2) ek' nx.z l2 g2 (b0 := false) (b1 := false) (b2 := true) (b3 := false) (b4 := false) (by decide +kernel) (by decide +kernel) (by decide +kernel) (by decide +kernel) (by decide +kernel) rfl rfl (hno _ _ rfl) fun σ2 p F2 H2 => fin 2 σ2 p F2 H2 rfl
          · split at ek
            · rename_i e; subst e; cases ek
              exact suite_run (T := T) (j := 3) ek' nx.z l2 g2 (b0 := false) (b1 := false) (b2 := false) (b3 := true) (b4 := false) (by decide +kernel) (by decide +kernel) (by decide +kernel) (by decide +kernel) (by decide +kernel) rfl rfl (hno _ _ rfl) fun σ2 p F2 H2 => fin 3 σ2 p F2 H2 rfl
            · split at ek
              · rename_i e; subst e; cases ek
                exact suite_run (T := T) (j := 4) ek' nx.z l2 g2 (b0 := false) (b1 := false) (b2 := false) (b3 := false) (b4 := true) (by decide +kernel) (by decide +kernel) (by decide +kernel) (by decide +kernel) (by decide +kernel) rfl rfl (hno _ _ rfl) fun σ2 p F2 H2 => fin 4 σ2 p F2 H2 rfl
              · cases ek
    · refine htl _ H F _ (Nx.refl hz) ?_
      cases r with
      | ok d =>
        intro v F1 H1 n1 rv
        refine ⟨by simp; omega, fun p hp => ⟨.ref p, rfl, ?_⟩⟩
        have n2 := n1.trans (Nx.push (T := T) (o := .tup [V.str "told", v]) n1.z hp fun ps z => by cases z)
        exact hq (.ref p) _ _ n2 (.tup (.inl (.inl upd_same)) (.cons (.str _) (.cons (rv.mono (Nx.push (T := T) n1.z hp fun ps z => by cases z).f) .nil)))
      | ex n =>
        intro F1 H1 n1
        cases e : kindIx n with
        | none =>
          have hq : aft (Rp X.K) X.K T (fun _ _ _ _ => False) [] F H Q (match kindIx n with
            | some k => .ok (.tup [.str "refused", .int k])
            | none => .bad) := hq
          rw [e] at hq
          exact hq.elim
        | some k =>
          have hq : aft (Rp X.K) X.K T (fun _ _ _ _ => False) [] F H Q (match kindIx n with
            | some k => .ok (.tup [.str "refused", .int k])
            | none => .bad) := hq
          rw [e] at hq
          exact ⟨n, k, F1, rfl, rfl, e, n1, hq⟩
      | bad => exact hq.elim
end
end DN
namespace DN
open PySem PySem.Spec PyProof.Rows L2
open LamX (Tabs ExtN CodeO GivesTo tLam LamS TabB lamCx lamEnv)

/-- a def that makes lambdas: its code object is known -/
theorem fn_okC {P : Program} {w : World} {K : PySem.W.Frag} {mg : Str → Option Value} {base : Heap} {T : List (Addr × Str)} {k : Nat} {x qual : Str} {params : Arguments} {body : List Stmt} {scope : Scope} {kws : List (Str × V)} {fd : FuncData} {N ps : List Str} {n : Nat} {s : Rho → SR}
    (Fd : FunD K x qual params body scope [] kws (He.ga K x) fd) (S : FnScope N ps scope) (hn : ps.length = n)
    (hb : ∀ (A : Around) (outer : List Env) (s0 : Shared) (H0 : Hp) (E : XK) (F0 : Hp), Room k (A.deeper (envOfC qual scope s0.heap.objs.size (He.ga K x) (.ref (He.cT K (x, none)).1))) → DSs (cxOf (L2.CX P w) P w K mg base N qual scope (He.ga K x) (.ref (He.cT K (x, none)).1) A outer s0 H0 E) T (WofE E) F0 H0 body s) :
    FnOk P w K mg base (L2.CX P w) (k + 1) (He.ga K x) fd ps (spD K T n (runB N.length s)) := by
  obtain ⟨oc, od, dV, kV, doc, pm, an, cdv, ct, osl, rfl, lk, hcd, hD, hK⟩ := Fd.ex
  obtain ⟨c, rfl⟩ := He.codeIn_ref hcd
  have ec : (He.cT K (x, none)).1 = c := He.codeOf_eq (p := (x, none)) lk rfl
  rw [ec] at hb
  refine fn_of lk hcd S (fun vs H Q E h => ?_) fun A outer s0 H vs Q E hr h => ?_
  · obtain ⟨F, ds, _, _, r, hl, _⟩ := h
    rw [r.length, hl, hn]
  · obtain ⟨F, ds, z, tb, r, hl, h⟩ := h
    refine ⟨_, hb A outer s0 H E F hr, startR N.length ds, F, ⟨⟨z, tb, Rl.start r⟩, Nx.refl z, fun i d p h1 => ?_⟩, ?_⟩
    · exfalso
      unfold startR at h1
      rw [List.getElem?_append] at h1
      split at h1
      · rw [List.getElem?_map] at h1
        cases e : ds[i]? with
        | none => rw [e] at h1; cases h1
        | some d => rw [e] at h1; cases h1
      · rw [List.getElem?_replicate] at h1
        split at h1 <;> cases h1
    · unfold runB at h
      cases e : s (startR N.length ds) with
      | nx ρ => rw [e] at h; exact fun σ F' H' g _ => h .non F' H' g.nx .non
      | rt d => rw [e] at h; exact fun v F' H' nx rv => h v F' H' nx rv
      | ex m ρ => rw [e] at h; exact fun σ F' H' g _ => h F' H' g.nx
      | bk ρ => rw [e] at h; exact h.elim
      | ct ρ => rw [e] at h; exact h.elim
      | bad => rw [e] at h; exact h.elim
section
variable {X : Cx} {T : List (Addr × Str)} {W : WX}
theorem nx_tabs {F H H1 : Hp} (z : Fz F H) (e : ExtN H H1) (t : Tabs T H1) : Nx T F H F H1 :=
  ⟨Sub.refl F, ⟨fun a o h => e a o (z.sub a o h) fun ps q => z.nt a ps (by rw [h, q]), z.nt⟩, e, fun a o h => .inl h, fun _ => t⟩
theorem e_told {pg : Arguments} {bg : List Stmt} {sg : Scope} {fd : FuncData} {c P : Addr} {k : Nat} {params : Arguments} {body : Expr} {scope : Scope} {f : Rho → Res D} {p lpos pos : Pos} {q : Str}
    (Fd : FunD X.K "_law_told" "_law_told" pg bg sg [] [] (He.ga X.K "_law_told") fd) (hm : X.mg "_law_told" = some (.ref (He.ga X.K "_law_told"))) (hbn : L2.Binds X.K fd ["deed"] []) (Sg : FnScope ["deed", "found", "e", "kinds"] ["deed"] sg)
    (hG : ∀ cdg, GivesTo X ["deed", "found", "e", "kinds"] "_law_told" sg (He.ga X.K "_law_told") cdg bg "deed" (X.env.qual ++ "<lambda>") (TTd X.K T))
    (TB : TabB X.base X.mg c P) (hcode : X.env.code = .ref c) (hq : X.env.qual ++ "<lambda>" = q) (hmT : (P, q) ∈ T) (hu : ∀ p ∈ T, p.1 = P → p.2 = q) (hg : Gl X "_law_told") (hr : Room (k + 2) X.A) (L : LamX.lamSB X.env.scope scope = true)
    (hbody : ∀ (A : Around) (outer : List Env) (s : Shared) (H : Hp) (E : XK) (f' c' : Addr), Room k (A.deeper (lamEnv X scope s.heap.objs.size f' c')) → DE (lamCx X A outer s H E scope f' c') T (WofE E) body f)
    (hdef : defaultsOf params X.env = ([], []) := by rfl)
    (hbind : ∀ (q : Str) (cl : List (Str × Addr)) (pm cv ctv : Value), bindArgs (PySem.W.kla_fn "<lambda>" q params body scope cl pm cv ctv) ⟨[], []⟩ = pure [] := by intros; rfl) :
    DE X T W (.Call (.Name "_law_told" p) [.Lambda params body scope lpos] [] pos) (toldD f) := by
  subst hq
  obtain ⟨oc, od, dV, kV, doc, pm, an, cdv, ct, osl, rfl, lk, hcd, hD, hK⟩ := Fd.ex
  refine (LamX.pe_lamcall (k := k) (t := fun E => tE X.K T (WofE E) f) hg hm Fd.kp lk hcd hbn Sg rfl (Sg.par "deed" (by simp) |>.elim .inl fun z => .inr (.inl z)) (hG cdv) TB hcode hmT hu hr (LamX.lamS_by L) hdef hbind (fun A outer s H E f' c' hr' => hbody A outer s H E f' c' hr')).to fun σ H Q h => ?_
  obtain ⟨ρ, F, a, h⟩ := h
  refine ⟨a.t, fun H1 e1 t1 => ?_⟩
  have n := nx_tabs a.z e1 t1
  have h := aft.mono n h
  refine ⟨F, f ρ, n.z, fun E H' F' Q' n2 h2 => ⟨ρ, F', (a.nx n).nx n2, ?_⟩, ?_⟩
  · cases e : f ρ with
    | ok d => rw [e] at h2; exact h2
    | ex m => rw [e] at h2; exact h2
    | bad => rw [e] at h2; exact h2
  · unfold toldD at h
    cases e : toldR (f ρ) with
    | ok d => rw [e] at h; exact h
    | bad => rw [e] at h; exact h
    | ex m =>
      exfalso
      unfold toldR at e
      split at e
      · cases e
      · split at e <;> cases e
      · cases e
end
theorem lawAtT {l : PySem.W.OpenLaw} {w : World} {K : PySem.W.Frag} {k n : Nat} {x : Str} {mg : Str → Option Value} {fa : Addr} {h : Heap} {fd : FuncData} {den : List D → Res D} {tf : List He.Defn} {T : List (Addr × Str)} (X : K.In h)
    (hd0 : ∀ p ∈ tf, PySem.W.codeHdIn K (He.cT K p).1 (He.cT K p).2 = true) (out : ∀ p ∈ tf, K.lookup (He.cT K p).2 = none) (empty : ∀ p ∈ tf, h.get? (He.cT K p).2 = some { cls := .none, data := .fields #[] })
    (hT : ∀ p ∈ T, ∃ d ∈ tf, p.1 = (He.cT K d).2)
    (hb : ∀ (s : Shared) (u : Value), BindsTo s fd ⟨[u], []⟩ [(x, u)])
    (hd : ∀ ns : List Int, ns.length ≤ n → (∀ z ∈ ns, Builtin.Int.intBits z ≤ 1048576) → den [.arr ns] = .ok (.bl true))
    (hF : ∀ base : Heap, K.In base → base.Ns mainGlobals mg → (∀ d ∈ tf, TabB base mg (He.cT K d).1 (He.cT K d).2) → FnOk l.prog w K mg base (L2.CX l.prog w) k fa fd [x] (spD K T 1 den)) : LamX.LawAtS l w K (L2.CX l.prog w) k n x mg fa h := by
  have key : ∀ p ∈ tf.map (He.cT K), ∃ d ∈ tf, p = He.cT K d := fun p hp => by
    obtain ⟨d, h1, h2⟩ := List.mem_map.mp hp
    exact ⟨d, h1, h2.symm⟩
  refine ⟨fd, tf.map (He.cT K), spD K T 1 den, fun p hp => ?_, fun p hp => ?_, fun p hp => ?_, hb, fun H a ns hl hz ht hS => law_sp (fun p hp => ?_) hS (hd ns hl hz), fun base h1 h2 h3 => hF base h1 h2 fun d hd => h3 _ (List.mem_map.mpr ⟨d, hd, rfl⟩)⟩
  · obtain ⟨d, h1, rfl⟩ := key p hp; exact empty d h1
  · obtain ⟨d, h1, rfl⟩ := key p hp; exact out d h1
  · obtain ⟨d, h1, rfl⟩ := key p hp; exact PySem.W.codeHd_of_K X (hd0 d h1)
  · obtain ⟨d, h1, h2⟩ := hT p hp
    rw [h2]
    exact LamX.TabS.nil (ht _ (List.mem_map.mpr ⟨d, h1, rfl⟩))
theorem told_c {K : PySem.W.Frag} {mg : Str → Option Value} (h : ∀ n ∈ five, ExK K n) (g0 : mg "TooGreat" = some (.ref (He.ga K "TooGreat"))) (g1 : mg "NoText" = some (.ref (He.ga K "NoText"))) (g2 : mg "NoDeed" = some (.ref (He.ga K "NoDeed"))) (g3 : mg "NoKey" = some (.ref (He.ga K "NoKey"))) (g4 : mg "NoRoom" = some (.ref (He.ga K "NoRoom")))
    (p : mg "PileError" = some (.ref (He.ga K "PileError"))) (i : mg "isinstance" = none) (v : mg "ValueError" = none) : ToldC K mg := ⟨h, fun n hn => by
  unfold five at hn
  simp only [List.mem_cons, List.not_mem_nil, or_false] at hn
  rcases hn with rfl | rfl | rfl | rfl | rfl <;> assumption, p, i, v⟩
theorem exc_n {K : PySem.W.Frag} {h : Heap} {mg : Str → Option Value} {x : Str} (X : K.In h) (G : h.Ns mainGlobals mg) (c : (He.Fa.glo x).ok K = true) (e : (He.Fa.exc x).ok K = true) : ExcN K mg x := by
  obtain ⟨h1, h2, h3, h4⟩ := He.exc_ok e
  exact ⟨h1, h2, h3, h4, He.glo_ok X G c⟩
end DN
namespace DN
open PySem PySem.Spec PyProof.Rows L2
open LamX (Tabs ExtN)
section
variable {X : Cx} {T : List (Addr × Str)} {W : WX}
end
end DN
namespace DN
open PySem PySem.Spec PyProof.Rows L2
open LamX (Tabs ExtN)

/-! ### a module's dict of defs, text keys -/
theorem dicW_full {K : PySem.W.Frag} {w : World} {a : Addr} {ks : List Str} (h : He.dicW K a = some (He.keysIn w.params ks)) : ∃ es n, KDict K w a es n ∧ es.toList.map He.keyOf = He.keysIn w.params ks := by
  obtain ⟨es, n, D⟩ := He.dicW_ok h
  refine ⟨es, n, D, ?_⟩
  unfold He.dicW at h
  rw [D.at_] at h
  simp only [D.low] at h
  exact Option.some.inj h
theorem keys_miss {P : Params} {z : Str} : ∀ {l : List DictEntry} {ks : List Str}, l.map He.keyOf = He.keysIn P ks → z ∉ ks → l.find? (·.key.isStr z) = none ∧ l.any (·.refKey) = false
  | [], _, _, _ => ⟨rfl, rfl⟩
  | e :: r, [], h, _ => by cases h
  | e :: r, k :: ks, h, hz => by
    have h1 : He.keyOf e :: r.map He.keyOf = some (k, PyData.keyHash P k) :: He.keysIn P ks := h
    injection h1 with h2 h3
    obtain ⟨i1, i2⟩ := keys_miss h3 (fun q => hz (List.mem_cons_of_mem _ q))
    have hk : ∃ t, e.key = .str k t := by
      unfold He.keyOf at h2
      split at h2
      · rename_i x t q
        obtain ⟨h5, _⟩ := Prod.mk.inj (Option.some.inj h2)
        exact ⟨t, by rw [q, h5]⟩
      · cases h2
    obtain ⟨t, hk⟩ := hk
    have n1 : e.key.isStr z = false := by
      rw [hk]
      show (k == z) = false
      exact beq_eq_false_iff_ne.mpr fun q => hz (by rw [q]; exact List.mem_cons_self)
    have n2 : e.refKey = false := by unfold DictEntry.refKey; rw [hk]
    refine ⟨?_, ?_⟩
    · rw [List.find?_cons, n1]; exact i1
    · rw [List.any_cons, n2, i2]; rfl
/-- the module's dict x: text keys, defs -/
structure DicF (w : World) (K : PySem.W.Frag) (mg : Str → Option Value) (x : Str) (kvs : List (Str × Str)) : Prop where
  kd : ∃ es n, KDict K w (He.ga K x) es n ∧ es.toList.map He.keyOf = He.keysIn w.params (kvs.map Prod.fst)
  vals : ∀ q ∈ kvs, ∃ u, PySem.W.nsIn K (He.ga K x) q.1 = some (some u) ∧ RelV (.ref (He.ga K q.2)) u
  g : mg x = some (.ref (He.ga K x))
def inT (ks : List Str) (f : Rho → Res D) : Rho → Res D := fun ρ => (f ρ).bind fun d => match d with
  | .str z => .ok (.bl (ks.contains z))
  | _ => .bad
theorem DicF.ns {w : World} {K : PySem.W.Frag} {mg : Str → Option Value} {x : Str} {kvs : List (Str × Str)} (D : DicF w K mg x kvs) (z : Str) : ∃ r, PySem.W.nsIn K (He.ga K x) z = some r ∧ r.isSome = (kvs.map Prod.fst).contains z := by
  by_cases h : z ∈ kvs.map Prod.fst
  · obtain ⟨q, hq, rfl⟩ := List.mem_map.mp h
    obtain ⟨u, h1, _⟩ := D.vals q hq
    exact ⟨some u, h1, by rw [List.contains_iff_mem.mpr h]; rfl⟩
  · obtain ⟨es, n, kd, hk⟩ := D.kd
    obtain ⟨h1, h2⟩ := keys_miss hk h
    refine ⟨none, ?_, ?_⟩
    · unfold PySem.W.nsIn
      rw [kd.at_]
      simp only [h1, h2]
      rfl
    · have : (kvs.map Prod.fst).contains z = false := by
        rw [Bool.eq_false_iff]
        exact fun q => h (List.contains_iff_mem.mp q)
      rw [this]; rfl
theorem dic_f {w : World} {K : PySem.W.Frag} {h : Heap} {mg : Str → Option Value} {x : Str} {kvs : List (Str × Str)} (X : K.In h) (G : h.Ns mainGlobals mg) (d : He.dicW K (He.ga K x) = some (He.keysIn w.params (kvs.map Prod.fst))) (v : He.valsB K (He.ga K x) (kvs.map fun q => (q.1, He.Dv.glo q.2)) = true) (g : (He.Fa.glo x).ok K = true) : DicF w K mg x kvs :=
  ⟨dicW_full d, fun q hq => He.valsB_ok v (q := (q.1, He.Dv.glo q.2)) (List.mem_map.mpr ⟨q, hq, rfl⟩), He.glo_ok X G g⟩
theorem tab_eq {fa : List He.Fa} {fn : List He.DefD} {ts : List He.Tab} {w : World} {K : PySem.W.Frag} (c : He.SaysT fa fn ts w K) (i : Nat) {t : He.Tab} (h : ts[i]? = some t) : He.dicW K (t.1 K) = some (He.keysIn w.params t.2) := by
  have e : ts.map (fun t => He.dicW K (t.1 K)) = ts.map fun t => some (He.keysIn w.params t.2) := congrArg (fun z : He.AlT => z.2) c
  have e2 : (ts.map fun t => He.dicW K (t.1 K))[i]? = (ts.map fun t => some (He.keysIn w.params t.2))[i]? := by rw [e]
  rw [List.getElem?_map, List.getElem?_map, h] at e2
  exact Option.some.inj e2
section
variable {X : Cx} {T : List (Addr × Str)} {W : WX} {F0 H0 : Hp}
theorem inT_to {w : World} {K : PySem.W.Frag} {mg : Str → Option Value} {x : Str} {kvs : List (Str × Str)} (Dd : DicF w K mg x kvs) {f : Rho → Res D} {σ : L2.St} {H : Hp} {Q : VK} (h : tE K T W (inT (kvs.map Prod.fst) f) σ H Q) :
    tOp (fun a b H Q => ∃ (z : Str) (r : Option Value), a = .str z ∧ b = .ref (He.ga K x) ∧ PySem.W.nsIn K (He.ga K x) z = some r ∧ Q (.bl r.isSome) H) (tE K T W f) (tC (.ref (He.ga K x))) σ H Q := by
  obtain ⟨ρ, F, a, h⟩ := h
  refine ⟨ρ, F, a, (aft.bind (R := Rp K) h).imp fun d _ v F1 H1 _ _ q => ?_⟩
  obtain ⟨b, F2, _, n, rv, q⟩ := q
  cases rv with
  | str z =>
    obtain ⟨r, h1, h2⟩ := Dd.ns z
    refine ⟨z, r, rfl, rfl, h1, ?_⟩
    rw [h2]
    exact q (.bl _) F2 H1 (Nx.refl n.z) (.bl _)
  | _ => exact q.elim
theorem q_inT {x : Str} {kvs : List (Str × Str)} {ks : List Str} {e : Expr} {f : Rho → Res D} {p pos : Pos} (Dd : DicF X.w X.K X.mg x kvs) (hg : Gl X x) (he : DE X T W e f) (hk : kvs.map Prod.fst = ks := by rfl) (hm : behindInMarks .In (.Name x p) = false := by rfl) (hd : (x == ("__debug__" : Str)) = false := by decide) :
    DQ X T W (.Compare e [.In] [.Name x p] pos) (tst (inT ks f)) := by
  subst hk
  obtain ⟨es, n, kd, _⟩ := Dd.kd
  exact (pt_cmpR (op_in_kd kd) he (pe_glob (v := .ref (He.ga X.K x)) hg Dd.g rfl hd) hm).to fun _ _ _ h => inT_to Dd (tst_to h)
/-! ### a call of a name that holds a def -/
/-! ### try with two handlers -/
end
end DN
namespace DN
open PySem PySem.Spec PyProof.Rows L2
open LamX (Tabs ExtN)

theorem tup_strs {K : PySem.W.Frag} {H : Hp} {a : Addr} {zs : List Str} (h : SqT K H a ((zs.map He.Dv.str).map (He.Dv.v K))) : SqT K H a (zs.map V.str) := by
  rw [List.map_map] at h
  exact h
section
variable {X : Cx} {T : List (Addr × Str)} {W : WX} {F0 H0 : Hp}
/-! ### a display of text keys that is used at once -/
end
end DN
namespace DN
open PySem PySem.Spec PyProof.Rows L2
open LamX (Tabs ExtN)

section
variable {X : Cx} {T : List (Addr × Str)} {W : WX} {F0 H0 : Hp}
/-! ### a display of text keys, its item taken at once -/
end
/-! ### a module's dict of texts -/
structure DicS (w : World) (K : PySem.W.Frag) (mg : Str → Option Value) (x : Str) (kvs : List (Str × Str)) : Prop where
  kd : ∃ es n, KDict K w (He.ga K x) es n ∧ es.toList.map He.keyOf = He.keysIn w.params (kvs.map Prod.fst)
  vals : ∀ q ∈ kvs, ∃ u, PySem.W.nsIn K (He.ga K x) q.1 = some (some u) ∧ RelV (.str q.2) u
  g : mg x = some (.ref (He.ga K x))
theorem DicS.ns {w : World} {K : PySem.W.Frag} {mg : Str → Option Value} {x : Str} {kvs : List (Str × Str)} (D : DicS w K mg x kvs) (z : Str) : ∃ r, PySem.W.nsIn K (He.ga K x) z = some r ∧ r.isSome = (kvs.map Prod.fst).contains z := by
  by_cases h : z ∈ kvs.map Prod.fst
  · obtain ⟨q, hq, rfl⟩ := List.mem_map.mp h
    obtain ⟨u, h1, _⟩ := D.vals q hq
    exact ⟨some u, h1, by rw [List.contains_iff_mem.mpr h]; rfl⟩
  · obtain ⟨es, n, kd, hk⟩ := D.kd
    obtain ⟨h1, h2⟩ := keys_miss hk h
    refine ⟨none, ?_, ?_⟩
    · unfold PySem.W.nsIn
      rw [kd.at_]
      simp only [h1, h2]
      rfl
    · have : (kvs.map Prod.fst).contains z = false := by
        rw [Bool.eq_false_iff]
        exact fun q => h (List.contains_iff_mem.mp q)
      rw [this]; rfl
section
variable {X : Cx} {T : List (Addr × Str)} {W : WX} {F0 H0 : Hp}
/-! ### a def of which nothing is promised: the recursion's ground -/
end
end DN
/-! lists of the frame's own: made, appended to, stored into, read, frozen -/
namespace DN
open PySem PySem.Spec PyProof.Rows L2
open LamX (Tabs ExtN)

def D.flat : D → Bool
  | .non => true
  | .bl _ => true
  | .int _ => true
  | .str _ => true
  | _ => false
def flatR : Res D → Res D
  | .ok d => if d.flat = true then .ok d else .bad
  | r => r
def frz (i : Nat) (ρ : Rho) : Rho := match ρ[i]? with
  | some (.o (.lst ds)) => ρ.set i (.z (.lst ds))
  | _ => ρ
def bor (i : Nat) (f : Rho → Res D) : Rho → Res D := fun ρ => flatR (f (frz i ρ))
def borQ (i : Nat) (f : Rho → Res Bool) : Rho → Res Bool := fun ρ => f (frz i ρ)
theorem Rp.flat {K : PySem.W.Frag} {F F' : Hp} {v : V} {d : D} (h : Rp K F v d) (e : d.flat = true) : Rp K F' v d := by
  cases h <;> first | exact .non | exact .bl _ | exact .int _ | exact .str _ | cases e
section
variable {K : PySem.W.Frag} {T : List (Addr × Str)} {W : WX} {F0 H0 F H : Hp} {σ : L2.St} {ρ : Rho}
theorem At.frz (a : At K T F H σ ρ) (i : Nat) : ∃ F1, At K T F1 H σ (frz i ρ) ∧ Sub F F1 ∧ (∀ F' H', Nx T F1 H F' H' → Nx T F H F H') ∧ (∀ F0 H0, Nx T F0 H0 F H → Ow H0 σ ρ → Nx T F0 H0 F1 H ∧ Ow H0 σ (frz i ρ)) := by
  have triv : ∃ F1, At K T F1 H σ ρ ∧ Sub F F1 ∧ (∀ F' H', Nx T F1 H F' H' → Nx T F H F H') ∧ (∀ F0 H0, Nx T F0 H0 F H → Ow H0 σ ρ → Nx T F0 H0 F1 H ∧ Ow H0 σ ρ) :=
    ⟨F, a, Sub.refl F, fun F' H' n => ⟨Sub.refl F, ⟨n.f.trans n.z.sub, a.z.nt⟩, n.h, fun _ _ h => .inl h, n.tab⟩, fun F0 H0 n o => ⟨n, o⟩⟩
  unfold DN.frz
  split
  · rename_i ds e
    obtain ⟨p, hs, hp, xs, hx, rx⟩ := a.r.o i _ e
    have sb : Sub F (upd F p (.lst xs)) := fun b o eb => by
      rw [upd_ne fun z => by rw [z, hp] at eb; cases eb]; exact eb
    have z1 : Fz (upd F p (.lst xs)) H := ⟨fun b o eb => by
      by_cases hb : b = p
      · subst hb; rw [upd_same] at eb; rw [← eb]; exact hx
      · rw [upd_ne hb] at eb; exact a.z.sub _ _ eb, fun b ps eb => by
      by_cases hb : b = p
      · subst hb; rw [upd_same] at eb; cases eb
      · rw [upd_ne hb] at eb; exact a.z.nt _ _ eb⟩
    have il : i < ρ.length := (List.getElem?_eq_some_iff.mp e).1
    refine ⟨upd F p (.lst xs), ⟨z1, a.t, ?_⟩, sb, fun F' H' n => ⟨Sub.refl F, ⟨sb.trans (n.f.trans n.z.sub), a.z.nt⟩, n.h, fun _ _ h => .inl h, n.tab⟩, fun F0 H0 n o => ⟨⟨n.f.trans sb, z1, n.h, fun b u eb => ?_, n.tab⟩, fun j d q h1 h2 => ?_⟩⟩
    · refine ⟨by rw [List.length_set]; exact a.r.len, fun j d hj => ?_, fun j d hj => ?_, fun j k d1 d2 q1 q2 hn h1 h2 h3 h4 => ?_⟩
      · rw [List.getElem?_set] at hj
        by_cases hij : i = j
        · subst hij
          rw [if_pos rfl, if_pos il] at hj
          cases hj
          exact ⟨_, hs, .lst upd_same (rx.mono sb)⟩
        · rw [if_neg hij] at hj
          obtain ⟨v, h1, h2⟩ := a.r.z j d hj
          exact ⟨v, h1, h2.mono sb⟩
      · rw [List.getElem?_set] at hj
        by_cases hij : i = j
        · subst hij
          rw [if_pos rfl, if_pos il] at hj
          cases hj
        · rw [if_neg hij] at hj
          obtain ⟨q, h1, h2, h3⟩ := a.r.o j d hj
          have hne : p ≠ q := a.r.ne i j _ _ p q hij e hj hs h1
          refine ⟨q, h1, by rw [upd_ne (Ne.symm hne)]; exact h2, ?_⟩
          cases d with
          | lst es => obtain ⟨ys, k1, k2⟩ := h3; exact ⟨ys, k1, k2.mono sb⟩
          | dK _ => exact h3
          | dT _ => exact h3
          | dic _ _ _ _ => obtain ⟨es, k1, k2⟩ := h3; exact ⟨es, k1, k2.mono sb⟩
          | ins _ _ _ => obtain ⟨dx, ws, k1, k2⟩ := h3; exact ⟨dx, ws, k1, k2.mono sb⟩
          | _ => exact h3.elim
      · rw [List.getElem?_set] at h1 h2
        have fj : i ≠ j := fun z => by rw [if_pos z] at h1; split at h1 <;> cases h1
        have fk : i ≠ k := fun z => by rw [if_pos z] at h2; split at h2 <;> cases h2
        rw [if_neg fj] at h1
        rw [if_neg fk] at h2
        exact a.r.ne j k d1 d2 q1 q2 hn h1 h2 h3 h4
    · by_cases hb : b = p
      · subst hb
        exact .inr fun o' e' => .inl (o i _ b e hs o' e')
      · rw [upd_ne hb] at eb; exact n.new _ _ eb
    · rw [List.getElem?_set] at h1
      by_cases hij : i = j
      · subst hij
        rw [if_pos rfl, if_pos il] at h1
        cases h1
      · rw [if_neg hij] at h1
        exact o j d q h1 h2
  · exact triv
end
section
variable {X : Cx} {T : List (Addr × Str)} {W : WX} {F0 H0 : Hp}
def sfrz (i : Nat) (s : Rho → SR) : Rho → SR := fun ρ => s (frz i ρ)
theorem s_frz {st : List Stmt} {s : Rho → SR} (i : Nat) (h : DSs X T W F0 H0 st s) : DSs X T W F0 H0 st (sfrz i s) := h.to fun Z σ H ⟨ρ, F, g, q⟩ => by
  obtain ⟨F1, a1, sb, _, fw⟩ := g.at_.frz i
  obtain ⟨n1, o1⟩ := fw F0 H0 g.nx g.ow
  exact ⟨DN.frz i ρ, F1, ⟨a1, n1, o1⟩, aftS.mono sb q⟩
end

/-! ### made -/
def aftO (K : PySem.W.Frag) (T : List (Addr × Str)) (W : WX) (σ : L2.St) (F H : Hp) (Q : V → Hp → Prop) : Res D → Prop
  | .ok (.lst ds) => ∀ p vs F' H', Nx T F H F' H' → F' p = none → H' p = some (.lst vs) → RpAll K F' vs ds → (∀ o, H p = some o → ∃ ps, o = .tbl ps) → Q (.ref p) H'
  | .ok _ => False
  | .ex n => ∀ F' H', Nx T F H F' H' → W (.ref (He.ga K n)) none σ H'
  | .bad => False
def tO (K : PySem.W.Frag) (T : List (Addr × Str)) (W : WX) (f : Rho → Res D) : TE := fun σ H Q => ∃ ρ F, At K T F H σ ρ ∧ aftO K T W σ F H Q (f ρ)
abbrev DOw (X : Cx) (T : List (Addr × Str)) (W : WX) (e : Expr) (f : Rho → Res D) : Prop := PE X e (tO X.K T W f)
def sown (f : Rho → Res D) (i : Nat) : Rho → SR := fun ρ => bindS (f ρ) ρ fun d => match d with
  | .lst ds => .nx (ρ.set i (.o (.lst ds)))
  | _ => .bad
section
variable {K : PySem.W.Frag} {T : List (Addr × Str)} {W : WX} {F0 H0 F H : Hp} {σ : L2.St} {ρ : Rho}
theorem frn {p : Addr} (z : Fz F H) (hp : H p = none) : F p = none := by
  cases q : F p with
  | none => rfl
  | some o => have := z.sub _ _ q; rw [hp] at this; cases this
theorem Rl.setO {i : Nat} {p : Addr} {vs : List V} {ds : List D} (r : Rl K F H σ ρ) (hp : F p = none) (hx : H p = some (.lst vs)) (rx : RpAll K F vs ds) (fr : ∀ (j : Nat) (d : D) (q : Addr), ρ[j]? = some (En.o d) → σ[j]? = some (some (V.ref q)) → q ≠ p) :
    Rl K F H (σ.set i (some (.ref p))) (ρ.set i (.o (.lst ds))) where
  len := by rw [List.length_set, List.length_set]; exact r.len
  z := fun j e hj => by
    rw [List.getElem?_set] at hj ⊢
    by_cases hij : i = j
    · subst hij
      rw [if_pos rfl] at hj
      split at hj <;> cases hj
    · rw [if_neg hij] at hj ⊢
      exact r.z j e hj
  o := fun j e hj => by
    rw [List.getElem?_set] at hj ⊢
    by_cases hij : i = j
    · subst hij
      rw [if_pos rfl] at hj ⊢
      by_cases hl : i < ρ.length
      · rw [if_pos hl] at hj
        rw [if_pos (by rw [r.len]; exact hl)]
        cases hj
        exact ⟨p, rfl, hp, vs, hx, rx⟩
      · rw [if_neg hl] at hj; cases hj
    · rw [if_neg hij] at hj ⊢
      exact r.o j e hj
  ne := fun j k a b q1 q2 hn h1 h2 h3 h4 => by
    rw [List.getElem?_set] at h1 h2 h3 h4
    by_cases fj : i = j
    · have fk : i ≠ k := fun z => hn (fj.symm.trans z)
      rw [if_neg fk] at h2 h4
      rw [if_pos fj] at h3
      have : q1 = p := by split at h3 <;> cases h3; rfl
      rw [this]
      exact Ne.symm (fr k _ q2 h2 h4)
    · rw [if_neg fj] at h1 h3
      by_cases fk : i = k
      · rw [if_pos fk] at h4
        have : q2 = p := by split at h4 <;> cases h4; rfl
        rw [this]
        exact fr j _ q1 h1 h3
      · rw [if_neg fk] at h2 h4
        exact r.ne j k a b q1 q2 hn h1 h2 h3 h4
theorem Ow.setO {i : Nat} {p : Addr} {d : D} (o : Ow H0 σ ρ) (hp : ∀ o, H0 p = some o → ∃ ps, o = .tbl ps) : Ow H0 (σ.set i (some (.ref p))) (ρ.set i (.o d)) := fun j e q h1 h2 => by
  rw [List.getElem?_set] at h1 h2
  by_cases hij : i = j
  · rw [if_pos hij] at h2
    have : q = p := by split at h2 <;> cases h2; rfl
    rw [this]; exact hp
  · rw [if_neg hij] at h1 h2
    exact o j e q h1 h2
theorem ntL' {vs : List V} : ∀ ps, HO.lst vs ≠ .tbl ps := fun ps z => by cases z
/-- an own list made at p, bound to slot i -/
theorem Sg.own {F1 H1 : Hp} {i : Nat} {p : Addr} {vs : List V} {ds : List D} (g : Sg K T F0 H0 F H σ ρ) (n : Nx T F H F1 H1) (hp : F1 p = none) (hx : H1 p = some (.lst vs)) (rx : RpAll K F1 vs ds) (fr : ∀ o, H p = some o → ∃ ps, o = .tbl ps) :
    Sg K T F0 H0 F1 H1 (σ.set i (some (.ref p))) (ρ.set i (.o (.lst ds))) := by
  have g1 := g.step n
  refine ⟨⟨g1.at_.z, g1.at_.t, g1.at_.r.setO hp hx rx fun j d q h1 h2 e => ?_⟩, g1.nx, g1.ow.setO fun o ho => ?_⟩
  · obtain ⟨q', k1, k2, k3⟩ := g.at_.r.o j d h1
    rw [h2] at k1
    cases k1
    obtain ⟨o, k4, k5⟩ := k3.solid
    rw [e] at k4
    obtain ⟨ps, k6⟩ := fr o k4
    exact k5 ps k6
  · by_cases q : ∃ ps, o = .tbl ps
    · exact q
    · exact fr o (g.nx.h p o ho fun ps z => q ⟨ps, z⟩)
/-- the own list at slot i is changed -/
theorem Sg.putO {i : Nat} {p : Addr} {d : D} {xs ys : List V} {es : List D} (g : Sg K T F0 H0 F H σ ρ) (hi : ρ[i]? = some (.o d)) (hs : σ[i]? = some (some (.ref p))) (hx : H p = some (.lst xs)) (ry : RpAll K F ys es) :
    Sg K T F0 H0 F (upd H p (.lst ys)) σ (ρ.set i (.o (.lst es))) := by
  have il : i < ρ.length := (List.getElem?_eq_some_iff.mp hi).1
  have hp : F p = none := by
    obtain ⟨q, h1, h2, h3⟩ := g.at_.r.o i d hi
    rw [hs] at h1; cases h1; exact h2
  have z1 : Fz F (upd H p (.lst ys)) := ⟨fun b o eb => by
    rw [upd_ne fun z => by rw [z, hp] at eb; cases eb]; exact g.at_.z.sub _ _ eb, g.at_.z.nt⟩
  refine ⟨⟨z1, tabs_upd g.at_.t hx, ?_⟩, ⟨g.nx.f, z1, fun b o eb no => ?_, g.nx.new, fun t => tabs_upd (g.nx.tab t) hx⟩, fun j e q h1 h2 => ?_⟩
  · refine ⟨by rw [List.length_set]; exact g.at_.r.len, fun j e hj => ?_, fun j e hj => ?_, fun j k a b q1 q2 hn h1 h2 h3 h4 => ?_⟩
    · rw [List.getElem?_set] at hj
      by_cases hij : i = j
      · rw [if_pos hij] at hj
        split at hj <;> cases hj
      · rw [if_neg hij] at hj
        exact g.at_.r.z j e hj
    · rw [List.getElem?_set] at hj
      by_cases hij : i = j
      · subst hij
        rw [if_pos rfl, if_pos il] at hj
        cases hj
        exact ⟨p, hs, hp, ys, upd_same, ry⟩
      · rw [if_neg hij] at hj
        obtain ⟨q, h1, h2, h3⟩ := g.at_.r.o j e hj
        have hne : p ≠ q := g.at_.r.ne i j _ _ p q hij hi hj hs h1
        refine ⟨q, h1, h2, ?_⟩
        cases e with
        | lst es => obtain ⟨zs, k1, k2⟩ := h3; exact ⟨zs, by rw [upd_ne (Ne.symm hne)]; exact k1, k2⟩
        | dK _ => show upd H p _ q = _; rw [upd_ne (Ne.symm hne)]; exact h3
        | dT _ => show upd H p _ q = _; rw [upd_ne (Ne.symm hne)]; exact h3
        | dic _ _ _ _ => obtain ⟨es, k1, k2⟩ := h3; exact ⟨es, by rw [upd_ne (Ne.symm hne)]; exact k1, k2⟩
        | ins _ _ _ => obtain ⟨dx, ws, k1, k2⟩ := h3; exact ⟨dx, ws, by rw [upd_ne (Ne.symm hne)]; exact k1, k2⟩
        | _ => exact h3.elim
    · have o1 : ∀ j e, (ρ.set i (.o (.lst es)))[j]? = some (En.o e) → ∃ e', ρ[j]? = some (En.o e') := fun j e h => by
        rw [List.getElem?_set] at h
        by_cases hij : i = j
        · subst hij; exact ⟨d, hi⟩
        · rw [if_neg hij] at h; exact ⟨e, h⟩
      obtain ⟨a', h1⟩ := o1 j a h1
      obtain ⟨b', h2⟩ := o1 k b h2
      exact g.at_.r.ne j k a' b' q1 q2 hn h1 h2 h3 h4
  · rw [upd_ne fun z => by
      subst z
      obtain ⟨ps, k⟩ := g.ow i d b hi hs o eb
      exact no ps k]
    exact g.nx.h _ _ eb no
  · rw [List.getElem?_set] at h1
    by_cases hij : i = j
    · subst hij
      exact g.ow i d q hi h2
    · rw [if_neg hij] at h1
      exact g.ow j e q h1 h2
end
section
variable {X : Cx} {T : List (Addr × Str)} {W : WX} {F0 H0 : Hp}
theorem sown_to {f : Rho → Res D} {i : Nat} {K : PySem.W.Frag} {Z : Ends} {σ : L2.St} {H : Hp} (h : tS K T W F0 H0 (sown f i) Z σ H) : tAsg (tO K T W f) (gName i) Z σ H := by
  obtain ⟨ρ, F, g, h⟩ := h
  refine ⟨ρ, F, g.at_, ?_⟩
  unfold sown at h
  cases e : f ρ with
  | ok d =>
    rw [e] at h
    cases d with
    | lst ds =>
      have h : ∀ σ' F' H', Sg K T F0 H0 F' H' σ' (ρ.set i (.o (.lst ds))) → Sub F F' → Z.nx σ' H' := h
      exact fun p vs F1 H1 n hp hx rx fr => h _ F1 H1 (g.own n hp hx rx fr) n.f
    | _ => exact h.elim
  | ex m => rw [e] at h; exact fun F' H' n => h σ F' H' (g.step n) n.f
  | bad => rw [e] at h; exact h.elim
theorem s_own {tg e : Expr} {pos : Pos} {f : Rho → Res D} {i : Nat} (he : DOw X T W e f) (hg : PG X tg (gName i)) (hs : swapsWithSole [tg] e pos.line X.env = pure false := by rfl) (hw : swappedStores [tg] e X.env = pure none := by rfl)
    (h1 : (assignEach [tg] X.env).map (·.2) = [assign tg X.env] := by rfl) : DS X T W F0 H0 (.Assign [tg] e pos) (sown f i) :=
  (ps_asg he hg hs hw h1).to fun Z σ H h => sown_to h
theorem back_tbl {H H2 : Hp} {p : Addr} (n : ExtN H H2) (fr : ∀ o, H2 p = some o → ∃ ps, o = .tbl ps) : ∀ o, H p = some o → ∃ ps, o = .tbl ps := fun o ho => by
  by_cases q : ∃ ps, o = .tbl ps
  · exact q
  · exact fr o (n p o ho fun ps z => q ⟨ps, z⟩)
theorem aftO.bind {K : PySem.W.Frag} {σ : L2.St} {F H : Hp} {α β : Type} {R : Hp → α → β → Prop} {Q : V → Hp → Prop} {r : Res β} {k : β → Res D} (h : aftO K T W σ F H Q (r.bind k)) :
    aft R K T W σ F H (fun a H1 => ∃ b F1, r = .ok b ∧ Nx T F H F1 H1 ∧ R F1 a b ∧ aftO K T W σ F1 H1 Q (k b)) r := by
  cases r with
  | ok b =>
    refine fun a F2 H2 n ra => ⟨b, F2, rfl, n, ra, ?_⟩
    have h : aftO K T W σ F H Q (k b) := h
    cases e : k b with
    | ok d =>
      rw [e] at h
      cases d with
      | lst ds => exact fun p vs F' H' n2 hp hx rx fr => h p vs F' H' (n.trans n2) hp hx rx (back_tbl n.h fr)
      | _ => exact h.elim
    | ex m => rw [e] at h; exact fun F' H' n2 => h F' H' (n.trans n2)
    | bad => rw [e] at h; exact h.elim
  | ex m => exact h
  | bad => exact h
theorem o_lst {es : List Expr} {pos : Pos} {f : Rho → Res (List D)} (h : DA X T W es f) : DOw X T W (.List es pos) (mkL f) :=
  (pe_lst h).to fun σ H Q ⟨ρ, F, a, h⟩ => by
    refine ⟨ρ, F, a, (aftO.bind (R := RpAll X.K) h).imp fun d _ v F1 H1 _ _ q => ?_⟩
    obtain ⟨ds, F2, _, n, rv, q⟩ := q
    have q : aftO X.K T W σ F2 H1 Q (if ds.length ≤ sizeLine then .ok (.lst ds) else .bad) := q
    split at q
    · rename_i hl
      exact ⟨by rw [rv.length]; exact hl, fun p hp => q p v F2 _ (Nx.lay n.z hp) (frn n.z hp) upd_same rv fun o ho => by rw [hp] at ho; cases ho⟩
    · exact q.elim
/-! ### appended, stored, read -/
/-- the own list at slot i, if there is one -/
theorem own_at {K : PySem.W.Frag} {F H : Hp} {σ : L2.St} {ρ : Rho} {i : Nat} {ds : List D} (r : Rl K F H σ ρ) (e : ρ[i]? = some (.o (.lst ds))) : ∃ p xs, σ[i]? = some (some (.ref p)) ∧ F p = none ∧ H p = some (.lst xs) ∧ RpAll K F xs ds := by
  obtain ⟨p, h1, h2, xs, h3, h4⟩ := r.o i _ e
  exact ⟨p, xs, h1, h2, h3, h4⟩
def ownR (i : Nat) (ρ : Rho) : Res (List D) := match ρ[i]? with
  | some (.o (.lst ds)) => .ok ds
  | _ => .bad
theorem ownR_ok {i : Nat} {ρ : Rho} {ds : List D} (h : ownR i ρ = .ok ds) : ρ[i]? = some (.o (.lst ds)) := by
  unfold ownR at h
  split at h
  · rename_i e; cases h; exact e
  · cases h
def sapp (i : Nat) (f : Rho → Res D) : Rho → SR := fun ρ => bindS (ownR i ρ) ρ fun ds => bindS (f ρ) ρ fun d => if ds.length < sizeLine then .nx (ρ.set i (.o (.lst (ds ++ [d])))) else .bad
theorem s_app {x : Str} {i : Nat} {e : Expr} {p apos cpos pos : Pos} {f : Rho → Res D} (hv : PE X (.Name x p) (tVar i)) (he : DE X T W e f) (hline : (apos.endLine == cpos.line) = true := by rfl)
    (hs : swapsWith (.Call (.Attribute (.Name x p) "append" apos) [e] [] cpos) none pos.line X.env = pure false := by rfl)
    (hbase : attributeBase (.Name x p) "append" X.env (eval (.Name x p) X.env) = eval (.Name x p) X.env := by rfl)
    (hfew : ((backTo cpos (starEach [e] X.env)).all (fun x => !x.1) && (backToKw cpos (keywordEach [] X.env)).all (fun x => x.1.isSome)
      && decide (([e]).length + ([] : List Keyword).length + (if ([] : List Keyword).isEmpty then 0 else 1) < 30)) = true := by rfl)
    (h5 : starEach [e] X.env = (false, eval e X.env) :: starEach [] X.env := by rfl) (hplain : (backTo cpos (starEach [] X.env)).any (·.1) = false := by rfl) :
    DS X T W F0 H0 (.Expr (.Call (.Attribute (.Name x p) "append" apos) [e] [] cpos) pos) (sapp i f) :=
  (ps_expr (pe_bm PySem.F.plainAttrs_list PySem.F.slot_list_append PySem.F.type_list_append mt_append hv (pa_cons he pa_nil h5) hbase hfew hline h5 hplain) hs).to fun Z σ H ⟨ρ, F, g, h⟩ => by
    unfold sapp at h
    cases e : ownR i ρ with
    | bad => rw [e] at h; exact h.elim
    | ex m =>
      exfalso
      unfold ownR at e
      split at e <;> cases e
    | ok ds =>
      rw [e] at h
      have e := ownR_ok e
      obtain ⟨p, xs, h1, h2, h3, h4⟩ := own_at g.at_.r e
      have h : aftS X.K T W F0 H0 F Z (bindS (f ρ) ρ fun d => if ds.length < sizeLine then .nx (ρ.set i (.o (.lst (ds ++ [d])))) else .bad) := h
      refine ⟨_, h1, .inl ⟨rfl, xs, SqL.of h3⟩, ρ, F, g.at_, (aftS.bind (R := Rp X.K) g h).imp fun d _ v F1 H1 _ _ q => ?_⟩
      obtain ⟨d', F2, _, n, g2, rv, q⟩ := q
      split at q
      · rename_i hl
        have k3 : H1 p = some (.lst xs) := n.keep h3 ntL'
        refine ⟨p, xs, v, rfl, rfl, k3, by rw [h4.length]; exact hl, ?_⟩
        exact q σ F2 _ (g2.putO e h1 k3 ((h4.mono n.f).append (.cons rv .nil))) (Sub.refl F2)
      · exact q.elim
theorem RpAll.set {K : PySem.W.Frag} {F : Hp} : ∀ {vs : List V} {ds : List D} (n : Nat) {v : V} {d : D}, RpAll K F vs ds → Rp K F v d → RpAll K F (vs.set n v) (ds.set n d)
  | _, _, _, _, _, .nil, _ => .nil
  | _, _, 0, _, _, .cons _ t, r => .cons r t
  | _, _, n + 1, _, _, .cons h t, r => .cons h (RpAll.set n t r)
def sput (i : Nat) (fk fe : Rho → Res D) : Rho → SR := fun ρ => bindS (fe ρ) ρ fun d => bindS (ownR i ρ) ρ fun ds => bindS (fk ρ) ρ fun k => match k with
  | .int j => (match ixN ds.length j with
    | some m => .nx (ρ.set i (.o (.lst (ds.set m d))))
    | none => .bad)
  | _ => .bad
def ixO (i : Nat) (fk : Rho → Res D) : Rho → Res D := fun ρ => (ownR i ρ).bind fun ds => (fk ρ).bind fun k => match k with
  | .int j => ofO (atI ds j)
  | _ => .bad
end
end DN
/-! comprehensions with any target; lists made so are own or frozen -/
namespace DN
open PySem PySem.Spec PyProof.Rows L2
open LamX (Tabs ExtN)

theorem At.wipe {K : PySem.W.Frag} {T : List (Addr × Str)} {F H : Hp} {σ : L2.St} {ρ : Rho} (a : At K T F H σ ρ) : ∀ vs : List Nat, At K T F H (L2.wipe σ vs) (wipeR ρ vs)
  | [] => a
  | v :: vs => ⟨a.z, a.t, (At.wipe a vs).r.wipe1⟩
/-! targets that touch the slots vs alone -/
section
variable {X : Cx} {T : List (Addr × Str)} {W : WX} {F0 H0 : Hp} {vs : List Nat}
end
section
variable {X : Cx} {T : List (Addr × Str)} {W : WX} {F0 H0 : Hp}
section
variable {j : Nat} {y : Str} {py : Pos} {elt tg iter : Expr} {ifs : List Expr} {scope : Scope} {own : List (Str × Nat)} {pos spos : Pos} {f : Rho → Res (List D)} {g : Tg} {t : Rho → Res Bool} {e : Rho → Res D}
end
end
end DN
/-! min, max and index of a list of ints; evaluation of own lists -/
namespace DN
open PySem PySem.Spec PyProof.Rows L2
open LamX (Tabs ExtN)

section
variable {X : Cx} {T : List (Addr × Str)} {W : WX} {F0 H0 : Hp}
end
/-! ### evaluation -/
section
variable {ρ : Rho}
def ownRR (r : Res D) (ρ : Rho) (i : Nat) : SR := bindS r ρ fun d => match d with
  | .lst ds => .nx (ρ.set i (.o (.lst ds)))
  | _ => .bad
theorem sown_def {f : Rho → Res D} {i : Nat} : sown f i ρ = ownRR (f ρ) ρ i := rfl
theorem ownRR_ok {ds : List D} {i : Nat} : ownRR (.ok (.lst ds)) ρ i = .nx (ρ.set i (.o (.lst ds))) := rfl
theorem frz_lst {ds : List D} {r : Rho} : frz 0 (.o (.lst ds) :: r) = .z (.lst ds) :: r := rfl
theorem frz_z {d : D} {r : Rho} : frz 0 (.z d :: r) = .z d :: r := rfl
theorem frz_u {r : Rho} : frz 0 (.u :: r) = .u :: r := rfl
theorem frz_succ {i : Nat} {e : En} {r : Rho} : frz (i + 1) (e :: r) = e :: frz i r := by
  unfold frz
  rw [List.getElem?_cons_succ]
  cases r[i]? with
  | none => rfl
  | some en =>
    cases en with
    | u => rfl
    | z d => rfl
    | o d => cases d <;> rfl
theorem sfrz_def {i : Nat} {s : Rho → SR} : sfrz i s ρ = s (frz i ρ) := rfl
theorem bor_def {i : Nat} {f : Rho → Res D} : bor i f ρ = flatR (f (frz i ρ)) := rfl
theorem borQ_def {i : Nat} {f : Rho → Res Bool} : borQ i f ρ = f (frz i ρ) := rfl
theorem flat_i {i : Int} : flatR (.ok (.int i)) = .ok (.int i) := rfl
theorem flat_s {x : Str} : flatR (.ok (.str x)) = .ok (.str x) := rfl
theorem flat_b {b : Bool} : flatR (.ok (.bl b)) = .ok (.bl b) := rfl
theorem flat_n : flatR (.ok .non) = .ok .non := rfl
theorem own_zero {ds : List D} {r : Rho} : ownR 0 (.o (.lst ds) :: r) = .ok ds := rfl
theorem own_succ {i : Nat} {e : En} {r : Rho} : ownR (i + 1) (e :: r) = ownR i r := rfl
def appRR (ds : Res (List D)) (r : Res D) (ρ : Rho) (i : Nat) : SR := bindS ds ρ fun ds => bindS r ρ fun d => if ds.length < sizeLine then .nx (ρ.set i (.o (.lst (ds ++ [d])))) else .bad
theorem sapp_def {i : Nat} {f : Rho → Res D} : sapp i f ρ = appRR (ownR i ρ) (f ρ) ρ i := rfl
theorem appRR_ok {ds : List D} {d : D} {i : Nat} (h : ds.length < 1000000) : appRR (.ok ds) (.ok d) ρ i = .nx (ρ.set i (.o (.lst (ds ++ [d])))) := by
  show (if ds.length < sizeLine then _ else _) = _
  rw [if_pos (by rw [sizeLine_eq]; omega)]
def putRR (v : Res D) (ds : Res (List D)) (k : Res D) (ρ : Rho) (i : Nat) : SR := bindS v ρ fun d => bindS ds ρ fun ds => bindS k ρ fun k => match k with
  | .int j => (match ixN ds.length j with
    | some m => .nx (ρ.set i (.o (.lst (ds.set m d))))
    | none => .bad)
  | _ => .bad
theorem sput_def {i : Nat} {f g : Rho → Res D} : sput i f g ρ = putRR (g ρ) (ownR i ρ) (f ρ) ρ i := rfl
def ixRR (ds : Res (List D)) (k : Res D) : Res D := ds.bind fun ds => k.bind fun k => match k with
  | .int j => ofO (atI ds j)
  | _ => .bad
theorem ixO_def {i : Nat} {f : Rho → Res D} : ixO i f ρ = ixRR (ownR i ρ) (f ρ) := rfl
end
end DN
/-! list(x) as an own list -/
namespace DN
open PySem PySem.Spec PyProof.Rows L2
open LamX (Tabs ExtN)
section
variable {X : Cx} {T : List (Addr × Str)} {W : WX}
end
end DN
/-! sorted of a list of texts -/
namespace DN
open PySem PySem.Spec PyProof.Rows L2
open LamX (Tabs ExtN)
section
variable {X : Cx} {T : List (Addr × Str)} {W : WX}
end
end DN
/-! tuples of texts whose object is known: tuple(list), len, [], in, index, + -/
namespace DN
open PySem PySem.Spec PyProof.Rows L2
open LamX (Tabs ExtN)
section
variable {X : Cx} {T : List (Addr × Str)} {W : WX}
/-! t.index(x), t a tuple whose object is known: one argument, by the kit's wpAny_Call_method1_late -/
variable {o e : Expr} {to : TE} {t : TA} {apos cpos : Pos}
end
end DN
/-! str.replace: rules where a token is out -/
namespace DN
open PySem PySem.Spec PyProof.Rows L2
open LamX (Tabs ExtN)
section
variable {X : Cx} {T : List (Addr × Str)} {W : WX} {F0 H0 : Hp}
end
end DN
/-! zip of two lists, of two tuples -/
namespace DN
open PySem PySem.Spec PyProof.Rows L2
open LamX (Tabs ExtN)
open RZ (ItzT iZipA pi_zipA)
section
variable {X : Cx} {T : List (Addr × Str)} {W : WX}
end
end DN
/-! x.replace(y, z, 1); statements behind which a token is out -/
namespace PySem
open Builtin Builtin.Str
section
variable {prog : Program} {w : World} {A : Around} {E : Value → Shared → Prop} {s : Shared} {x y z : Str} {t u v c : Tok} {Q : Value → Shared → Prop}
end
end PySem
namespace DN
open PySem PySem.Spec PyProof.Rows L2
open LamX (Tabs ExtN)
section
variable {X : Cx} {T : List (Addr × Str)} {W : WX} {F0 H0 : Hp}
end
end DN
/-! DN25: repr of nested tuples; a law whose body is read under the outermost call alone (no repr is under way there). -/
namespace DN
open PySem PySem.Spec PyProof.Rows L2
open LamX (Tabs ExtN TabB)

section
variable {X : Cx} {T : List (Addr × Str)}
end
/-! ### a law's def, read under the outermost call -/
/-! the heap at the law's entry: the script (if the head doesn't hold it) and the empty tables are tracked -/
section
variable {K : PySem.W.Frag} {cs : List (Addr × Addr)} {a b : Addr} {o : Obj} {ns : List Int} {h : Heap} {u : HO}
end
section
variable {l : PySem.W.OpenLaw} {w : World} {K : PySem.W.Frag} {n : Nat} {x : Str} {mg mb : Str → Option Value} {fa a : Addr} {fd : FuncData} {cs : List (Addr × Addr)} {sp : Sp} {s s' : Shared} {vs : List Value} {ns : List Int} {o : Obj}
end
end DN
/-! dicts of the frame's own whose keys are nested tuples -/
namespace DN
open PySem PySem.Spec PyProof.Rows L2
open LamX (Tabs ExtN)

section
variable {X : Cx} {pins : List (Addr × Obj)} {σ : L2.St} {F H : Hp} {s : Shared}
end
/-! ### looked up, stored -/
section
variable {K : PySem.W.Frag} {F : Hp} {es : List (NestedKey × Addr × V)} {ks vs : List D} {xs : List (NestedKey × Addr × Value)} {n : NestedKey}
end
/-! ### the operations, by the heap -/
section
variable {X : Cx}
theorem DicR.length {K : PySem.W.Frag} {F : Hp} {es : List (NestedKey × Addr × V)} {ks vs : List D} (r : DicR K F es ks vs) : es.length = ks.length := by
  induction r with
  | nil => rfl
  | cons _ _ _ _ _ ih => rw [List.length_cons, List.length_cons, ih]
end
/-! ### no dict is a code object -/
theorem tabs_updG {T : List (Addr × Str)} {H : Hp} {p : Addr} {o o' : HO} (h : Tabs T H) (e : H p = some o) (h1 : ∀ ps, o ≠ .tbl ps) (h2 : ∀ q, o ≠ LamX.CodeO p q) : Tabs T (upd H p o') := fun q hq => by
  obtain ⟨ps, k1, k2, k3⟩ := h q hq
  refine ⟨ps, ?_, k2, fun pos cv hc => ?_⟩
  · rw [upd_ne fun z => by rw [z, e] at k1; exact h1 ps (Option.some.inj k1)]; exact k1
  · obtain ⟨c, e1, e2⟩ := k3 pos cv hc
    refine ⟨c, e1, ?_⟩
    rw [upd_ne fun z => by subst z; rw [e] at e2; exact h2 _ (Option.some.inj e2)]; exact e2
theorem OwnAt.updN {K : PySem.W.Frag} {F H : Hp} {p q : Addr} {o : HO} (hne : q ≠ p) : ∀ {d : D}, OwnAt K F H q d → OwnAt K F (upd H p o) q d
  | .lst ds, ⟨zs, k1, k2⟩ => ⟨zs, by rw [upd_ne hne]; exact k1, k2⟩
  | .dK _, h => by show upd H p o q = _; rw [upd_ne hne]; exact h
  | .dT _, h => by show upd H p o q = _; rw [upd_ne hne]; exact h
  | .dic _ _ _ _, ⟨es, k1, k2⟩ => ⟨es, by rw [upd_ne hne]; exact k1, k2⟩
  | .ins _ _ _, ⟨dx, ws, k1, k2⟩ => ⟨dx, ws, by rw [upd_ne hne]; exact k1, k2⟩
  | .non, h => h.elim
  | .bl _, h => h.elim
  | .int _, h => h.elim
  | .str _, h => h.elim
  | .tup _, h => h.elim
  | .fn _, h => h.elim
  | .ty _, h => h.elim
  | .arr _, h => h.elim
  | .pro _, h => h.elim
  | .adr _, h => h.elim
  | .tab _ _ _, h => h.elim
section
variable {K : PySem.W.Frag} {T : List (Addr × Str)} {W : WX} {F0 H0 F H : Hp} {σ : L2.St} {ρ : Rho}
end
/-! ### by data -/
section
variable {X : Cx} {T : List (Addr × Str)} {W : WX} {F0 H0 : Hp}
end
end DN
/-! known tuples of texts: written ones, + -/
namespace DN
open PySem PySem.Spec PyProof.Rows L2
open LamX (Tabs ExtN)
section
variable {X : Cx} {T : List (Addr × Str)} {W : WX}
end
end DN
/-! M-mode: one slot holds a dict of text keys that is changed, also by callees -/
namespace DN
open PySem PySem.Spec PyProof.Rows L2
open LamX (Tabs ExtN)

/-! ### data without lists and dicts -/
mutual
def D.imm : D → Bool
  | .non => true
  | .bl _ => true
  | .int _ => true
  | .str _ => true
  | .fn _ => true
  | .ty _ => true
  | .adr _ => true
  | .pro _ => true
  | .pw _ => true
  | .tup ds => D.imms ds
  | _ => false
def D.imms : List D → Bool
  | [] => true
  | d :: ds => D.imm d && D.imms ds
end
/-- F without the addresses of S -/
def cut (F : Hp) (S : List Addr) : Hp := fun a => if a ∈ S then none else F a
theorem cut_in {F : Hp} {S : List Addr} {a : Addr} (h : a ∈ S) : cut F S a = none := if_pos h
theorem cut_out {F : Hp} {S : List Addr} {a : Addr} (h : a ∉ S) : cut F S a = F a := if_neg h
theorem cut_some {F : Hp} {S : List Addr} {a : Addr} {o : HO} (h : cut F S a = some o) : a ∉ S ∧ F a = some o := by
  by_cases e : a ∈ S
  · rw [cut_in e] at h; cases h
  · rw [cut_out e] at h; exact ⟨e, h⟩
/-- lists and dicts alone stand there -/
def Soft (F : Hp) (S : List Addr) : Prop := ∀ a ∈ S, ∀ o, F a = some o → (∃ xs, o = .lst xs) ∨ ∃ kvs, o = .dK kvs
theorem cut_sqT {K : PySem.W.Frag} {F : Hp} {S : List Addr} {a : Addr} {xs : List V} (h : SqT K F a xs) (hs : Soft F S) : SqT K (cut F S) a xs := by
  rcases h with h | h
  · refine .inl ?_
    rcases h with h | ⟨o, h⟩
    · refine .inl ?_
      rw [cut_out fun z => ?_]; exact h
      rcases hs a z _ h with ⟨_, e⟩ | ⟨_, e⟩ <;> cases e
    · refine .inr ⟨o, ?_⟩
      rw [cut_out fun z => ?_]; exact h
      rcases hs a z _ h with ⟨_, e⟩ | ⟨_, e⟩ <;> cases e
  · exact .inr h
mutual
theorem Rp.cutS {K : PySem.W.Frag} {F : Hp} {S : List Addr} (hs : Soft F S) : ∀ {v : V} {d : D}, Rp K F v d → d.imm = true → Rp K (cut F S) v d
  | _, _, .non, _ => .non
  | _, _, .bl b, _ => .bl b
  | _, _, .int i, _ => .int i
  | _, _, .str x, _ => .str x
  | _, _, .fn x, _ => .fn x
  | _, _, .ty n, _ => .ty n
  | _, _, .lst h t, e => by unfold D.imm at e; cases e
  | _, _, .tup h t, e => .tup (cut_sqT h hs) (RpAll.cutS hs t (by unfold D.imm at e; exact e))
  | _, _, .dK h, e => by unfold D.imm at e; cases e
  | _, _, .dT h, e => by unfold D.imm at e; cases e
  | _, _, .arr h, e => by unfold D.imm at e; cases e
  | _, _, .pro ⟨o, h1, h2, h3⟩, _ => .pro ⟨o, h1, h2, by
      rw [cut_out fun z => ?_]; exact h3
      rcases hs _ z _ h3 with ⟨_, e⟩ | ⟨_, e⟩ <;> cases e⟩
  | _, _, .pw h, _ => .pw (by
      rw [cut_out fun z => ?_]; exact h
      rcases hs _ z _ h with ⟨_, e⟩ | ⟨_, e⟩ <;> cases e)
  | _, _, .adr a, _ => .adr a
  | _, _, .frm h t, e => by unfold D.imm at e; cases e
  | _, _, .tab h1 h2 h3 t, e => by unfold D.imm at e; cases e
theorem RpAll.cutS {K : PySem.W.Frag} {F : Hp} {S : List Addr} (hs : Soft F S) : ∀ {vs : List V} {ds : List D}, RpAll K F vs ds → D.imms ds = true → RpAll K (cut F S) vs ds
  | _, _, .nil, _ => .nil
  | _, _, .cons h t, e => by
    unfold D.imms at e
    rw [Bool.and_eq_true] at e
    exact .cons (Rp.cutS hs h e.1) (RpAll.cutS hs t e.2)
end
/-! ### the state -/
/-- the fields: tuples and flat things, or own lists of such (their addresses) -/
inductive Flds (K : PySem.W.Frag) (F H : Hp) : List V → List D → List Addr → Prop
  | nil : Flds K F H [] [] []
  | imm {v : V} {d : D} {vs : List V} {ds : List D} {S : List Addr} : d.imm = true → Rp K F v d → Flds K F H vs ds S → Flds K F H (v :: vs) (d :: ds) S
  | lst {a : Addr} {xs : List V} {es : List D} {vs : List V} {ds : List D} {S : List Addr} : H a = some (.lst xs) → RpAll K F xs es → D.imms es = true → Flds K F H vs ds S → Flds K F H (.ref a :: vs) (.lst es :: ds) (a :: S)
abbrev MSt := List Str × List D
structure StAt (K : PySem.W.Frag) (F H : Hp) (p : Addr) (m : MSt) (S : List Addr) : Prop where
  ex : ∃ ws S', S = p :: S' ∧ H p = some (.dK (kvK m.1 ws)) ∧ m.1.length = ws.length ∧ Flds K F H ws m.2 S'
  nd : S.Nodup
  out : ∀ a ∈ S, F a = none
  nk : m.1.Nodup
theorem Flds.solid {K : PySem.W.Frag} {F H : Hp} {ws : List V} {ds : List D} {S : List Addr} (h : Flds K F H ws ds S) : ∀ a ∈ S, ∃ xs, H a = some (.lst xs) := by
  induction h with
  | nil => intro a h; cases h
  | imm _ _ _ ih => exact ih
  | lst h _ _ _ ih =>
    intro a ha
    rcases List.mem_cons.mp ha with rfl | ha
    · exact ⟨_, h⟩
    · exact ih a ha
theorem StAt.solid {K : PySem.W.Frag} {F H : Hp} {p : Addr} {m : MSt} {S : List Addr} (h : StAt K F H p m S) : ∀ a ∈ S, ∃ o, H a = some o ∧ ((∃ xs, o = .lst xs) ∨ ∃ kvs, o = .dK kvs) := by
  obtain ⟨ws, S', rfl, h1, _, h2⟩ := h.ex
  intro a ha
  rcases List.mem_cons.mp ha with rfl | ha
  · exact ⟨_, h1, .inr ⟨_, rfl⟩⟩
  · obtain ⟨xs, e⟩ := h2.solid a ha
    exact ⟨_, e, .inl ⟨_, rfl⟩⟩
theorem soft_nt {o : HO} (h : (∃ xs, o = .lst xs) ∨ ∃ kvs, o = .dK kvs) : ∀ ps, o ≠ .tbl ps := fun ps z => by
  rcases h with ⟨_, e⟩ | ⟨_, e⟩ <;> (rw [e] at z; cases z)
theorem StAt.mem {K : PySem.W.Frag} {F H : Hp} {p : Addr} {m : MSt} {S : List Addr} (h : StAt K F H p m S) : p ∈ S := by
  obtain ⟨_, _, rfl, _⟩ := h.ex
  exact List.mem_cons_self
theorem Flds.mono {K : PySem.W.Frag} {F H F' H' : Hp} {ws : List V} {ds : List D} {S : List Addr} (sf : Sub F F') (sh : ∀ a ∈ S, ∀ xs, H a = some (.lst xs) → H' a = some (.lst xs)) (h : Flds K F H ws ds S) : Flds K F' H' ws ds S := by
  induction h with
  | nil => exact .nil
  | imm e r _ ih => exact .imm e (r.mono sf) (ih sh)
  | lst h r e _ ih => exact .lst (sh _ List.mem_cons_self _ h) (r.mono sf) e (ih fun a ha => sh a (List.mem_cons_of_mem _ ha))
section
variable {K : PySem.W.Frag} {T : List (Addr × Str)} {W : WX} {F0 G F H F1 H1 : Hp} {σ : L2.St} {ρ : Rho} {p : Addr} {m : MSt} {S : List Addr}
theorem StAt.nx (h : StAt K F H p m S) (n : Nx T F H F1 H1) : StAt K F1 H1 p m S where
  ex := by
    obtain ⟨ws, S', e, h1, hl, h2⟩ := h.ex
    exact ⟨ws, S', e, n.keep h1 (fun ps z => by cases z), hl, h2.mono n.f fun a _ xs e => n.keep e fun ps z => by cases z⟩
  nd := h.nd
  nk := h.nk
  out := fun a ha => by
    obtain ⟨o, h1, h2⟩ := h.solid a ha
    exact n.out h1 (soft_nt h2) (h.out a ha) fun xs z => by rcases h2 with ⟨_, e⟩ | ⟨_, e⟩ <;> (rw [e] at z; cases z)
/-! ### lent: the state stands in the frozen part for a while -/
def lend (F H : Hp) (S : List Addr) : Hp := fun a => if a ∈ S then H a else F a
theorem lend_in {a : Addr} (h : a ∈ S) : lend F H S a = H a := if_pos h
theorem lend_out {a : Addr} (h : a ∉ S) : lend F H S a = F a := if_neg h
theorem lend_sub (h : ∀ a ∈ S, F a = none) : Sub F (lend F H S) := fun a o e => by
  rw [lend_out fun z => by rw [h a z] at e; cases e]; exact e
theorem lend_z (z : Fz F H) (h : StAt K F H p m S) : Fz (lend F H S) H where
  sub := fun a o e => by
    by_cases ha : a ∈ S
    · rw [lend_in ha] at e; exact e
    · rw [lend_out ha] at e; exact z.sub a o e
  nt := fun a ps e => by
    by_cases ha : a ∈ S
    · rw [lend_in ha] at e
      obtain ⟨o, h1, h2⟩ := h.solid a ha
      rw [e] at h1; cases h1
      exact soft_nt h2 ps rfl
    · rw [lend_out ha] at e; exact z.nt a ps e
theorem lend_flds {ws : List V} {ds : List D} {S' : List Addr} (sb : ∀ a ∈ S', a ∈ S) (sf : Sub F (lend F H S)) (h : Flds K F H ws ds S') : RpAll K (lend F H S) ws ds := by
  induction h with
  | nil => exact .nil
  | imm e r _ ih => exact .cons (r.mono sf) (ih sb)
  | lst h r e _ ih => exact .cons (.lst (by rw [lend_in (sb _ List.mem_cons_self)]; exact h) (r.mono sf)) (ih fun a ha => sb a (List.mem_cons_of_mem _ ha))
theorem lend_rp (h : StAt K F H p m S) : Rp K (lend F H S) (.ref p) (.tab (some p) m.1 m.2) := by
  obtain ⟨ws, S', e, h1, hl, h2⟩ := h.ex
  exact .tab (fun q e => Option.some.inj e) (by rw [lend_in h.mem]; exact h1) hl (lend_flds (fun a ha => by rw [e]; exact List.mem_cons_of_mem _ ha) (lend_sub h.out) h2)
/-- given back: what was made stays frozen, the state does not -/
theorem cut_nx (h : StAt K F H p m S) (z : Fz F H) (n : Nx T (lend F H S) H F1 H1) : Nx T F H (cut F1 S) H1 where
  f := fun a o e => by
    have ha : a ∉ S := fun q => by rw [h.out a q] at e; cases e
    rw [cut_out ha]
    exact n.f a o (lend_sub h.out a o e)
  z := ⟨fun a o e => n.z.sub a o (cut_some e).2, fun a ps e => n.z.nt a ps (cut_some e).2⟩
  h := n.h
  new := fun a o e => by
    obtain ⟨ha, e⟩ := cut_some e
    rcases n.new a o e with q | q
    · rw [lend_out ha] at q; exact .inl q
    · exact .inr q
  tab := n.tab
end
end DN
namespace DN
open PySem PySem.Spec PyProof.Rows L2
open LamX (Tabs ExtN)

/-! ### M-mode: statements -/
inductive SM where
  | nx (ρ : Rho) (m : MSt) | fin (b : Bool) (m : MSt) | rt (d : D) | ex (n : Str) | bad
def Free (G : Hp) (S : List Addr) : Prop := ∀ a ∈ S, ∀ o, G a = some o → ∃ ps, o = HO.tbl ps
structure Mg (K : PySem.W.Frag) (T : List (Addr × Str)) (F0 G F H : Hp) (σ : L2.St) (ρ : Rho) (i : Nat) (p : Addr) (m : MSt) (S : List Addr) : Prop where
  at_ : At K T F H σ ρ
  nx : Nx T F0 G F H
  no : ∀ (j : Nat) (d : D), ρ[j]? ≠ some (En.o d)
  me : ρ[i]? = some (En.z (.adr p))
  st : StAt K F H p m S
  fr : Free G S
def aftM (K : PySem.W.Frag) (T : List (Addr × Str)) (W : WX) (F0 G F : Hp) (i : Nat) (p : Addr) (Z : Ends) : SM → Prop
  | .nx ρ m => ∀ σ F' H' S, Mg K T F0 G F' H' σ ρ i p m S → Sub F F' → Z.nx σ H'
  | .fin b m => ∀ F' H' S, Nx T F0 G F' H' → StAt K F' H' p m S → Free G S → Z.rt (if b = true then .ref p else .non) H'
  | .rt d => ∀ v F' H', Nx T F0 G F' H' → Rp K F' v d → Z.rt v H'
  | .ex n => ∀ σ F' H', Nx T F0 G F' H' → W (.ref (He.ga K n)) none σ H'
  | .bad => False
section
variable {K : PySem.W.Frag} {T : List (Addr × Str)} {W : WX} {F0 G F H F1 H1 : Hp} {σ : L2.St} {ρ : Rho} {i : Nat} {p : Addr} {m : MSt} {S : List Addr} {Z : Ends}
theorem aftM.mono {r : SM} (e : Sub F F1) (h : aftM K T W F0 G F i p Z r) : aftM K T W F0 G F1 i p Z r := by
  cases r with
  | nx ρ m => exact fun σ F' H' S g s => h σ F' H' S g (e.trans s)
  | fin b m => exact h
  | rt d => exact h
  | ex n => exact h
  | bad => exact h
theorem Mg.step (g : Mg K T F0 G F H σ ρ i p m S) (n : Nx T F H F1 H1) : Mg K T F0 G F1 H1 σ ρ i p m S := ⟨g.at_.nx n, g.nx.trans n, g.no, g.me, g.st.nx n, g.fr⟩
theorem Mg.sg (g : Mg K T F0 G F H σ ρ i p m S) : Sg K T F H F H σ ρ := ⟨g.at_, Nx.refl g.at_.z, fun j d q h1 => absurd h1 (g.no j d)⟩
end
def adrOf (i : Nat) (ρ : Rho) : Option Addr := match ρ[i]? with
  | some (.z (.adr p)) => some p
  | _ => none
theorem adrOf_me {i : Nat} {ρ : Rho} {p : Addr} (h : ρ[i]? = some (En.z (.adr p))) : adrOf i ρ = some p := by
  unfold adrOf; rw [h]
def lent (i : Nat) (ρ : Rho) (m : MSt) : Rho := match adrOf i ρ with
  | some p => ρ.set i (.z (.tab (some p) m.1 m.2))
  | none => ρ
section
variable {K : PySem.W.Frag} {T : List (Addr × Str)} {W : WX} {F0 G F H F1 H1 : Hp} {σ : L2.St} {ρ : Rho} {i : Nat} {p : Addr} {m : MSt} {S : List Addr} {Z : Ends}
theorem lent_me (h : ρ[i]? = some (En.z (.adr p))) : lent i ρ m = ρ.set i (.z (.tab (some p) m.1 m.2)) := by
  unfold lent; rw [adrOf_me h]
theorem Mg.lent (g : Mg K T F0 G F H σ ρ i p m S) : At K T (lend F H S) H σ (DN.lent i ρ m) := by
  rw [lent_me g.me]
  have sb := lend_sub (H := H) g.st.out
  obtain ⟨v, h1, h2⟩ := g.at_.r.z i _ g.me
  cases h2
  have r : Rl K (lend F H S) H σ ρ := ⟨g.at_.r.len, fun j d e => let ⟨v, h1, h2⟩ := g.at_.r.z j d e; ⟨v, h1, h2.mono sb⟩, fun j d e => absurd e (g.no j d), fun j k d e q1 q2 _ h => absurd h (g.no j d)⟩
  have il : i < ρ.length := (List.getElem?_eq_some_iff.mp g.me).1
  have e : σ.set i (some (V.ref p)) = σ := by
    refine List.ext_getElem? fun j => ?_
    rw [List.getElem?_set]
    split
    · rename_i hij; subst hij
      rw [if_pos (by rw [g.at_.r.len]; exact il), h1]
    · rfl
  have := r.set (i := i) (lend_rp g.st)
  rw [e] at this
  exact ⟨lend_z g.at_.z g.st, g.at_.t, this⟩
/-- an expression evaluated with the state lent -/
theorem Mg.back (g : Mg K T F0 G F H σ ρ i p m S) (n : Nx T (lend F H S) H F1 H1) : Mg K T F0 G (cut F1 S) H1 σ ρ i p m S ∧ Nx T F H (cut F1 S) H1 := ⟨g.step (cut_nx g.st g.at_.z n), cut_nx g.st g.at_.z n⟩
end
section
variable {X : Cx} {T : List (Addr × Str)} {W : WX} {F0 G : Hp} {i : Nat}
theorem Mg.adr {K : PySem.W.Frag} {F H : Hp} {σ : L2.St} {ρ : Rho} {p q : Addr} {m m' : MSt} {S S' : List Addr} {F1 H1 : Hp} (g : Mg K T F0 G F H σ ρ i p m S) (e : ρ[i]? = some (En.z (.adr q))) : p = q := by
  rw [g.me] at e; cases e; rfl
end
end DN
namespace DN
open PySem PySem.Spec PyProof.Rows L2
open LamX (Tabs ExtN)

/-! ### the state is changed -/
def fset {α : Type} : List Str → List α → Str → α → List α
  | k :: ks, w :: ws, x, v => (if k = x then v else w) :: fset ks ws x v
  | _, ws, _, _ => ws
def fget {α : Type} : List Str → List α → Str → Option α
  | k :: ks, w :: ws, x => if k = x then some w else fget ks ws x
  | _, _, _ => none
theorem fset_len {α : Type} : ∀ (ks : List Str) (ws : List α) (x : Str) (v : α), (fset ks ws x v).length = ws.length
  | [], _, _, _ => rfl
  | _ :: _, [], _, _ => rfl
  | k :: ks, w :: ws, x, v => by
    show (fset ks ws x v).length + 1 = ws.length + 1
    rw [fset_len ks ws x v]
theorem fset_out {α : Type} : ∀ (ks : List Str) (ws : List α) (x : Str) (v : α), x ∉ ks → fset ks ws x v = ws
  | [], _, _, _, _ => rfl
  | _ :: _, [], _, _, _ => rfl
  | k :: ks, w :: ws, x, v, h => by
    show (if k = x then v else w) :: fset ks ws x v = _
    rw [if_neg fun e => h (by rw [e]; exact List.mem_cons_self), fset_out ks ws x v fun e => h (List.mem_cons_of_mem _ e)]
theorem kv_any (x : Str) : ∀ (ks : List Str) (ws : List V), ks.length = ws.length → ((kvK ks ws).any fun kv => decide (kv.1 = Sum.inr x)) = decide (x ∈ ks)
  | [], [], _ => rfl
  | k :: ks, w :: ws, h => by
    show (decide ((Sum.inr k : Key) = Sum.inr x) || (kvK ks ws).any fun kv => decide (kv.1 = Sum.inr x)) = _
    rw [kv_any x ks ws (by simpa using h)]
    by_cases e : k = x
    · subst e; simp
    · have e2 : ¬ (Sum.inr k : Key) = Sum.inr x := fun z => e (Sum.inr.inj z)
      have e3 : ¬ x = k := fun z => e z.symm
      simp [e2, e3]
theorem put_kvK {x : Str} {v : V} {ks : List Str} {ws : List V} (hl : ks.length = ws.length) (hx : x ∈ ks) : putK (kvK ks ws) (Sum.inr x) v = kvK ks (fset ks ws x v) := by
  unfold putK
  rw [if_pos (by rw [kv_any x ks ws hl]; exact decide_eq_true hx)]
  clear hx
  induction ks generalizing ws with
  | nil => cases ws <;> rfl
  | cons k ks ih =>
    cases ws with
    | nil => rfl
    | cons w ws =>
      show (if (Sum.inr k : Key) = Sum.inr x then ((Sum.inr k : Key), v) else (Sum.inr k, w)) :: (kvK ks ws).map _ = (Sum.inr k, if k = x then v else w) :: kvK ks (fset ks ws x v)
      rw [ih (by simpa using hl)]
      by_cases e : k = x
      · subst e; rw [if_pos rfl, if_pos rfl]
      · rw [if_neg fun z => e (Sum.inr.inj z), if_neg e]
section
variable {K : PySem.W.Frag} {T : List (Addr × Str)} {W : WX} {F0 G F H F1 H1 : Hp} {σ : L2.St} {ρ : Rho} {i : Nat} {p : Addr} {m m' : MSt} {S S' : List Addr} {Z : Ends}
theorem Flds.length {ws : List V} {ds : List D} (h : Flds K F H ws ds S) : ws.length = ds.length := by
  induction h with
  | nil => rfl
  | imm _ _ _ ih => rw [List.length_cons, List.length_cons, ih]
  | lst _ _ _ _ ih => rw [List.length_cons, List.length_cons, ih]
theorem Flds.setI {ws : List V} {ds : List D} {x : Str} {v : V} {d : D} (hd : d.imm = true) (r : Rp K F v d) (h : Flds K F H ws ds S) : ∀ (ks : List Str), ∃ S', S'.Sublist S ∧ Flds K F H (fset ks ws x v) (fset ks ds x d) S' := by
  induction h with
  | nil => intro ks; cases ks <;> exact ⟨[], List.Sublist.refl _, .nil⟩
  | @imm v0 d0 vs ds S e r0 h ih =>
    intro ks
    cases ks with
    | nil => exact ⟨S, List.Sublist.refl _, .imm e r0 h⟩
    | cons k ks =>
      obtain ⟨S', s1, s2⟩ := ih ks
      refine ⟨S', s1, ?_⟩
      show Flds K F H ((if k = x then v else v0) :: _) ((if k = x then d else d0) :: _) S'
      by_cases hk : k = x
      · rw [if_pos hk, if_pos hk]; exact .imm hd r s2
      · rw [if_neg hk, if_neg hk]; exact .imm e r0 s2
  | @lst a xs es vs ds S hx r0 e h ih =>
    intro ks
    cases ks with
    | nil => exact ⟨_, List.Sublist.refl _, .lst hx r0 e h⟩
    | cons k ks =>
      obtain ⟨S', s1, s2⟩ := ih ks
      show ∃ S'', List.Sublist S'' (a :: S) ∧ Flds K F H ((if k = x then v else .ref a) :: _) ((if k = x then d else .lst es) :: _) S''
      by_cases hk : k = x
      · rw [if_pos hk, if_pos hk]; exact ⟨S', s1.cons _, .imm hd r s2⟩
      · rw [if_neg hk, if_neg hk]; exact ⟨a :: S', s1.cons_cons _, .lst hx r0 e s2⟩
theorem soft_code {o : HO} {a : Addr} (h : (∃ xs, o = .lst xs) ∨ ∃ kvs, o = .dK kvs) : ∀ q, o ≠ LamX.CodeO a q := fun q z => by
  unfold LamX.CodeO at z
  rcases h with ⟨_, e⟩ | ⟨_, e⟩ <;> (rw [e] at z; cases z)
theorem Mg.put {q : Addr} {o' : HO} (g : Mg K T F0 G F H σ ρ i p m S) (hq : q ∈ S) (st : StAt K F (upd H q o') p m' S') (fr : Free G S') : Mg K T F0 G F (upd H q o') σ ρ i p m' S' := by
  obtain ⟨o, h1, h2⟩ := g.st.solid q hq
  have fq := g.st.out q hq
  have z1 : Fz F (upd H q o') := ⟨fun b u eb => by
    rw [upd_ne fun z => by rw [z, fq] at eb; cases eb]; exact g.at_.z.sub _ _ eb, g.at_.z.nt⟩
  refine ⟨⟨z1, tabs_updG g.at_.t h1 (soft_nt h2) (soft_code h2), ⟨g.at_.r.len, g.at_.r.z, fun j d e => absurd e (g.no j d), fun j k d e q1 q2 _ h => absurd h (g.no j d)⟩⟩, ⟨g.nx.f, z1, fun b u eb no => ?_, g.nx.new, fun t => tabs_updG (g.nx.tab t) h1 (soft_nt h2) (soft_code h2)⟩, g.no, g.me, st, fr⟩
  rw [upd_ne fun z => by
    subst z
    obtain ⟨ps, k⟩ := g.fr b hq u eb
    exact no ps k]
  exact g.nx.h _ _ eb no
theorem StAt.setI {x : Str} {v : V} {d : D} (h : StAt K F H p m S) (hd : d.imm = true) (r : Rp K F v d) (hx : x ∈ m.1) : ∃ ws S', H p = some (.dK (kvK m.1 ws)) ∧ m.1.length = ws.length ∧ (∀ a ∈ S', a ∈ S) ∧ StAt K F (upd H p (.dK (putK (kvK m.1 ws) (Sum.inr x) v))) p (m.1, fset m.1 m.2 x d) S' := by
  obtain ⟨ws, S0, rfl, h1, hl, h2⟩ := h.ex
  obtain ⟨S', s1, s2⟩ := h2.setI hd r (x := x) m.1
  have nd := List.nodup_cons.mp h.nd
  refine ⟨ws, p :: S', h1, hl, fun a ha => ?_, ⟨_, S', rfl, by rw [upd_same, put_kvK hl hx], by rw [fset_len]; exact hl, s2.mono (Sub.refl F) fun a ha xs e => ?_⟩, ?_, fun a ha => ?_, h.nk⟩
  · rcases List.mem_cons.mp ha with z | z
    · rw [z]; exact List.mem_cons_self
    · exact List.mem_cons_of_mem _ (s1.subset z)
  · rw [upd_ne fun z => nd.1 (by rw [← z]; exact s1.subset ha)]; exact e
  · exact List.nodup_cons.mpr ⟨fun z => nd.1 (s1.subset z), nd.2.sublist s1⟩
  · rcases List.mem_cons.mp ha with z | z
    · rw [z]; exact h.out p List.mem_cons_self
    · exact h.out a (List.mem_cons_of_mem _ (s1.subset z))
end
section
variable {X : Cx} {T : List (Addr × Str)} {W : WX} {F0 G : Hp} {i : Nat}
end
end DN
namespace DN
open PySem PySem.Spec PyProof.Rows L2
open LamX (Tabs ExtN)

/-! ### a dict of text keys is read -/
section
variable {X : Cx} {T : List (Addr × Str)} {W : WX} {F0 G : Hp} {i : Nat}
/-! ### an own list of the state is changed -/
/-- the list of the field k -/
theorem Flds.at_ {K : PySem.W.Frag} {F H : Hp} {x : Str} {ws : List V} {ds : List D} {S : List Addr} (h : Flds K F H ws ds S) : S.Nodup → ∀ (ks : List Str), ks.Nodup → ∀ {es : List D}, fget ks ds x = some (.lst es) →
    ∃ a xs, fget ks ws x = some (.ref a) ∧ a ∈ S ∧ H a = some (.lst xs) ∧ RpAll K F xs es ∧ D.imms es = true ∧
      ∀ ys fs, RpAll K F ys fs → D.imms fs = true → Flds K F (upd H a (.lst ys)) ws (fset ks ds x (.lst fs)) S := by
  induction h with
  | nil => intro _ ks _ es e; cases ks <;> cases e
  | @imm v0 d0 vs ds S hi r0 h ih =>
    intro nd ks nk es e
    cases ks with
    | nil => cases e
    | cons k ks =>
      rw [List.nodup_cons] at nk
      have e : (if k = x then some d0 else fget ks ds x) = some (.lst es) := e
      by_cases hk : k = x
      · rw [if_pos hk] at e
        cases e
        unfold D.imm at hi; cases hi
      · rw [if_neg hk] at e
        obtain ⟨a, xs, h1, h2, h3, h4, h5, h6⟩ := ih nd ks nk.2 e
        refine ⟨a, xs, ?_, h2, h3, h4, h5, fun ys fs r hf => ?_⟩
        · show (if k = x then some v0 else fget ks vs x) = _
          rw [if_neg hk]; exact h1
        · show Flds K F _ _ ((if k = x then D.lst fs else d0) :: _) S
          rw [if_neg hk]
          exact .imm hi r0 (h6 ys fs r hf)
  | @lst a xs es0 vs ds S hx r0 hi h ih =>
    intro nd ks nk es e
    have nd' := List.nodup_cons.mp nd
    cases ks with
    | nil => cases e
    | cons k ks =>
      rw [List.nodup_cons] at nk
      have e : (if k = x then some (D.lst es0) else fget ks ds x) = some (.lst es) := e
      by_cases hk : k = x
      · rw [if_pos hk] at e
        cases e
        refine ⟨a, xs, ?_, List.mem_cons_self, hx, r0, hi, fun ys fs r hf => ?_⟩
        · show (if k = x then some (V.ref a) else fget ks vs x) = _
          rw [if_pos hk]
        · show Flds K F _ _ ((if k = x then D.lst fs else D.lst es0) :: fset ks ds x (.lst fs)) (a :: S)
          rw [if_pos hk, fset_out ks ds x _ (by rw [← hk]; exact nk.1)]
          exact .lst upd_same r hf (h.mono (Sub.refl F) fun b hb zs q => by rw [upd_ne fun z => nd'.1 (by rw [← z]; exact hb)]; exact q)
      · rw [if_neg hk] at e
        obtain ⟨b, zs, h1, h2, h3, h4, h5, h6⟩ := ih nd'.2 ks nk.2 e
        refine ⟨b, zs, ?_, List.mem_cons_of_mem _ h2, h3, h4, h5, fun ys fs r hf => ?_⟩
        · show (if k = x then some (V.ref a) else fget ks vs x) = _
          rw [if_neg hk]; exact h1
        · show Flds K F _ _ ((if k = x then D.lst fs else D.lst es0) :: _) (a :: S)
          rw [if_neg hk]
          exact .lst (by rw [upd_ne fun z => nd'.1 (by rw [z]; exact h2)]; exact hx) r0 hi (h6 ys fs r hf)
theorem StAt.at_ {K : PySem.W.Frag} {F H : Hp} {p : Addr} {m : MSt} {S : List Addr} {x : Str} {es : List D} (h : StAt K F H p m S) (e : fget m.1 m.2 x = some (.lst es)) :
    ∃ ws a xs, H p = some (.dK (kvK m.1 ws)) ∧ fget m.1 ws x = some (.ref a) ∧ a ∈ S ∧ H a = some (.lst xs) ∧ RpAll K F xs es ∧ D.imms es = true ∧
      ∀ ys fs, RpAll K F ys fs → D.imms fs = true → StAt K F (upd H a (.lst ys)) p (m.1, fset m.1 m.2 x (.lst fs)) S := by
  obtain ⟨ws, S0, rfl, h1, hl, h2⟩ := h.ex
  have nd := List.nodup_cons.mp h.nd
  obtain ⟨a, xs, k1, k2, k3, k4, k5, k6⟩ := h2.at_ nd.2 m.1 h.nk e
  refine ⟨ws, a, xs, h1, k1, List.mem_cons_of_mem _ k2, k3, k4, k5, fun ys fs r hf => ⟨⟨ws, S0, rfl, ?_, hl, k6 ys fs r hf⟩, h.nd, h.out, h.nk⟩⟩
  rw [upd_ne fun z => nd.1 (by rw [z]; exact k2)]; exact h1
end
end DN
namespace DN
open PySem PySem.Spec PyProof.Rows L2
open LamX (Tabs ExtN)

/-! ### procedures and makers -/
section
variable {K : PySem.W.Frag} {T : List (Addr × Str)} {W : WX} {F0 G F H F1 H1 : Hp} {σ : L2.St} {ρ : Rho} {i : Nat} {p : Addr} {m m' : MSt} {S S' : List Addr} {Z : Ends}
end
section
variable {X : Cx} {T : List (Addr × Str)} {W : WX} {F0 G : Hp} {i : Nat}
end
/-! a def whose body goes over to M-mode: for every address p -/
section
variable {P : Program} {w : World} {K : PySem.W.Frag} {mg : Str → Option Value} {base : Heap} {T : List (Addr × Str)} {k : Nat} {x qual : Str} {params : Arguments} {body : List Stmt} {scope : Scope} {kws : List (Str × V)} {f : Addr} {fd : FuncData} {N ps : List Str} {n i : Nat} {s : Rho → Addr → SM}
end
section
variable {X : Cx} {T : List (Addr × Str)} {W : WX} {F0 H0 : Hp} {i : Nat}
end
end DN
/-! M-mode: for, update, a state made by a display or by dict(pairs); own lists by +, * and by choice -/
namespace DN
open PySem PySem.Spec PyProof.Rows L2
open LamX (Tabs ExtN)

section
variable {X : Cx} {T : List (Addr × Str)} {W : WX} {F0 G : Hp} {i : Nat}
end
/-! ### own lists by + and *, and one of two -/
section
variable {X : Cx} {T : List (Addr × Str)} {W : WX} {F0 G : Hp} {i : Nat}
end
end DN
namespace DN
open PySem PySem.Spec PyProof.Rows L2
open LamX (Tabs ExtN)
section
variable {X : Cx} {T : List (Addr × Str)} {W : WX} {F0 G : Hp} {i : Nat}
theorem aftO.mono {K : PySem.W.Frag} {σ : L2.St} {F H F1 H1 : Hp} {Q : V → Hp → Prop} {r : Res D} (n : Nx T F H F1 H1) (h : aftO K T W σ F H Q r) : aftO K T W σ F1 H1 Q r := by
  cases r with
  | ok d =>
    cases d with
    | lst ds => exact fun p vs F' H' n2 hp hx rx fr => h p vs F' H' (n.trans n2) hp hx rx (back_tbl n.h fr)
    | _ => exact h
  | ex m => exact fun F' H' n2 => h F' H' (n.trans n2)
  | bad => exact h
end
end DN
/-! M-mode: the state's update; a state made by a display -/
namespace DN
open PySem PySem.Spec PyProof.Rows L2
open LamX (Tabs ExtN)
/-! ### a field put, there or not -/
def fput (m : MSt) (k : Str) (d : D) : MSt := if k ∈ m.1 then (m.1, fset m.1 m.2 k d) else (m.1 ++ [k], m.2 ++ [d])
theorem kv_snoc {x : Str} {v : V} : ∀ {ks : List Str} {ws : List V}, ks.length = ws.length → kvK (ks ++ [x]) (ws ++ [v]) = kvK ks ws ++ [(Sum.inr x, v)]
  | [], [], _ => rfl
  | k :: ks, w :: ws, h => by
    show (Sum.inr k, w) :: kvK (ks ++ [x]) (ws ++ [v]) = (Sum.inr k, w) :: (kvK ks ws ++ [(Sum.inr x, v)])
    rw [kv_snoc (by simpa using h)]
theorem put_kvN {x : Str} {v : V} {ks : List Str} {ws : List V} (hl : ks.length = ws.length) (hx : x ∉ ks) : putK (kvK ks ws) (Sum.inr x) v = kvK (ks ++ [x]) (ws ++ [v]) := by
  unfold putK
  rw [if_neg (by rw [kv_any x ks ws hl]; simpa using hx), kv_snoc hl]
section
variable {K : PySem.W.Frag} {T : List (Addr × Str)} {W : WX} {F0 G F H F1 H1 : Hp} {σ : L2.St} {ρ : Rho} {i : Nat} {p : Addr} {m m' : MSt} {S S' : List Addr} {Z : Ends}
theorem Flds.snoc {ws : List V} {ds : List D} {v : V} {d : D} (hd : d.imm = true) (r : Rp K F v d) (h : Flds K F H ws ds S) : Flds K F H (ws ++ [v]) (ds ++ [d]) S := by
  induction h with
  | nil => exact .imm hd r .nil
  | imm e r0 _ ih => exact .imm e r0 ih
  | lst hx r0 e _ ih => exact .lst hx r0 e ih
theorem StAt.kvs (h : StAt K F H p m S) : ∃ ws, H p = some (.dK (kvK m.1 ws)) ∧ m.1.length = ws.length := by
  obtain ⟨ws, S0, _, h1, hl, _⟩ := h.ex
  exact ⟨ws, h1, hl⟩
theorem StAt.put1 {x : Str} {v : V} {d : D} {kvs : List (Key × V)} (h : StAt K F H p m S) (hk : H p = some (.dK kvs)) (hd : d.imm = true) (r : Rp K F v d) : ∃ S', (∀ a ∈ S', a ∈ S) ∧ StAt K F (upd H p (.dK (putK kvs (Sum.inr x) v))) p (fput m x d) S' := by
  unfold fput
  by_cases hx : x ∈ m.1
  · rw [if_pos hx]
    obtain ⟨ws, S', h1, hl, h2, h3⟩ := h.setI hd r hx
    rw [hk] at h1
    cases h1
    exact ⟨S', h2, h3⟩
  · rw [if_neg hx]
    obtain ⟨ws, S0, rfl, h1, hl, h2⟩ := h.ex
    rw [hk] at h1
    cases h1
    have nd := List.nodup_cons.mp h.nd
    refine ⟨p :: S0, fun a ha => ha, ⟨_, S0, rfl, by rw [upd_same, put_kvN hl hx], by rw [List.length_append, List.length_append, hl]; rfl, (h2.snoc hd r).mono (Sub.refl F) fun a ha xs e => ?_⟩, h.nd, h.out, ?_⟩
    · rw [upd_ne fun z => nd.1 (by rw [← z]; exact ha)]; exact e
    · show (m.1 ++ [x]).Nodup
      rw [List.nodup_append]
      refine ⟨h.nk, by simp, fun a ha b hb z => ?_⟩
      simp at hb
      subst hb; subst z
      exact hx ha
theorem upd_upd {a : Addr} {o o' : HO} : upd (upd H a o) a o' = upd H a o' := by
  funext b
  by_cases e : b = a
  · subst e; rw [upd_same, upd_same]
  · rw [upd_ne e, upd_ne e, upd_ne e]
end
section
variable {X : Cx} {T : List (Addr × Str)} {W : WX} {F0 G : Hp} {i : Nat}
end
/-! ### a state made by a display -/
section
variable {X : Cx} {T : List (Addr × Str)} {W : WX} {F0 G : Hp} {i : Nat}
end
end DN
/-! list(zip(a, b)): every pair that was handed out is still held by the list -/
namespace DN
open PySem PySem.Spec PyProof.Rows L2
open LamX (Tabs ExtN)
namespace LZ
/-- a zip whose pair T is out -/
abbrev Out (h : Heap) (z TI TO T : Addr) (f : Bool) : Prop := h.get? z = some { cls := .type "zip", data := .fields #[rawInt T, .bool f, .bool false, .ref TI, .ref TO] }
section
variable {prog : Program} {w : World} {A : Around} {E : Value → Shared → Prop} {s : Shared} {z TI TO i1 i2 T : Addr} {fp1 fp2 : List Addr} {n1 n2 i : Nat} {P1 P2 : Nat → Value → Prop} {St1 St2 : Nat → Heap → Prop} {a1 a2 : Value} {f : Bool}
/-- behind i pairs, which stand at as -/
structure At (z TI TO i1 i2 lo : Addr) (P1 P2 : Nat → Value → Prop) (St1 St2 : Nat → Heap → Prop) (h : Heap) (i : Nat) (as : List Addr) : Prop where
  own : (i = 0 ∧ IsZip h z TI TO .none ∧ ∃ a b, IsTupOf2 h TO a b) ∨ ∃ T f, Out h z TI TO T f ∧ T ∈ as
  ti : IsTupOf2 h TI (.ref i1) (.ref i2)
  s1 : St1 i h
  s2 : St2 i h
  len : as.length = i
  up : as.Pairwise (· < ·)
  lo_le : lo ≤ h.objs.size
  new : ∀ a ∈ as, lo ≤ a
  two : ∀ j a, as[j]? = some a → ∃ x y, IsTupOf2 h a x y ∧ P1 j x ∧ P2 j y
abbrev lst (xs : List Value) (c : Nat) : Obj := { cls := .type "list", dict := none, data := .seq xs.toArray c, slots := #[] }
/-- a list's cell is written twice and stands as before -/
theorem touch {L : Addr} {xs : List Value} {c : Nat} {Q : Unit → Shared → Prop} (hL : s.heap.get? L = some (lst xs c)) (hx : xs.length + 1 ≤ sizeLine) (hQ : ∀ h' c', h'.get? L = some (lst xs c') → Heap.SameBut L s.heap h' → Q () { s with heap := h' }) : wpAny (model prog w) A (Builtin.List.listTouch (.ref L)) Q E s := by
  show wpAny _ _ (updateSeq L (·.push .none) >>= fun _ => updateSeq L (·.pop)) _ _ s
  refine wpAny_bind (wpAny_updateSeq hL rfl ?_ (by rw [List.size_toArray]; omega) (by rw [Array.size_push, List.size_toArray]; omega))
  have h1 := Heap.get?_update_self (Obj.mapSeq (·.push Value.none)) hL rfl
  have e1 : Obj.mapSeq (·.push Value.none) (lst xs c) = lst (xs ++ [.none]) (c + 1) := by simp [Obj.mapSeq]
  rw [e1] at h1
  refine wpAny_updateSeq h1 rfl (hQ _ (c + 2) ?_ ⟨(Heap.SameBut.update ..).1.trans (Heap.SameBut.update ..).1, fun b hb => ?_⟩) (by rw [List.size_toArray, List.length_append]; simp; omega) (by rw [Array.size_pop, List.size_toArray, List.length_append]; simp; omega)
  · rw [Heap.get?_update_self (Obj.mapSeq (·.pop)) h1 rfl]
    simp [Obj.mapSeq]
  · rw [Heap.get?_update_other _ _ (Ne.symm hb), Heap.get?_update_other _ _ (Ne.symm hb)]
end
end LZ
end DN
/-! list(zip(a, b)) and dict(pairs) by data -/
namespace DN
open PySem PySem.Spec PyProof.Rows L2
open LamX (Tabs ExtN)
section
variable {X : Cx} {T : List (Addr × Str)} {W : WX}
def Pr (H : Hp) : List Addr → List (V × V) → Prop := Paired fun t q => H t = some (.tup [q.1, q.2])
end
/-! ### by data -/
theorem Nx.many {T : List (Addr × Str)} {F H H' : Hp} {N : List Addr} (z : Fz F H) (kp : ∀ b o, H b = some o → H' b = some o) (hn : ∀ a ∈ N, H a = none) (hs : ∀ a ∈ N, ∃ o, H' a = some o ∧ ∀ ps, o ≠ .tbl ps) : Nx T F H (fun a => if a ∈ N then H' a else F a) H' := by
  refine ⟨fun a o e => ?_, ⟨fun a o e => ?_, fun a ps e => ?_⟩, fun b u e _ => kp b u e, fun a o e => ?_, fun t => t.ext fun b u e => kp b u e⟩
  · have : a ∉ N := fun q => by have := z.sub _ _ e; rw [hn a q] at this; cases this
    show (if a ∈ N then H' a else F a) = some o
    rw [if_neg this]; exact e
  · have e : (if a ∈ N then H' a else F a) = some o := e
    split at e
    · exact e
    · exact kp _ _ (z.sub _ _ e)
  · have e : (if a ∈ N then H' a else F a) = some (.tbl ps) := e
    split at e
    · rename_i q
      obtain ⟨o, h1, h2⟩ := hs a q
      rw [h1] at e
      exact h2 ps (Option.some.inj e)
    · exact z.nt _ _ e
  · have e : (if a ∈ N then H' a else F a) = some o := e
    split at e
    · rename_i q
      exact .inr fun o' e' => by rw [hn a q] at e'; cases e'
    · exact .inl e
theorem Pr.all {H' : Hp} : ∀ {ts : List Addr} {qs : List (V × V)}, Pr H' ts qs → ∀ t ∈ ts, ∃ vs, H' t = some (.tup vs)
  | _, _, .nil, t, h => by cases h
  | _, _, .cons h1 h2, t, h => by
    rcases List.mem_cons.mp h with e | e
    · rw [e]; exact ⟨_, h1⟩
    · exact Pr.all h2 t e
section
variable {X : Cx} {T : List (Addr × Str)} {W : WX} {F0 G : Hp} {i : Nat}
end
/-! ### dict(pairs) -/
section
variable {X : Cx} {T : List (Addr × Str)} {W : WX} {F0 G : Hp} {i : Nat}
end
end DN
/-! M-mode where a token is out -/
namespace DN
open PySem PySem.Spec PyProof.Rows L2
open LamX (Tabs ExtN)
section
variable {X : Cx} {T : List (Addr × Str)} {W : WX} {F0 G : Hp} {i : Nat}
end
/-! x = e (lent), then f(state, .. x ..) -/
section
variable {X : Cx} {T : List (Addr × Str)} {W : WX} {F0 G : Hp} {i : Nat}
end
end DN
/-! a law whose body goes over to M-mode; evaluating M-mode -/
namespace DN
open PySem PySem.Spec PyProof.Rows L2
open LamX (Tabs ExtN)
/-! ### evaluating -/
section
variable {i n : Nat} {ρ : Rho} {m : MSt} {p : Addr}
end
end DN
/-! a tuple taken once, or not at all -/
namespace DN
open PySem PySem.Spec PyProof.Rows L2
open LamX (Tabs ExtN)
/-- t * 1 is t itself -/
theorem mul_one_meets {l : Addr} {ob : Obj} {items : Array Value} {n : Nat} {u : Tok} (hc : ob.cls = .type "tuple") (hd : ob.data = .seq items n) : Meets (Builtin.«tuple.__mul__» ⟨[.ref l, .int 1 u], []⟩) (fun _ R s => s.heap.get? l = some ob ∧ R (.ok (.ret (.ref l))) s) :=
  .of_wp fun prog w A R s h => by
    obtain ⟨hp, g, d, tk, os⟩ := s
    obtain ⟨hl, h⟩ := h
    obtain ⟨c, dc, dat, sl⟩ := ob
    simp only at hc hd
    subst hc hd
    have f1 := AutoSeq1.idx_int
    wp_walk using wpAny_loadPart' hl
    exact ⟨_, rfl, h⟩
/-- t * 0 is a tuple of nothing -/
theorem mul_nought_meets {l : Addr} {ob : Obj} {items : Array Value} {n : Nat} {u : Tok} (hc : ob.cls = .type "tuple") (hd : ob.data = .seq items n) (hi : items.isEmpty = false) : Meets (Builtin.«tuple.__mul__» ⟨[.ref l, .int 0 u], []⟩) (fun _ R s => s.heap.get? l = some ob ∧ R (.ok (.ret (.ref s.heap.objs.size))) { s with heap := s.heap.push { cls := .type "tuple", data := .seq #[] } }) :=
  .of_wp fun prog w A R s h => by
    obtain ⟨hp, g, d, tk, os⟩ := s
    obtain ⟨hl, h⟩ := h
    obtain ⟨c, dc, dat, sl⟩ := ob
    simp only at hc hd
    subst hc hd
    have f1 := AutoSeq1.idx_int
    have e1 : (items.isEmpty || (0 : Int) == 1) = false := by rw [hi]; rfl
    wp_walk using wpAny_loadPart' hl
    exact ⟨_, rfl, h⟩
def mul01D : D → D → Option D
  | .tup (x :: xs), .int k => if k = 1 then some (.tup (x :: xs)) else if k = 0 then some (.tup []) else none
  | _, _ => none
section
variable {X : Cx} {T : List (Addr × Str)} {W : WX}
theorem o_mul01 : OpR X (binaryOp .Mult) (rD2 X.K T mul01D) := by
  intro pins s σ H x y v u Q I rx ry h
  obtain ⟨Fz', d, e, z, hz, rd, re, hG, q⟩ := h
  unfold mul01D at hG
  split at hG
  · rename_i d0 ds k
    cases rd with
    | @tup a xs _ h1 r1 =>
      cases re
      cases rx
      obtain ⟨t, rfl⟩ := ry
      obtain ⟨its, r, ⟨⟨cls, dd, data, sl⟩, ho, hc, n, hd⟩, hs⟩ := I.tuple (hz.sub.st h1)
      simp only at hc hd
      subst hc hd
      have hi : its.toArray.isEmpty = false := by
        cases r1 with
        | cons _ _ =>
          cases r with
          | cons _ _ => rfl
      split at hG
      · rename_i hk
        subst hk
        cases hG
        refine wpAny_binaryOp_repeat_ref (T := "tuple") (U := "int") (by decide) ⟨_, ho, rfl⟩ (fun s' => typeIs_int s' 1 t) noFill_tuple_mul F.fills_int_mul F.slot_int_rmul repeat_tuple F.slot_int_index.lookup
          (call_meets F.slot_int_rmul (typeIs_int s 1 t) F.entry_int_rmul (F.args_int_rmul_2 _ _) (int_rmul_tuple 1 t a its.toArray n dd sl) ⟨ho, rfl, ⟨_, ho, rfl⟩, call_meets F.slot_tuple_mul ⟨_, ho, rfl⟩ F.entry_tuple_mul (F.args_tuple_mul_2 _ _) (mul_one_meets rfl rfl) ⟨ho, ?_⟩⟩)
        exact ⟨.ref a, H, I, rfl, done0 hz q (.tup h1 r1)⟩
      · split at hG
        · rename_i hk
          subst hk
          cases hG
          refine wpAny_binaryOp_repeat_ref (T := "tuple") (U := "int") (by decide) ⟨_, ho, rfl⟩ (fun s' => typeIs_int s' 0 t) noFill_tuple_mul F.fills_int_mul F.slot_int_rmul repeat_tuple F.slot_int_index.lookup
            (call_meets F.slot_int_rmul (typeIs_int s 0 t) F.entry_int_rmul (F.args_int_rmul_2 _ _) (int_rmul_tuple 0 t a its.toArray n dd sl) ⟨ho, rfl, ⟨_, ho, rfl⟩, call_meets F.slot_tuple_mul ⟨_, ho, rfl⟩ F.entry_tuple_mul (F.args_tuple_mul_2 _ _) (mul_nought_meets rfl rfl hi) ⟨ho, ?_⟩⟩)
          have hf := I.hok.fresh (Nat.le_refl s.heap.objs.size)
          exact ⟨.ref s.heap.objs.size, _, I.laid (t' := s.toks) (o := .tup []) (fun b ob q => Heap.get?_push_of_some _ q) (Nat.le_refl _) ⟨Nat.zero_le _, [], .nil, IsTup.new _ _⟩, rfl, donep hz hf ntT q (rp_tup hz hf .nil)⟩
        · cases hG
  · cases hG
end
end DN
/-! enumerate of a tuple -/
namespace DN
open PySem PySem.Spec PyProof.Rows L2
/-! .. as data -/
open LamX (Tabs ExtN)
section
variable {X : Cx} {T : List (Addr × Str)} {W : WX}
end
end DN
/-! a lambda with one parameter, handed to a def: within the call it belongs to the base -/
namespace DN
open PySem PySem.Spec PyProof.Rows L2
open LamX (Tabs ExtN CodeO TabB)
open NdefX (NF NScope CellsAt Caps envF ncx startF)

/-! ### a part of a heap -/
open Classical in
noncomputable def only (h : Heap) (S : Addr → Prop) : Heap := ⟨h.objs.mapIdx fun i o => if S i then o else { o with data := .freed }, h.life⟩
/-! ### less is frozen -/
def Most (F G : Hp) : Prop := ∀ a o, F a = some o → (∀ φ, o ≠ .ext φ) → G a = some o
theorem Most.rd {F G : Hp} (m : Most F G) {a : Addr} {u : HO} (hu : ∀ φ, u ≠ .ext φ) (h : Rd F a u) : Rd G a u := by
  rcases h with h | ⟨o, h⟩
  · exact .inl (m _ _ h hu)
  · exact .inr ⟨o, m _ _ h fun φ z => by cases z⟩
mutual
theorem Rp.less {K : PySem.W.Frag} {F G : Hp} (m : Most F G) : ∀ {v : V} {d : D}, Rp K F v d → Rp K G v d
  | _, _, .non => .non
  | _, _, .bl b => .bl b
  | _, _, .int i => .int i
  | _, _, .str x => .str x
  | _, _, .fn x => .fn x
  | _, _, .ty n => .ty n
  | _, _, .lst h t => .lst (m _ _ h fun φ z => by cases z) (RpAll.less m t)
  | _, _, .tup h t => .tup (h.elim (fun h => .inl (m.rd (fun φ z => by cases z) h)) .inr) (RpAll.less m t)
  | _, _, .dK h => .dK (m _ _ h fun φ z => by cases z)
  | _, _, .dT ⟨od, h⟩ => .dT ⟨od, m _ _ h fun φ z => by cases z⟩
  | _, _, .arr h => .arr (h.elim (fun h => .inl (m.rd (fun φ z => by cases z) h)) .inr)
  | _, _, .pro ⟨o, h1, h2, h3⟩ => .pro ⟨o, h1, h2, m _ _ h3 fun φ z => by cases z⟩
  | _, _, .adr a => .adr a
  | _, _, .tab h1 h2 h3 t => .tab h1 (m _ _ h2 fun φ z => by cases z) h3 (RpAll.less m t)
  | _, _, .pw h => .pw (m _ _ h fun φ z => by cases z)
  | _, _, .frm ⟨o, h1, h2, h3⟩ t => .frm ⟨o, h1, h2, m _ _ h3 fun φ z => by cases z⟩ (RpAll.less m t)
theorem RpAll.less {K : PySem.W.Frag} {F G : Hp} (m : Most F G) : ∀ {vs : List V} {ds : List D}, RpAll K F vs ds → RpAll K G vs ds
  | _, _, .nil => .nil
  | _, _, .cons h t => .cons (Rp.less m h) (RpAll.less m t)
end
/-! ### the lambda in the base -/
structure LamB (base : Heap) (f c : Addr) (q : Str) (params : Arguments) (body : Expr) (scope : Scope) (cl : List (Str × Addr)) (y : Str) (n : Int) : Prop where
  fn : ∃ pm ctv, base.get? f = some (PySem.W.kla_obj "<lambda>" q params body scope cl pm c ctv)
  code : base.CodeRec (.ref c) q
  cells : ∀ z a, cl.lookup z = some a → ∃ v, base.IsCell a v
  inj : ∀ z z' a, cl.lookup z = some a → cl.lookup z' = some a → z = z'
  val : ∃ a t, cl.lookup y = some a ∧ base.IsCell a (some (.int n t))
theorem LamB.at {base h : Heap} {H : Hp} {f c : Addr} {q : Str} {params : Arguments} {body : Expr} {scope : Scope} {cl : List (Str × Addr)} {y : Str} {n : Int} (B : LamB base f c q params body scope cl y n) (k : ∀ b o, base.get? b = some o → h.get? b = some o ∧ H b = none) :
    CellsAt cl [y] [some (.int n)] h H := by
  refine ⟨rfl, fun z a e => ?_, B.inj, fun i z e => ?_⟩
  · obtain ⟨v, o, ho, hd⟩ := B.cells z a e
    exact ⟨(k _ _ ho).2, v, o, (k _ _ ho).1, hd⟩
  · cases i with
    | zero =>
      cases e
      obtain ⟨a, t, e1, o, ho, hd⟩ := B.val
      refine ⟨a, e1, fun v hv => ?_⟩
      cases hv
      exact ⟨.int n t, ⟨t, rfl⟩, o, (k _ _ ho).1, hd⟩
    | succ i => simp at e
/-! ### the call that hands it over -/
section
variable {K : PySem.W.Frag} {P0 : Program} {w : World} {q : Str} {F H H1 H' F' : Hp} {c P : Addr} {h h' : Heap}
end
end DN
/-! R-mode: one slot holds a reader (an instance with the fields text, at), which calls change -/
namespace DN
open PySem PySem.Spec PyProof.Rows L2
open LamX (Tabs ExtN)

abbrev RSt := Str × Int
inductive RR (α : Type) where
  | ok (a : α) (m : RSt) | ex (n : Str) | bad
def RR.bind {α β : Type} : RR α → (α → RSt → RR β) → RR β
  | .ok a m, f => f a m
  | .ex n, _ => .ex n
  | .bad, _ => .bad
def rdO (K : PySem.W.Frag) (dx : Addr) (m : RSt) : HO := .ins (He.ga K "Reader") dx [("text", .str m.1), ("at", .int m.2)]
def RdAt (K : PySem.W.Frag) (H : Hp) (p : Addr) (m : RSt) : Prop := ∃ dx, H p = some (rdO K dx m)
theorem rdO_nt {K : PySem.W.Frag} {dx : Addr} {m : RSt} : ∀ ps, rdO K dx m ≠ .tbl ps := fun ps z => by unfold rdO at z; cases z
theorem rdO_tup {K : PySem.W.Frag} {dx : Addr} {m : RSt} : ∀ xs, rdO K dx m ≠ .tup xs := fun ps z => by unfold rdO at z; cases z
/-- H without p -/
def mask (H : Hp) (p : Addr) : Hp := fun b => if b = p then none else H b
theorem mask_of {H : Hp} {p b : Addr} (h : b ≠ p) : mask H p b = H b := if_neg h
structure Rg (K : PySem.W.Frag) (T : List (Addr × Str)) (F0 G F H : Hp) (σ : L2.St) (ρ : Rho) (i : Nat) (p : Addr) (m : RSt) : Prop where
  at_ : At K T F H σ ρ
  nx : Nx T F0 G F H
  no : ∀ (j : Nat) (d : D), ρ[j]? ≠ some (En.o d)
  me : σ[i]? = some (some (.ref p))
  st : RdAt K H p m
  fF : F p = none
  fG : ∀ o, G p = some o → ∃ ps, o = .tbl ps
def aftR {α β : Type} (R : Hp → α → β → Prop) (K : PySem.W.Frag) (T : List (Addr × Str)) (E : XK) (F0 G F : Hp) (i : Nat) (σ : L2.St) (ρ : Rho) (p : Addr) (Q : α → Hp → Prop) : RR β → Prop
  | .ok b m => ∀ a F' H', Rg K T F0 G F' H' σ ρ i p m → Sub F F' → R F' a b → Q a H'
  | .ex n => ∀ F' H', Nx T F0 G F' H' → Tabs T H' → Sub F F' → E (.ref (He.ga K n)) none H'
  | .bad => False
section
variable {K : PySem.W.Frag} {T : List (Addr × Str)} {E : XK} {F0 G F H F1 H1 : Hp} {σ : L2.St} {ρ : Rho} {i : Nat} {p : Addr} {m : RSt}
theorem Rg.step (g : Rg K T F0 G F H σ ρ i p m) (n : Nx T F H F1 H1) : Rg K T F0 G F1 H1 σ ρ i p m := by
  obtain ⟨dx, h⟩ := g.st
  exact ⟨g.at_.nx n, g.nx.trans n, g.no, g.me, ⟨dx, n.keep h rdO_nt⟩, n.out h rdO_nt g.fF rdO_tup, g.fG⟩
theorem aftR.mono {α β : Type} {R : Hp → α → β → Prop} {Q : α → Hp → Prop} {r : RR β} (e : Sub F F1) (h : aftR R K T E F0 G F i σ ρ p Q r) : aftR R K T E F0 G F1 i σ ρ p Q r := by
  cases r with
  | ok b m => exact fun a F' H' g s => h a F' H' g (e.trans s)
  | ex n => exact fun F' H' g t s => h F' H' g t (e.trans s)
  | bad => exact h
theorem aftR.bind {α β γ δ : Type} {R : Hp → α → β → Prop} {S : Hp → γ → δ → Prop} {Q : γ → Hp → Prop} {r : RR β} {k : β → RSt → RR δ} (h : aftR S K T E F0 G F i σ ρ p Q (r.bind k)) :
    aftR R K T E F0 G F i σ ρ p (fun a H1 => ∃ b m1 F1, Sub F F1 ∧ Rg K T F0 G F1 H1 σ ρ i p m1 ∧ R F1 a b ∧ aftR S K T E F0 G F1 i σ ρ p Q (k b m1)) r := by
  cases r with
  | ok b m => exact fun a F2 H2 g s ra => ⟨b, m, F2, s, g, ra, aftR.mono s h⟩
  | ex n => exact h
  | bad => exact h
theorem aftR.imp {α β : Type} {R : Hp → α → β → Prop} {Q Q' : α → Hp → Prop} {r : RR β} (h : aftR R K T E F0 G F i σ ρ p Q r) (hq : ∀ a H', Q a H' → Q' a H') : aftR R K T E F0 G F i σ ρ p Q' r := by
  cases r with
  | ok b m => exact fun a F' H' g s ra => hq a H' (h a F' H' g s ra)
  | ex n => exact h
  | bad => exact h
end
section
variable {X : Cx} {T : List (Addr × Str)} {E : XK} {F0 G : Hp} {i : Nat}
end
/-! ### statements -/
inductive SRR where
  | nx (ρ : Rho) (m : RSt) | rt (d : D) (m : RSt) | ex (n : Str) | bad
def bindRS {α : Type} (r : RR α) (k : α → RSt → SRR) : SRR := match r with
  | .ok a m => k a m
  | .ex n => .ex n
  | .bad => .bad
def aftRS (K : PySem.W.Frag) (T : List (Addr × Str)) (E : XK) (F0 G F : Hp) (i : Nat) (p : Addr) (Z : Ends) : SRR → Prop
  | .nx ρ m => ∀ σ F' H', Rg K T F0 G F' H' σ ρ i p m → Sub F F' → Z.nx σ H'
  | .rt d m => ∀ v F' H', Nx T F0 G F' H' → RdAt K H' p m → F' p = none → Rp K F' v d → Z.rt v H'
  | .ex n => ∀ F' H', Nx T F0 G F' H' → Tabs T H' → Sub F F' → E (.ref (He.ga K n)) none H'
  | .bad => False
section
variable {K : PySem.W.Frag} {T : List (Addr × Str)} {E : XK} {F0 G F H F1 H1 : Hp} {σ : L2.St} {ρ : Rho} {i : Nat} {p : Addr} {m : RSt} {Z : Ends}
theorem aftRS.mono {r : SRR} (e : Sub F F1) (h : aftRS K T E F0 G F i p Z r) : aftRS K T E F0 G F1 i p Z r := by
  cases r with
  | nx ρ m => exact fun σ F' H' g s => h σ F' H' g (e.trans s)
  | rt d m => exact h
  | ex n => exact fun F' H' g t s => h F' H' g t (e.trans s)
  | bad => exact h
theorem aftRS.bind {α β : Type} {R : Hp → α → β → Prop} {r : RR β} {k : β → RSt → SRR} (h : aftRS K T E F0 G F i p Z (bindRS r k)) :
    aftR R K T E F0 G F i σ ρ p (fun a H1 => ∃ b m1 F1, Sub F F1 ∧ Rg K T F0 G F1 H1 σ ρ i p m1 ∧ R F1 a b ∧ aftRS K T E F0 G F1 i p Z (k b m1)) r := by
  cases r with
  | ok b m => exact fun a F2 H2 g s ra => ⟨b, m, F2, s, g, ra, aftRS.mono s h⟩
  | ex n => exact h
  | bad => exact h
end
section
variable {X : Cx} {T : List (Addr × Str)} {E : XK} {F0 G : Hp} {i : Nat}
theorem Rg.put {K : PySem.W.Frag} {F H : Hp} {σ : L2.St} {ρ : Rho} {p : Addr} {m : RSt} {j : Nat} {v : V} {d : D} (g : Rg K T F0 G F H σ ρ i p m) (hj : j ≠ i) (r : Rp K F v d) : Rg K T F0 G F H (σ.set j (some v)) (ρ.set j (.z d)) i p m := by
  refine ⟨⟨g.at_.z, g.at_.t, g.at_.r.set r⟩, g.nx, fun k d' e => ?_, ?_, g.st, g.fF, g.fG⟩
  · rw [List.getElem?_set] at e
    split at e
    · split at e <;> cases e
    · exact g.no k d' e
  · rw [List.getElem?_set, if_neg hj]
    exact g.me
/-! self.at = e -/
theorem rdO_code {K : PySem.W.Frag} {dx a : Addr} {m : RSt} : ∀ q, rdO K dx m ≠ LamX.CodeO a q := fun q z => by unfold rdO LamX.CodeO at z; cases z
end
/-! ### methods -/
section
variable {K : PySem.W.Frag} {T : List (Addr × Str)} {E : XK} {F0 G F H F1 H1 : Hp} {σ : L2.St} {ρ : Rho} {i : Nat} {p : Addr} {m : RSt}
theorem mask_tabs (h : RdAt K H p m) (t : Tabs T H) : Tabs T (mask H p) := fun q hq => by
  obtain ⟨dx, h⟩ := h
  obtain ⟨ps, k1, k2, k3⟩ := t q hq
  refine ⟨ps, by rw [mask_of fun z => by rw [z, h] at k1; exact rdO_nt ps (Option.some.inj k1)]; exact k1, k2, fun pos cv hc => ?_⟩
  obtain ⟨c, e1, e2⟩ := k3 pos cv hc
  exact ⟨c, e1, by rw [mask_of fun z => by rw [z, h] at e2; exact rdO_code _ (Option.some.inj e2)]; exact e2⟩
/-- a call's changes behind what was there -/
theorem Nx.over (n1 : Nx T F0 G F H) (fG : ∀ o, G p = some o → ∃ ps, o = .tbl ps) (st : RdAt K H p m) (n2 : Nx T F (mask H p) F1 H1) : Nx T F0 G F1 H1 := by
  refine ⟨n1.f.trans n2.f, n2.z, fun b o e nt => ?_, fun a o e => ?_, fun t => n2.tab (mask_tabs st (n1.tab t))⟩
  · refine n2.h b o ?_ nt
    rw [mask_of fun z => by
      rw [z] at e
      obtain ⟨ps, w⟩ := fG o e
      exact nt ps w]
    exact n1.h b o e nt
  · rcases n2.new a o e with q | q
    · exact n1.new a o q
    · refine .inr fun o' e' => ?_
      by_cases w : ∃ ps, o' = .tbl ps
      · exact .inl w
      · refine q o' ?_
        rw [mask_of fun z => by
          rw [z] at e'
          exact w (fG o' e')]
        exact n1.h a o' e' fun ps z => w ⟨ps, z⟩
end
section
variable {X : Cx} {T : List (Addr × Str)} {E : XK} {F0 G : Hp} {i : Nat}
end
/-! ### a new reader -/
section
variable {X : Cx} {T : List (Addr × Str)} {E : XK} {F0 H0 : Hp}
end
end DN
/-! books: dicts whose keys are tuples of ints -/
namespace DN
open PySem PySem.Spec PyProof.Rows L2
open LamX (Tabs ExtN)
def kI (ks : List Int) : List Key := ks.map Sum.inl
def intsOf : List Key → Option (List Int)
  | [] => some []
  | .inl i :: r => (intsOf r).map fun l => i :: l
  | _ => none
def vInt : V → Option D
  | .int i => some (.int i)
  | _ => none
def getT : D → D → Option D
  | .dT kvs, .pw ks => (valV kvs (kI ks)).bind vInt
  | _, _ => none
section
variable {X : Cx} {T : List (Addr × Str)} {W : WX} {F0 H0 : Hp}
/-! ### the frame's own -/
theorem ntTd {kvs : List (List Key × V)} : ∀ ps, HO.dT kvs ≠ .tbl ps := fun ps z => by cases z
theorem dT_code {kvs : List (List Key × V)} {a : Addr} : ∀ q, HO.dT kvs ≠ LamX.CodeO a q := fun q z => by unfold LamX.CodeO at z; cases z
/-! ### made fast: from here on it is not changed -/
theorem OwnAt.sub {K : PySem.W.Frag} {F F' H : Hp} {p : Addr} (e : Sub F F') : ∀ {d : D}, OwnAt K F H p d → OwnAt K F' H p d
  | .lst _, ⟨xs, h, r⟩ => ⟨xs, h, r.mono e⟩
  | .dK _, h => h
  | .dT _, h => h
  | .dic _ _ _ _, ⟨es, h, r⟩ => ⟨es, h, r.mono e⟩
  | .ins _ _ _, ⟨dx, ws, h, r⟩ => ⟨dx, ws, h, r.mono e⟩
theorem Sg.fast {K : PySem.W.Frag} {F H : Hp} {σ : L2.St} {ρ : Rho} {i : Nat} {p : Addr} {kvs : List (List Key × V)} {od : Obj} (g : Sg K T F0 H0 F H σ ρ) (hi : ρ[i]? = some (.o (.dT kvs))) (hs : σ[i]? = some (some (.ref p))) (hp : F p = none) (hx : H p = some (.dT kvs)) :
    Sg K T F0 H0 (upd F p (.frz od (.dT kvs))) (upd H p (.frz od (.dT kvs))) σ (ρ.set i (.z (.dT kvs))) ∧ Sub F (upd F p (.frz od (.dT kvs))) := by
  have il : i < ρ.length := (List.getElem?_eq_some_iff.mp hi).1
  have ow := g.ow i _ p hi hs
  have sb : Sub F (upd F p (.frz od (.dT kvs))) := fun a o e => by rw [upd_ne fun z => by rw [z, hp] at e; cases e]; exact e
  have z1 : Fz (upd F p (.frz od (.dT kvs))) (upd H p (.frz od (.dT kvs))) := ⟨fun a o e => by
    by_cases ha : a = p
    · subst ha; rw [upd_same] at e ⊢; exact e
    · rw [upd_ne ha] at e ⊢; exact g.at_.z.sub _ _ e, fun a ps e => by
    by_cases ha : a = p
    · subst ha; rw [upd_same] at e; cases e
    · rw [upd_ne ha] at e; exact g.at_.z.nt _ _ e⟩
  refine ⟨⟨⟨z1, tabs_updG g.at_.t hx ntTd dT_code, ?_⟩, ⟨g.nx.f.trans sb, z1, fun b o eb no => ?_, fun a o e => ?_, fun t => tabs_updG (g.nx.tab t) hx ntTd dT_code⟩, fun j e q h1 h2 => ?_⟩, sb⟩
  · refine ⟨by rw [List.length_set]; exact g.at_.r.len, fun j e hj => ?_, fun j e hj => ?_, fun j k a b q1 q2 hn h1 h2 h3 h4 => ?_⟩
    · rw [List.getElem?_set] at hj
      by_cases hij : i = j
      · subst hij
        rw [if_pos rfl, if_pos il] at hj
        cases hj
        exact ⟨_, hs, .dT ⟨od, upd_same⟩⟩
      · rw [if_neg hij] at hj
        obtain ⟨v, e1, e2⟩ := g.at_.r.z j e hj
        exact ⟨v, e1, e2.mono sb⟩
    · rw [List.getElem?_set] at hj
      by_cases hij : i = j
      · subst hij
        rw [if_pos rfl, if_pos il] at hj
        cases hj
      · rw [if_neg hij] at hj
        obtain ⟨q, h1, h2, h3⟩ := g.at_.r.o j e hj
        have hne : p ≠ q := g.at_.r.ne i j _ _ p q hij hi hj hs h1
        exact ⟨q, h1, by rw [upd_ne (Ne.symm hne)]; exact h2, (h3.updN (Ne.symm hne)).sub sb⟩
    · have o1 : ∀ j e, (ρ.set i (.z (.dT kvs)))[j]? = some (En.o e) → ρ[j]? = some (En.o e) := fun j e h => by
        rw [List.getElem?_set] at h
        by_cases hij : i = j
        · subst hij
          rw [if_pos rfl, if_pos il] at h
          cases h
        · rw [if_neg hij] at h; exact h
      exact g.at_.r.ne j k a b q1 q2 hn (o1 j a h1) (o1 k b h2) h3 h4
  · rw [upd_ne fun z => by
      subst z
      obtain ⟨ps, k⟩ := ow o eb
      exact no ps k]
    exact g.nx.h _ _ eb no
  · by_cases ha : a = p
    · subst ha
      exact .inr fun o' e' => .inl (ow o' e')
    · rw [upd_ne ha] at e
      exact g.nx.new a o e
  · rw [List.getElem?_set] at h1
    by_cases hij : i = j
    · subst hij
      rw [if_pos rfl, if_pos il] at h1
      cases h1
    · rw [if_neg hij] at h1
      exact g.ow j e q h1 h2
end
end DN
/-! tuples of ints whose object is known: how they come to be, and how that is forgotten -/
namespace DN
open PySem PySem.Spec PyProof.Rows L2
open LamX (Tabs ExtN)
section
variable {X : Cx} {T : List (Addr × Str)} {W : WX}
end
end DN
/-! {k: v} with one key, a tuple of ints: a frozen book -/
namespace L2
open PySem PySem.Spec PyProof.Rows
end L2
namespace DN
open PySem PySem.Spec PyProof.Rows L2
open LamX (Tabs ExtN)
end DN
/-! dict(book): the keys' hashes are apart -/
namespace L2
open PySem PySem.Spec PyProof.Rows
def keyHashI (ks : List Int) : Int := reduceHash (Builtin.Tuple.tupleHashOf (ks.map hashInt))
end L2
namespace DN
open PySem PySem.Spec PyProof.Rows L2
open LamX (Tabs ExtN)
def keysI : List (List Key × V) → Option (List (List Int))
  | [] => some []
  | q :: r => (intsOf q.1).bind fun l => (keysI r).map fun ls => l :: ls
/-- the keys hash apart -/
def apart (kvs : List (List Key × V)) : Bool := match keysI kvs with
  | some ls => decide ((ls.map keyHashI).Nodup)
  | none => false
section
variable {X : Cx} {T : List (Addr × Str)} {W : WX} {F0 H0 : Hp}
end
end DN
/-! book == {} -/
namespace L2
open PySem PySem.Spec PyProof.Rows
end L2
namespace DN
open PySem PySem.Spec PyProof.Rows L2
open LamX (Tabs ExtN)
end DN
/-! sorted(book.items()) -/
namespace L2
open PySem PySem.Spec PyProof.Rows PySem.W
/-- a book's entries -/
abbrev Ent := List Int × Int
def encB (e : Ent) : PyData := .tuple [.tuple (e.1.map .int), .int e.2]
theorem reads_ints {h : Heap} : ∀ {ns : List Int} {us : List Value}, Vals (ns.map V.int) us → ReadsAll h us (ns.map .int) []
  | [], _, r => by cases r; exact .nil
  | n :: ns, _, r => by
    rw [List.map_cons] at r
    cases r with
    | cons h1 t =>
      obtain ⟨tk, rfl⟩ := h1
      exact .cons (as := []) (bs := []) (.int n tk) (reads_ints t)
section
variable {X : Cx}
/-- a pair that was made of a book's entry: its address, the entry, the key's address -/
abbrev Made1 := Addr × Ent × Addr
def Laid1 (H : Hp) (h : Heap) (z : Made1) : Prop := H z.2.2 = some (.tup (z.2.1.1.map V.int)) ∧ ∃ t, h.get? z.1 = some { cls := .type "tuple", data := .seq #[Value.ref z.2.2, Value.int z.2.1.2 t] }
/-- one address, one pair -/
theorem Laid1.same {H : Hp} {h : Heap} {z z' : Made1} (l : Laid1 H h z) (l' : Laid1 H h z') (e : z'.1 = z.1) : [V.ref z'.2.2, V.int z'.2.1.2] = [V.ref z.2.2, V.int z.2.1.2] := by
  obtain ⟨_, _, g⟩ := l
  obtain ⟨_, _, g'⟩ := l'
  rw [e, g] at g'
  injection g' with g'
  simp at g'
  rw [g'.1, g'.2.1]
/-- a pair read as data -/
theorem Laid1.reads {P : Program} {w : World} {H : Hp} {h0 h h' : Heap} {z : Made1} (ok : HOk P w H h0) (k0 : ∀ b o, h0.get? b = some o → h'.get? b = some o) (k : ∀ b o, h.get? b = some o → h'.get? b = some o) (l : Laid1 H h z) : Reads h' (.ref z.1) (encB z.2.1) [] := by
  obtain ⟨key, t, g⟩ := l
  obtain ⟨_, its, rv, ot, e, c, n, d⟩ := (show ObjOk P w H h0 z.2.2 (.tup (z.2.1.1.map V.int)) from ok _ _ key)
  have rk : Reads h' (.ref z.2.2) (.tuple (z.2.1.1.map .int)) [] := Reads.tuple (k0 _ _ e) c d (by simpa using reads_ints rv)
  exact Reads.tuple (k _ _ g) rfl rfl (.cons (as := []) (bs := []) rk (.cons (as := []) (bs := []) (.int _ _) .nil))
end
end L2
namespace L2
open PySem PySem.Spec PyProof.Rows
end L2
namespace DN
open PySem PySem.Spec PyProof.Rows L2
open LamX (Tabs ExtN)
def vNum : V → Option Int
  | .int n => some n
  | _ => none
def ents : List (List Key × V) → Option (List Ent)
  | [] => some []
  | q :: r => (intsOf q.1).bind fun l => (vNum q.2).bind fun n => (ents r).map fun es => (l, n) :: es
section
variable {X : Cx} {T : List (Addr × Str)} {W : WX}
end
end DN
/-! tuple(sorted(..)) with its object known; dict of such a tuple -/
namespace L2
open PySem PySem.Spec PyProof.Rows PySem.W
end L2
namespace DN
open PySem PySem.Spec PyProof.Rows L2
open LamX (Tabs ExtN)
section
variable {X : Cx} {T : List (Addr × Str)} {W : WX}
end
end DN
namespace DN
open PySem PySem.Spec PyProof.Rows L2 PySem.W
open LamX (Tabs ExtN)
end DN
namespace DN
end DN
/-! is, is not of two truths -/
namespace DN
open PySem PySem.Spec PyProof.Rows L2
end DN
/-! a tuple times any small number: none and once by DN42, more by DN1 -/
namespace DN
open PySem PySem.Spec PyProof.Rows L2
def mulAD (d e : D) : Option D := match mul01D d e with
  | some z => some z
  | none => mulD d e
theorem o_mulA {X : Cx} {T : List (Addr × Str)} : OpR X (binaryOp .Mult) (rD2 X.K T mulAD) := fun pins s σ H x y v u Q I rx ry ⟨F, d, e, z, hz, rd, re, hG, q⟩ => by
  unfold mulAD at hG
  cases h : mul01D d e with
  | some z' =>
    rw [h] at hG
    exact o_mul01 pins s σ H x y v u Q I rx ry ⟨F, d, e, z, hz, rd, re, h.trans hG, q⟩
  | none =>
    rw [h] at hG
    exact o_mul pins s σ H x y v u Q I rx ry ⟨F, d, e, z, hz, rd, re, hG, q⟩
theorem mulA_tt {xs : List D} {k : Int} (h : 0 ≤ k ∧ k ≤ 1000 ∧ xs ≠ [] ∧ xs.length ≤ 1000) : mulAD (.tup xs) (.int k) = some (.tup (List.replicate k.toNat xs).flatten) := by
  obtain ⟨h0, h1, h2, h3⟩ := h
  match xs, h2 with
  | x :: xs, _ =>
    unfold mulAD mul01D
    by_cases e1 : k = 1
    · subst e1
      simp
    · by_cases e0 : k = 0
      · subst e0
        simp
      · simp only [if_neg e1, if_neg e0]
        show (if 2 ≤ k ∧ k ≤ 1000 ∧ (x :: xs).isEmpty = false ∧ (x :: xs).length ≤ 1000 then some (D.tup (List.replicate k.toNat (x :: xs)).flatten) else none) = _
        rw [if_pos ⟨by omega, h1, rfl, h3⟩]
end DN
namespace LW
open PySem PySem.Spec PyProof.Rows L2 DN
open TL (numL numL_lt numL_step numL_digits numL_ne tl_num)

/-! ### figures of whole numbers -/
def figs (n : Nat) : Nat := (numL n).length
end LW
namespace LW
open PySem PySem.Spec PyProof.Rows L2 DN
open TL (numL numL_lt numL_step numL_digits numL_ne tl_num)
/-! ### texts -/
theorem s_ext {x y : Str} (h : x.cps.toList = y.cps.toList) : x = y := by
  cases x
  cases y
  simp only at h
  congr
  exact Array.toList_inj.mp h
theorem s_len (x : Str) : x.length = x.cps.toList.length := (Array.length_toList).symm
theorem app_tl (a b : Str) : (a ++ b).cps.toList = a.cps.toList ++ b.cps.toList := by
  show (a.cps ++ b.cps).toList = _
  simp
theorem cutS_tl (z : Str) (lo hi : Option Int) : (cutS z lo hi).cps.toList = (z.cps.toList.drop (HT.sIx z.length 0 lo)).take (HT.sIx z.length z.length hi - HT.sIx z.length 0 lo) := rfl
theorem sl_s {x : Str} {lo hi : Option Int} (h : x.length ≤ 1000000) : slD (.str x) lo hi = some (.str (cutS x lo hi)) := by
  show (if x.length ≤ sizeLine then some (D.str (cutS x lo hi)) else none) = _
  rw [if_pos (by rw [sizeLine_eq]; omega)]
theorem add_ss {x y : Str} (h : x.length + y.length ≤ 1000000) : addD (.str x) (.str y) = some (.str (x ++ y)) := by
  show (if x.length + y.length ≤ sizeLine then some (D.str (x ++ y)) else none) = _
  rw [if_pos (by rw [sizeLine_eq]; omega)]
end LW
namespace LW
open PySem PySem.Spec PyProof.Rows L2 DN
open TL (numL numL_lt numL_step numL_digits numL_ne tl_num)
/-! ### numbers' texts -/
def S (l : List Nat) : Str := ⟨l.toArray⟩
theorem S_tl (l : List Nat) : (S l).cps.toList = l := by simp [S]
theorem S_len (l : List Nat) : (S l).length = l.length := by rw [s_len, S_tl]
theorem S_of {x : Str} {l : List Nat} (h : x.cps.toList = l) : x = S l := s_ext (by rw [S_tl]; exact h)
theorem S_app (a b : List Nat) : S a ++ S b = S (a ++ b) := S_of (by rw [app_tl, S_tl, S_tl])
theorem add_S {a b : List Nat} (h : a.length + b.length ≤ 1000000) : addD (.str (S a)) (.str (S b)) = some (.str (S (a ++ b))) := by
  rw [add_ss (by rw [S_len, S_len]; exact h), S_app]
theorem len_S {a : List Nat} (h : a.length ≤ 1000000) : lenD [.str (S a)] = some (.int a.length) := by
  rw [len_s (by rw [S_len]; exact h), S_len]
theorem cut_S (l : List Nat) (lo hi : Option Int) : cutS (S l) lo hi = S ((l.drop (HT.sIx l.length 0 lo)).take (HT.sIx l.length l.length hi - HT.sIx l.length 0 lo)) := S_of (by
  rw [cutS_tl, S_tl, S_len])
theorem sl_S {l : List Nat} {lo hi : Option Int} (h : l.length ≤ 1000000) : slD (.str (S l)) lo hi = some (.str (S ((l.drop (HT.sIx l.length 0 lo)).take (HT.sIx l.length l.length hi - HT.sIx l.length 0 lo)))) := by
  rw [sl_s (by rw [S_len]; exact h), cut_S]
theorem sl_hin {l : List Nat} {p : Int} (h : l.length ≤ 1000000) (h1 : p < 0) : slD (.str (S l)) none (some p) = some (.str (S (l.take (l.length - (-p).toNat)))) := by
  rw [sl_S h, HT.sIx_none, show HT.sIx l.length l.length (some p) = (p + (l.length : Int)).toNat from if_pos h1]
  rw [show (p + (l.length : Int)).toNat - 0 = l.length - (-p).toNat by omega]
  rfl
end LW
namespace LW
open PySem PySem.Spec PyProof.Rows L2 DN
/-! ### rounding, plainly -/
inductive Hw where | nought | more | even | away
  deriving DecidableEq
inductive Mn where | even | away | nought | up | down
  deriving DecidableEq
def Hw.s : Hw → Str
  | .nought => "nought" | .more => "more" | .even => "even" | .away => "away"
def Mn.s : Mn → Str
  | .nought => "nought" | .up => "up" | .down => "down" | .even => "even" | .away => "away"
def Mn.by : Mn → Bool → Hw
  | .up, false => .more | .up, true => .nought | .down, false => .nought | .down, true => .more | .even, _ => .even | .away, _ => .away | .nought, _ => .nought
def sgZ (bl : Bool) : Int := 1 - 2 * (if bl = true then 1 else 0)
/-! the parts -/
end LW
namespace LW
open PySem PySem.Spec PyProof.Rows L2 DN
/-! ### rounding over the fractions -/
def T (p : Int) : Rat := (10 : Rat) ^ p
def vl (s : Int × Int) : Rat := (s.1 : Rat) * T s.2
/-! stripped -/
def NumOk (a b : Int) : Prop := (a = 0 ∧ b = 0) ∨ (a ≠ 0 ∧ a % 10 ≠ 0 ∧ a.natAbs < 10 ^ 8 ∧ -40 ≤ b + (figs a.natAbs : Int) - 1 ∧ b + (figs a.natAbs : Int) - 1 ≤ 40)
/-! the rounded value -/
theorem NumOk.neg {a b : Int} (h : NumOk a b) : NumOk (-a) b := by
  unfold NumOk at *
  rw [Int.natAbs_neg]
  omega
theorem NumOk.sg {a b : Int} (h : NumOk a b) (bl : Bool) : NumOk (sgZ bl * a) b := by
  cases bl with
  | false => rw [show sgZ false = 1 from rfl, Int.one_mul]; exact h
  | true => rw [show sgZ true = -1 from rfl, Int.neg_one_mul]; exact h.neg
/-! ### laws of rounding -/
/-! numbers are kept -/
/-! down and up -/
/-! as functions of the value -/
end LW
namespace LW
open PySem PySem.Spec PyProof.Rows L2 DN
/-! ### a sign sought in a text -/
def posF (c : Nat) : List Nat → Nat → List Nat
  | [], _ => []
  | a :: r, k => if a = c then k :: posF c r (k + 1) else posF c r (k + 1)
theorem sub_one {l : List Nat} {c i : Nat} : (i + (S [c]).length ≤ (S l).length ∧ Builtin.Str.subAt (S l) (S [c]) i = true) ↔ l[i]? = some c := by
  have := StrLaws.subAt_one (S l) c i
  rw [S_tl] at this
  exact this
theorem occ_loop (c lim : Nat) (l : List Nat) : ∀ (n k f : Nat) (arr : Array Nat), n = l.length + 1 - k → k ≤ l.length → f ≤ k →
    (forIn (List.range' k n) (arr, f) (StrLaws.occBody (S l) (S [c]) l.length lim)).run.fst.toList = arr.toList ++ (posF c (l.drop k) k).take (lim - arr.size)
  | 0, k, f, arr, hn, hk, hf => by omega
  | n + 1, k, f, arr, hn, hk, hf => by
    rw [List.range'_succ, List.forIn_cons]
    unfold StrLaws.occBody
    have sl : (S [c]).length = 1 := S_len [c]
    have ls : (S l).length = l.length := S_len l
    by_cases hkl : k < l.length
    · have hd : l.drop k = l[k] :: l.drop (k + 1) := List.drop_eq_getElem_cons hkl
      have ge : l[k]? = some l[k] := List.getElem?_eq_getElem hkl
      have so := sub_one (l := l) (c := c) (i := k)
      rw [ge, sl, ls] at so
      rw [hd]
      unfold posF
      by_cases hc : l[k] = c
      · have s2 := so.mpr (by rw [hc])
        rw [if_pos hc]
        by_cases hz : arr.size < lim
        · rw [if_pos (by exact ⟨⟨⟨hz, hf⟩, by rw [sl]; exact s2.1⟩, s2.2⟩)]
          have ih := occ_loop c lim l n (k + 1) (k + (S [c]).length) (arr.push k) (by omega) (by omega) (by omega)
          refine Eq.trans ih ?_
          rw [Array.toList_push, Array.size_push, List.append_assoc]
          congr 1
          obtain ⟨z, hz⟩ : ∃ z, lim - arr.size = z + 1 := ⟨lim - arr.size - 1, by omega⟩
          rw [hz, List.take_succ_cons, show lim - (arr.size + 1) = z by omega]
          rfl
        · rw [if_neg (by intro h; exact hz h.1.1.1)]
          have ih := occ_loop c lim l n (k + 1) f arr (by omega) (by omega) (by omega)
          refine Eq.trans ih ?_
          rw [show lim - arr.size = 0 by omega, List.take_zero, List.take_zero]
      · rw [if_neg hc, if_neg (by
          intro h
          have := so.mp ⟨by have := h.1.2; rw [sl] at this; exact this, h.2⟩
          exact hc (Option.some.inj this))]
        exact occ_loop c lim l n (k + 1) f arr (by omega) (by omega) (by omega)
    · have hkl : k = l.length := by omega
      subst hkl
      have n0 : n = 0 := by omega
      subst n0
      rw [if_neg (by
        intro h
        have := h.1.2
        rw [sl] at this
        omega)]
      rw [List.drop_length]
      show arr.toList = arr.toList ++ List.take _ (posF c [] l.length)
      unfold posF
      simp
theorem occ_pos (c lim : Nat) (l : List Nat) : Builtin.Str.occurrences (S l) (S [c]) 0 (S l).length lim = (posF c l 0).take lim := by
  rw [StrLaws.occ_eq, S_len]
  have := occ_loop c lim l (l.length + 1 - 0) 0 0 #[] rfl (by omega) (by omega)
  simpa using this
theorem pos_none {c : Nat} : ∀ {l : List Nat} (k : Nat), c ∉ l → posF c l k = []
  | [], _, _ => rfl
  | a :: r, k, h => by
    unfold posF
    rw [if_neg (show ¬ a = c from fun z => h (by rw [z]; exact List.mem_cons_self))]
    exact pos_none (k + 1) fun z => h (List.mem_cons_of_mem _ z)
theorem pos_app {c : Nat} : ∀ {a : List Nat} (b : List Nat) (k : Nat), c ∉ a → posF c (a ++ c :: b) k = (k + a.length) :: posF c b (k + a.length + 1)
  | [], b, k, _ => by
    show posF c (c :: b) k = _
    rw [posF, if_pos rfl]
    rfl
  | x :: r, b, k, h => by
    show posF c (x :: (r ++ c :: b)) k = _
    rw [posF, if_neg (show ¬ x = c from fun z => h (by rw [z]; exact List.mem_cons_self)), pos_app b (k + 1) fun z => h (List.mem_cons_of_mem _ z), List.length_cons]
    congr 1
    · omega
    · congr 1
      omega
theorem pos_shift (c : Nat) : ∀ (l : List Nat) (k j : Nat), posF c l (k + j) = (posF c l k).map (· + j)
  | [], _, _ => rfl
  | a :: r, k, j => by
    rw [posF, posF]
    have := pos_shift c r (k + 1) j
    rw [show k + 1 + j = k + j + 1 by omega] at this
    split
    · rw [List.map_cons, this]
    · exact this
/-- a text is without the sign, or it is cut at its first one -/
theorem cut_at (c : Nat) : ∀ (l : List Nat), c ∉ l ∨ ∃ a b, l = a ++ c :: b ∧ c ∉ a
  | [] => .inl (by simp)
  | x :: r => by
    by_cases h : x = c
    · exact .inr ⟨[], r, by rw [h]; rfl, by simp⟩
    · rcases cut_at c r with q | ⟨a, b, e, q⟩
      · exact .inl (by simp; exact ⟨fun z => h z.symm, q⟩)
      · exact .inr ⟨x :: a, b, by rw [e]; rfl, by simp; exact ⟨fun z => h z.symm, q⟩⟩
theorem sub_S (l : List Nat) (i j : Nat) : Builtin.Str.strSub (S l) i j = S ((l.drop i).take (j - i)) := S_of (by rw [StrLaws.strSub_toList, S_tl])
theorem kind_1 {c : Nat} (h : c < 256) : Builtin.Str.strKind (S [c]) = 1 := by
  unfold Builtin.Str.strKind
  rw [if_pos]
  simp [S, h]
theorem kind_ge (x : Str) : 1 ≤ Builtin.Str.strKind x := by
  unfold Builtin.Str.strKind
  split
  · omega
  · split <;> omega
theorem split_none {c : Nat} {l : List Nat} (h : c ∉ l) : Txt.split (S l) (S [c]) = [S l] := by
  unfold Txt.split
  split
  · rfl
  · rw [occ_pos, pos_none 0 h]
    rfl
theorem pos_len (c : Nat) : ∀ (l : List Nat) (k : Nat), (posF c l k).length ≤ l.length
  | [], _ => Nat.le_refl _
  | a :: r, k => by
    rw [posF]
    have := pos_len c r (k + 1)
    split <;> simp <;> omega
theorem parts_app {c : Nat} {a b : List Nat} (h : c ∉ a) : Builtin.Str.partsBetween (S (a ++ c :: b)) (posF c (a ++ c :: b) 0) 1 = S a :: Builtin.Str.partsBetween (S b) (posF c b 0) 1 := by
  rw [pos_app b 0 h]
  unfold Builtin.Str.partsBetween
  simp only [List.map_cons, List.cons_append, List.zip_cons_cons, List.map_cons]
  refine congr (congrArg List.cons ?_) ?_
  · rw [sub_S]
    simp
  · have ps := pos_shift c b 0 (0 + a.length + 1)
    rw [Nat.zero_add] at ps
    have drop_eq : ∀ i, List.drop (i + (a.length + 1)) (a ++ c :: b) = List.drop i b := fun i => by
      rw [show a ++ c :: b = (a ++ [c]) ++ b by simp, show i + (a.length + 1) = (a ++ [c]).length + i by simp; omega, List.drop_append]
      simp
    have key : ∀ (is js : List Nat), ((is.map (· + (a.length + 1))).zip (js.map (· + (a.length + 1)))).map (fun p => Builtin.Str.strSub (S (a ++ c :: b)) p.1 p.2) = (is.zip js).map fun p => Builtin.Str.strSub (S b) p.1 p.2 := by
      intro is
      induction is with
      | nil => intro js; rfl
      | cons i is ih =>
        intro js
        cases js with
        | nil => rfl
        | cons j js =>
          simp only [List.map_cons, List.zip_cons_cons]
          rw [ih js, sub_S, sub_S, drop_eq, show j + (a.length + 1) - (i + (a.length + 1)) = j - i by omega]
    have := key (0 :: (posF c b 0).map (· + 1)) (posF c b 0 ++ [(S b).length])
    refine Eq.trans ?_ this
    congr 1
    rw [Nat.zero_add] at ps ⊢
    rw [ps]
    congr 1
    · simp only [List.map_cons, List.map_map]
      congr 1
      · omega
      · congr 1
        funext x
        show x + (a.length + 1) + 1 = x + 1 + (a.length + 1)
        omega
    · rw [List.map_append, S_len, S_len]
      congr 1
      simp
      omega
theorem parts_pos (c : Nat) (l : List Nat) : Txt.split (S l) (S [c]) = Builtin.Str.partsBetween (S l) (posF c l 0) 1 ∨ c ∉ l ∨ 256 ≤ c := by
  rcases cut_at c l with h | ⟨a, b, e, h⟩
  · exact .inr (.inl h)
  · by_cases hc : c < 256
    · left
      unfold Txt.split
      have l1 : decide ((S l).length < (S [c]).length) = false := decide_eq_false (by rw [S_len, S_len, e]; simp)
      have l2 : decide (Builtin.Str.strKind (S l) < Builtin.Str.strKind (S [c])) = false := decide_eq_false (by rw [kind_1 hc]; have := kind_ge (S l); omega)
      have tk : (posF c l 0).take ((S l).length + 1) = posF c l 0 := List.take_of_length_le (by have := pos_len c l 0; rw [S_len]; omega)
      rw [l1, l2, occ_pos, tk, e, pos_app b 0 h]
      rfl
    · exact .inr (.inr (by omega))
theorem parts_none {c : Nat} {l : List Nat} (h : c ∉ l) : Builtin.Str.partsBetween (S l) (posF c l 0) 1 = [S l] := by
  rw [pos_none 0 h]
  show [Builtin.Str.strSub (S l) 0 (S l).length] = _
  rw [sub_S, S_len]
  simp
theorem split_some {c : Nat} {a b : List Nat} (hc : c < 256) (h : c ∉ a) : Txt.split (S (a ++ c :: b)) (S [c]) = S a :: Txt.split (S b) (S [c]) := by
  rcases parts_pos c (a ++ c :: b) with e | e | e
  · rw [e, parts_app h]
    rcases parts_pos c b with q | q | q
    · rw [q]
    · rw [split_none q, parts_none q]
    · omega
  · exact absurd (by simp) e
  · omega
/-- a text cut at each such sign -/
def cutL (c : Nat) : List Nat → List (List Nat)
  | [] => [[]]
  | a :: r => if a = c then [] :: cutL c r else match cutL c r with
    | [] => [[a]]
    | x :: xs => (a :: x) :: xs
theorem cutL_ne (c : Nat) : ∀ l, cutL c l ≠ []
  | [] => by simp [cutL]
  | a :: r => by
    unfold cutL
    split
    · simp
    · split <;> simp
theorem cutL_app {c : Nat} : ∀ {a : List Nat} (b : List Nat), c ∉ a → cutL c (a ++ c :: b) = a :: cutL c b
  | [], b, _ => by
    show cutL c (c :: b) = _
    rw [cutL, if_pos rfl]
  | x :: r, b, h => by
    show cutL c (x :: (r ++ c :: b)) = _
    rw [cutL, if_neg (show ¬ x = c from fun z => h (by rw [z]; exact List.mem_cons_self)), cutL_app b fun z => h (List.mem_cons_of_mem _ z)]
theorem cutL_none {c : Nat} : ∀ {l : List Nat}, c ∉ l → cutL c l = [l]
  | [], _ => rfl
  | x :: r, h => by
    rw [cutL, if_neg (show ¬ x = c from fun z => h (by rw [z]; exact List.mem_cons_self)), cutL_none fun z => h (List.mem_cons_of_mem _ z)]
theorem split_S {c : Nat} (hc : c < 256) (l : List Nat) : Txt.split (S l) (S [c]) = (cutL c l).map S := by
  induction hn : l.length using Nat.strongRecOn generalizing l with
  | ind n ih =>
    rcases cut_at c l with h | ⟨a, b, e, h⟩
    · rw [split_none h, cutL_none h]; rfl
    · subst e
      rw [split_some hc h, cutL_app b h, ih b.length (by rw [← hn]; simp; omega) b rfl]
      rfl
end LW
namespace LW
open PySem PySem.Spec PyProof.Rows L2 DN
open TL (numL numL_lt numL_step numL_digits numL_ne tl_num)
open NumText (AllDigits digitsVal)
local macro_rules | `(tactic| walk_at "ev") => `(tactic| simp -implicitDefEqProofs (disch := first | omega | (simp only [List.length_cons, List.length_nil]; omega)) only [mkTR_ok, mkLR_ok, ix_tm, ix_lm, ix_t0, ix_t1, ix_t2, ix_t3, ix_t4, ix_t5, ix_t6, ix_t7, ix_l0, ix_l1, ix_l2, ix_l3, ix_l4, ix_l5, ix_l6, ix_l7, bin_def, una_def, cal_def, acons_def, anil_def, con_def, callD_def, tst_def, sseq_def, sret_def, sasg_def, sif_def, sskip_def, sraise_def, andQ_def, orQ_def, notQ_def, andE_def, orE_def, notE_def, mkT_def, mkL_def, slc_def, psm_def, pno_def, sfor_def, chn_def, var_zero, var_succ, app2_ok, app1_ok, appL_ok, consR_ok, ofO_some, call0, call1, call2, call3, call4, call5, tstR_ok, seqR_nx, seqR_rt, seqR_ex, retR_ok, retR_ex, asgR_n, asgR_ex, asgR_2, asgR_2L, asgR_3, ifR_t, ifR_f, finR_rt, finR_nx, finR_ex, andR_t, andR_f, orR_t, orR_f, notR_ok, andER_t, andER_f, orER_t, orER_f, notER_ok, psmR_ok, slcR_ok, forR_ok, chn_le, chn_lt, add_ii, sub_ii, neg_i, lt_ii, le_ii, gt_ii, ge_ii, eq_ii, ne_ii, eq_ss, ne_ss, eq_bb, ne_bb, mul_l, mul_r, div_s, mod_p, len_t, len_l, len_a, abs_i, max_ii, min_ii, int_i, int_b, int_t, int_f, List.set_cons_zero, List.set_cons_succ, Bool.not_true, Bool.not_false, decide_true, decide_false, sown_def, ownRR_ok, frz_lst, frz_z, frz_u, frz_succ, sfrz_def, bor_def, borQ_def, flat_i, flat_s, flat_b, flat_n, own_zero, own_succ, sapp_def, sput_def, ixO_def])
local macro_rules | `(tactic| simp?! [$ls,*]) => `(tactic| simp -implicitDefEqProofs (disch := first | omega | (simp only [List.length_cons, List.length_nil]; omega)) only [mkTR_ok, mkLR_ok, ix_tm, ix_lm, ix_t0, ix_t1, ix_t2, ix_t3, ix_t4, ix_t5, ix_t6, ix_t7, ix_l0, ix_l1, ix_l2, ix_l3, ix_l4, ix_l5, ix_l6, ix_l7, bin_def, una_def, cal_def, acons_def, anil_def, con_def, callD_def, tst_def, sseq_def, sret_def, sasg_def, sif_def, sskip_def, sraise_def, andQ_def, orQ_def, notQ_def, andE_def, orE_def, notE_def, mkT_def, mkL_def, slc_def, psm_def, pno_def, sfor_def, chn_def, var_zero, var_succ, app2_ok, app1_ok, appL_ok, consR_ok, ofO_some, call0, call1, call2, call3, call4, call5, tstR_ok, seqR_nx, seqR_rt, seqR_ex, retR_ok, retR_ex, asgR_n, asgR_ex, asgR_2, asgR_2L, asgR_3, ifR_t, ifR_f, finR_rt, finR_nx, finR_ex, andR_t, andR_f, orR_t, orR_f, notR_ok, andER_t, andER_f, orER_t, orER_f, notER_ok, psmR_ok, slcR_ok, forR_ok, chn_le, chn_lt, add_ii, sub_ii, neg_i, lt_ii, le_ii, gt_ii, ge_ii, eq_ii, ne_ii, eq_ss, ne_ss, eq_bb, ne_bb, mul_l, mul_r, div_s, mod_p, len_t, len_l, len_a, abs_i, max_ii, min_ii, int_i, int_b, int_t, int_f, List.set_cons_zero, List.set_cons_succ, Bool.not_true, Bool.not_false, decide_true, decide_false, sown_def, ownRR_ok, frz_lst, frz_z, frz_u, frz_succ, sfrz_def, bor_def, borQ_def, flat_i, flat_s, flat_b, flat_n, own_zero, own_succ, sapp_def, sput_def, ixO_def, $ls,*])
def N__law_cell_at : List Str := ["script", "k"]
def t1__law_cell_at : Rho → SR :=
  (sret (con (.int 0)))
def g__law_cell_at : Rho → SR :=
  sseq (sif (tst (bop ltD (var 1) (cal lenD (acons (var 0) anil)))) (sret (bop ixD (var 0) (var 1))) sskip) (t1__law_cell_at)
def d__law_cell_at (ds : List D) : Res D := runB 2 g__law_cell_at ds
theorem v__law_cell_at {a0 a1 : D} : d__law_cell_at [a0, a1] = finR (g__law_cell_at [.z a0, .z a1]) := runB_eq rfl
def N__law_mixed : List Str := ["script", "k", "drawn"]
def t1__law_mixed : Rho → SR :=
  (sret (bop modD (bop addD (bop addD (bop mulD (var 2) (var 2)) (bop mulD (con (.int 7)) (var 2))) (var 1)) (con (.int 2147483629))))
def g__law_mixed : Rho → SR :=
  sseq (sasg (bop modD (bop mulD (bop addD (bop addD (callD 2 d__law_cell_at (acons (var 0) (acons (var 1) anil))) (bop mulD (con (.int 7919)) (var 1))) (con (.int 1))) (con (.int 48271))) (con (.int 2147483647))) (gn 2)) (t1__law_mixed)
def d__law_mixed (ds : List D) : Res D := runB 3 g__law_mixed ds
theorem v__law_mixed {a0 a1 : D} : d__law_mixed [a0, a1] = finR (g__law_mixed [.z a0, .z a1, .u]) := runB_eq rfl
def N__law_drawn : List Str := ["number", "k", "drawn"]
def t1__law_drawn : Rho → SR :=
  (sret (bop modD (bop addD (bop addD (bop mulD (var 2) (var 2)) (bop mulD (con (.int 3)) (var 2))) (var 1)) (con (.int 2147483629))))
def g__law_drawn : Rho → SR :=
  sseq (sasg (bop modD (bop mulD (bop addD (bop addD (var 0) (bop mulD (con (.int 104729)) (var 1))) (con (.int 17))) (con (.int 69621))) (con (.int 2147483647))) (gn 2)) (t1__law_drawn)
def d__law_drawn (ds : List D) : Res D := runB 3 g__law_drawn ds
theorem v__law_drawn {a0 a1 : D} : d__law_drawn [a0, a1] = finR (g__law_drawn [.z a0, .z a1, .u]) := runB_eq rfl
def N_is_key : List Str := ["thing"]
def t3_is_key : Rho → SR :=
  (sret (andE (bop eqD (cal lenD (acons (var 0) anil)) (con (.int 4))) (andE (bop inD (slc (var 0) pno (psm (con (.int 3)))) (mkT (acons (con (.str "put")) (acons (con (.str "get")) anil)))) (bop inD (bop ixD (var 0) (con (.int 3))) (con (.str "0123456789"))))))
def t2_is_key : Rho → SR :=
  sseq (sif (tst (bop eqD (cal lenD (acons (var 0) anil)) (con (.int 1)))) (sret (bop inD (var 0) (con (.str "0123456789")))) sskip) (t3_is_key)
def t1_is_key : Rho → SR :=
  sseq (sif (orQ (tst (bop inD (var 0) (con (.tup [.str "sign", .str "enter", .str "root", .str "swap", .str "roll", .str "last", .str "clear"])))) (orQ (tst (inT ["plus", "minus", "times", "over"] (var 0))) (tst (bop eqD (var 0) (con (.str ".")))))) (sret (con (.bl true))) sskip) (t2_is_key)
def g_is_key : Rho → SR :=
  sseq (sif (notQ (tst (cal isiD (acons (var 0) (acons (con (.ty "str")) anil))))) (sret (con (.bl false))) sskip) (t1_is_key)
def d_is_key (ds : List D) : Res D := runB 1 g_is_key ds
theorem v_is_key {a0 : D} : d_is_key [a0] = finR (g_is_key [.z a0]) := runB_eq rfl
def N_is_line : List Str := ["thing"]
def t2_is_line : Rho → SR :=
  (sret (orE (bop inD (var 0) (con (.tup [.str "back", .str "stop", .str "less", .str "same", .str "nought"]))) (andE (bop inD (slc (var 0) pno (psm (una negD (con (.int 1))))) (con (.tup [.str "mark", .str "go", .str "call"]))) (bop inD (bop ixD (var 0) (una negD (con (.int 1)))) (con (.str "0123456789"))))))
def t1_is_line : Rho → SR :=
  sseq (sif (orQ (notQ (tst (cal isiD (acons (var 0) (acons (con (.ty "str")) anil))))) (tst (bop ltD (cal lenD (acons (var 0) anil)) (con (.int 3))))) (sret (con (.bl false))) sskip) (t2_is_line)
def g_is_line : Rho → SR :=
  sseq (sif (tst (callD 1 d_is_key (acons (var 0) anil))) (sret (con (.bl true))) sskip) (t1_is_line)
def d_is_line (ds : List D) : Res D := runB 1 g_is_line ds
theorem v_is_line {a0 : D} : d_is_line [a0] = finR (g_is_line [.z a0]) := runB_eq rfl
def N_is_program : List Str := ["thing", "part"]
def e1_is_program : Rho → Res D :=
  (callD 1 d_is_line (acons (var 1) anil))
def g_is_program : Rho → SR :=
  (sret (andE (cal isiD (acons (var 0) (acons (con (.ty "tuple")) anil))) (andE (bop leD (cal lenD (acons (var 0) anil)) (con (.int 30))) (cal allD (acons (lcD (its (var 0)) 1 yes e1_is_program) anil)))))
def d_is_program (ds : List D) : Res D := runB 2 g_is_program ds
theorem v_is_program {a0 : D} : d_is_program [a0] = finR (g_is_program [.z a0, .u]) := runB_eq rfl
def N__law_line : List Str := ["number", "some"]
def t2__law_line : Rho → SR :=
  (sret (bop ixD (bop addD (var 1) (mkL (acons (con (.str "get0")) (acons (con (.str "sign")) (acons (con (.str "minus")) (acons (con (.str "over")) (acons (con (.str "put1")) (acons (con (.str "get1")) (acons (con (.str "clear")) anil))))))))) (bop modD (var 0) (con (.int 32)))))
def t1__law_line : Rho → SR :=
  sseq (sasg (bop addD (var 1) (mkL (acons (con (.str "nought")) (acons (con (.str "nought")) (acons (con (.str "less")) (acons (con (.str "1")) (acons (con (.str "2")) (acons (con (.str "enter")) (acons (con (.str "plus")) (acons (con (.str "minus")) (acons (con (.str "times")) (acons (con (.str "swap")) (acons (con (.str "roll")) (acons (con (.str "put0")) anil)))))))))))))) (gn 1)) (t2__law_line)
def g__law_line : Rho → SR :=
  sseq (sasg (mkL (acons (con (.str "mark1")) (acons (con (.str "mark2")) (acons (con (.str "mark3")) (acons (con (.str "go1")) (acons (con (.str "go2")) (acons (con (.str "go3")) (acons (con (.str "call1")) (acons (con (.str "call2")) (acons (con (.str "call3")) (acons (con (.str "back")) (acons (con (.str "stop")) (acons (con (.str "less")) (acons (con (.str "same")) anil)))))))))))))) (gn 1)) (t1__law_line)
def d__law_line (ds : List D) : Res D := runB 2 g__law_line ds
theorem v__law_line {a0 : D} : d__law_line [a0] = finR (g__law_line [.z a0, .u]) := runB_eq rfl
def N__law_program : List Str := ["number", "most", "k"]
def e1__law_program : Rho → Res D :=
  (callD 1 d__law_line (acons (bop divD (callD 2 d__law_drawn (acons (var 0) (acons (var 2) anil))) (con (.int 4))) anil))
def g__law_program : Rho → SR :=
  (sret (cal tupD (acons (lcD (rng1 (acons (bop modD (var 0) (bop addD (var 1) (con (.int 1)))) anil)) 2 yes e1__law_program) anil)))
def d__law_program (ds : List D) : Res D := runB 3 g__law_program ds
theorem v__law_program {a0 a1 : D} : d__law_program [a0, a1] = finR (g__law_program [.z a0, .z a1, .u]) := runB_eq rfl
def N_read_program : List Str := ["text", "found"]
def t4_read_program : Rho → SR :=
  (sret (var 1))
def t3_read_program : Rho → SR :=
  sseq (sif (notQ (tst (callD 1 d_is_program (acons (var 1) anil)))) (sraise "NoText") sskip) (t4_read_program)
def t2_read_program : Rho → SR :=
  sseq (sasg (cal tupD (acons (met splitD (var 0) (acons (con (.str " ")) anil)) anil)) (gn 1)) (t3_read_program)
def t1_read_program : Rho → SR :=
  sseq (sif (tst (bop eqD (var 0) (con (.str "-")))) (sret (mkT anil)) sskip) (t2_read_program)
def g_read_program : Rho → SR :=
  sseq (sif (notQ (tst (cal isiD (acons (var 0) (acons (con (.ty "str")) anil))))) (sraise "NoText") sskip) (t1_read_program)
def d_read_program (ds : List D) : Res D := runB 2 g_read_program ds
theorem v_read_program {a0 : D} : d_read_program [a0] = finR (g_read_program [.z a0, .u]) := runB_eq rfl
def N__law_changed_v2 : List Str := ["text", "number", "at", "letter", "words", "k", "some"]
def t8__law_changed_v2 : Rho → SR :=
  (sfrz 6 (sret (bop ixD (var 6) (bop modD (var 1) (con (.int 6))))))
def t7__law_changed_v2 : Rho → SR :=
  sseq (sapp 6 (met joinD (con (.str " ")) (acons (bop addD (bop addD (slc (var 4) pno (psm (var 5))) (una revD (slc (var 4) (psm (var 5)) (psm (bop addD (var 5) (con (.int 2))))))) (slc (var 4) (psm (bop addD (var 5) (con (.int 2)))) pno)) anil))) (t8__law_changed_v2)
def t6__law_changed_v2 : Rho → SR :=
  sseq (sapp 6 (met joinD (con (.str " ")) (acons (bop addD (bop addD (slc (var 4) pno (psm (var 5))) (slc (var 4) (psm (var 5)) (psm (bop addD (var 5) (con (.int 1)))))) (slc (var 4) (psm (var 5)) pno)) anil))) (t7__law_changed_v2)
def t5__law_changed_v2 : Rho → SR :=
  sseq (sapp 6 (met joinD (con (.str " ")) (acons (bop addD (slc (var 4) pno (psm (var 5))) (slc (var 4) (psm (bop addD (var 5) (con (.int 1)))) pno)) anil))) (t6__law_changed_v2)
def t4__law_changed_v2 : Rho → SR :=
  sseq (sown (mkL (acons (bop addD (bop addD (slc (var 0) pno (psm (var 2))) (var 3)) (slc (var 0) (psm (var 2)) pno)) (acons (bop addD (slc (var 0) pno (psm (var 2))) (slc (var 0) (psm (bop addD (var 2) (con (.int 1)))) pno)) (acons (bop addD (bop addD (slc (var 0) pno (psm (var 2))) (var 3)) (slc (var 0) (psm (bop addD (var 2) (con (.int 1)))) pno)) anil)))) 6) (t5__law_changed_v2)
def t3__law_changed_v2 : Rho → SR :=
  sseq (sasg (bop modD (bop divD (var 1) (con (.int 16))) (cal lenD (acons (var 4) anil))) (gn 5)) (t4__law_changed_v2)
def t2__law_changed_v2 : Rho → SR :=
  sseq (sasg (met splitD (var 0) (acons (con (.str " ")) anil)) (gn 4)) (t3__law_changed_v2)
def t1__law_changed_v2 : Rho → SR :=
  sseq (sasg (bop ixD (con (.str "0123 -.acgklmnoprst~")) (bop modD (bop divD (var 1) (con (.int 400))) (con (.int 20)))) (gn 3)) (t2__law_changed_v2)
def g__law_changed_v2 : Rho → SR :=
  sseq (sasg (bop modD (bop divD (var 1) (con (.int 16))) (bop addD (cal lenD (acons (var 0) anil)) (con (.int 1)))) (gn 2)) (t1__law_changed_v2)
def d__law_changed_v2 (ds : List D) : Res D := runB 7 g__law_changed_v2 ds
theorem v__law_changed_v2 {a0 a1 : D} : d__law_changed_v2 [a0, a1] = finR (g__law_changed_v2 [.z a0, .z a1, .u, .u, .u, .u, .u]) := runB_eq rfl
def N__law_is_line_v2 : List Str := ["thing", "plain"]
def t4__law_is_line_v2 : Rho → SR :=
  (sret (bop inD (slc (var 0) pno (psm (una negD (con (.int 1))))) (mkT (acons (con (.str "put")) (acons (con (.str "get")) (acons (con (.str "mark")) (acons (con (.str "go")) (acons (con (.str "call")) anil))))))))
def t3__law_is_line_v2 : Rho → SR :=
  sseq (sif (orQ (tst (bop eqD (var 0) (con (.str "")))) (tst (bop niD (bop ixD (var 0) (una negD (con (.int 1)))) (con (.str "0123456789"))))) (sret (con (.bl false))) sskip) (t4__law_is_line_v2)
def t2__law_is_line_v2 : Rho → SR :=
  sseq (sif (tst (bop inD (var 0) (met splitD (var 1) (acons (con (.str " ")) anil)))) (sret (con (.bl true))) sskip) (t3__law_is_line_v2)
def t1__law_is_line_v2 : Rho → SR :=
  sseq (sasg (bop addD (var 1) (con (.str " back stop less same nought"))) (gn 1)) (t2__law_is_line_v2)
def g__law_is_line_v2 : Rho → SR :=
  sseq (sasg (con (.str "0 1 2 3 4 5 6 7 8 9 . sign enter plus minus times over root swap roll last clear")) (gn 1)) (t1__law_is_line_v2)
def d__law_is_line_v2 (ds : List D) : Res D := runB 2 g__law_is_line_v2 ds
theorem v__law_is_line_v2 {a0 : D} : d__law_is_line_v2 [a0] = finR (g__law_is_line_v2 [.z a0, .u]) := runB_eq rfl
def topS (i : Nat) : Stmt := PySem.Challenge.pw_pocketpile_k31_whole_programs_read.main.body.getD i (.Pass ⟨0, 0, 0, 0⟩)
abbrev s_ten : Stmt := topS 10
abbrev s_figures_of : Stmt := topS 11
abbrev s_height : Stmt := topS 12
abbrev s_taken : Stmt := topS 13
abbrev s_by_size : Stmt := topS 14
abbrev s_fitted : Stmt := topS 15
abbrev s_power_for : Stmt := topS 16
abbrev s_exact : Stmt := topS 17
abbrev s_level : Stmt := topS 19
abbrev s_of_power : Stmt := topS 20
abbrev s_plus : Stmt := topS 21
abbrev s_turned : Stmt := topS 22
abbrev s_minus : Stmt := topS 23
abbrev s_times : Stmt := topS 24
abbrev s_over : Stmt := topS 25
abbrev s_is_key : Stmt := topS 30
abbrev s_is_line : Stmt := topS 35
abbrev s_is_program : Stmt := topS 36
abbrev s_read_program : Stmt := topS 37
abbrev s__law_cell_at : Stmt := topS 39
abbrev s__law_mixed : Stmt := topS 40
abbrev s__law_drawn : Stmt := topS 41
abbrev s__law_line : Stmt := topS 42
abbrev s__law_program : Stmt := topS 43
abbrev s__law_told : Stmt := topS 44
abbrev s__law_changed : Stmt := topS 45
abbrev s__law_is_line : Stmt := topS 46
abbrev s_law : Stmt := topS 47
def k_PLAIN_KEYS : List Str := ["sign", "enter", "root", "swap", "roll", "last", "clear"]
def k_OTHERS : List Str := ["back", "stop", "less", "same", "nought"]
def k_WORDS : List Str := ["mark", "go", "call"]
def tfs : List He.Defn := [("law", none)]
def tabT (K : PySem.W.Frag) : List (Addr × Str) := [((He.cT K ("law", none)).2, ("law" : Str) ++ ".<locals>." ++ "<lambda>")]
def huB (K : PySem.W.Frag) (x : Str) : Bool := (tabT K).all fun p => !decide (p.1 = (He.cT K (x, none)).2) || decide (p.2 = x ++ ".<locals>." ++ "<lambda>")
theorem huB_ok {K : PySem.W.Frag} {x : Str} (h : huB K x = true) : ∀ p ∈ tabT K, p.1 = (He.cT K (x, none)).2 → p.2 = x ++ ".<locals>." ++ "<lambda>" := fun p hp e => by
  have := List.all_eq_true.mp h p hp
  simpa [e] using this
theorem sc__law_told : FnScope ["deed", "found", "e", "kinds"] ["deed"] (defScope s__law_told) := ⟨rfl, rfl, rfl, by decide +kernel, rfl, by decide +kernel, by decide +kernel⟩
theorem toldS : ToldS (defScope s__law_told) := ⟨by decide +kernel, by decide +kernel, rfl, rfl, rfl⟩
structure Top (w : World) (K : PySem.W.Frag) (mg : Str → Option Value) : Prop where
  f_ten : ∃ fd, FunD K "ten" "ten" (defArgs s_ten) (defBody s_ten) (defScope s_ten) [] [] (He.ga K "ten") fd
  m_ten : mg "ten" = some (.ref (He.ga K "ten"))
  f_figures_of : ∃ fd, FunD K "figures_of" "figures_of" (defArgs s_figures_of) (defBody s_figures_of) (defScope s_figures_of) [] [] (He.ga K "figures_of") fd
  m_figures_of : mg "figures_of" = some (.ref (He.ga K "figures_of"))
  f_height : ∃ fd, FunD K "height" "height" (defArgs s_height) (defBody s_height) (defScope s_height) [] [] (He.ga K "height") fd
  m_height : mg "height" = some (.ref (He.ga K "height"))
  f_taken : ∃ fd, FunD K "taken" "taken" (defArgs s_taken) (defBody s_taken) (defScope s_taken) [] [] (He.ga K "taken") fd
  m_taken : mg "taken" = some (.ref (He.ga K "taken"))
  f_by_size : ∃ fd, FunD K "by_size" "by_size" (defArgs s_by_size) (defBody s_by_size) (defScope s_by_size) [] [] (He.ga K "by_size") fd
  m_by_size : mg "by_size" = some (.ref (He.ga K "by_size"))
  f_fitted : ∃ fd, FunD K "fitted" "fitted" (defArgs s_fitted) (defBody s_fitted) (defScope s_fitted) [] [] (He.ga K "fitted") fd
  m_fitted : mg "fitted" = some (.ref (He.ga K "fitted"))
  f_power_for : ∃ fd, FunD K "power_for" "power_for" (defArgs s_power_for) (defBody s_power_for) (defScope s_power_for) [] [] (He.ga K "power_for") fd
  m_power_for : mg "power_for" = some (.ref (He.ga K "power_for"))
  f_exact : ∃ fd, FunD K "exact" "exact" (defArgs s_exact) (defBody s_exact) (defScope s_exact) [] [] (He.ga K "exact") fd
  m_exact : mg "exact" = some (.ref (He.ga K "exact"))
  f_level : ∃ fd, FunD K "level" "level" (defArgs s_level) (defBody s_level) (defScope s_level) [] [] (He.ga K "level") fd
  m_level : mg "level" = some (.ref (He.ga K "level"))
  f_of_power : ∃ fd, FunD K "of_power" "of_power" (defArgs s_of_power) (defBody s_of_power) (defScope s_of_power) [] [] (He.ga K "of_power") fd
  m_of_power : mg "of_power" = some (.ref (He.ga K "of_power"))
  f_plus : ∃ fd, FunD K "plus" "plus" (defArgs s_plus) (defBody s_plus) (defScope s_plus) [] [] (He.ga K "plus") fd
  m_plus : mg "plus" = some (.ref (He.ga K "plus"))
  f_turned : ∃ fd, FunD K "turned" "turned" (defArgs s_turned) (defBody s_turned) (defScope s_turned) [] [] (He.ga K "turned") fd
  m_turned : mg "turned" = some (.ref (He.ga K "turned"))
  f_minus : ∃ fd, FunD K "minus" "minus" (defArgs s_minus) (defBody s_minus) (defScope s_minus) [] [] (He.ga K "minus") fd
  m_minus : mg "minus" = some (.ref (He.ga K "minus"))
  f_times : ∃ fd, FunD K "times" "times" (defArgs s_times) (defBody s_times) (defScope s_times) [] [] (He.ga K "times") fd
  m_times : mg "times" = some (.ref (He.ga K "times"))
  f_over : ∃ fd, FunD K "over" "over" (defArgs s_over) (defBody s_over) (defScope s_over) [] [] (He.ga K "over") fd
  m_over : mg "over" = some (.ref (He.ga K "over"))
  f_is_key : ∃ fd, FunD K "is_key" "is_key" (defArgs s_is_key) (defBody s_is_key) (defScope s_is_key) [] [] (He.ga K "is_key") fd
  m_is_key : mg "is_key" = some (.ref (He.ga K "is_key"))
  f_is_line : ∃ fd, FunD K "is_line" "is_line" (defArgs s_is_line) (defBody s_is_line) (defScope s_is_line) [] [] (He.ga K "is_line") fd
  m_is_line : mg "is_line" = some (.ref (He.ga K "is_line"))
  f_is_program : ∃ fd, FunD K "is_program" "is_program" (defArgs s_is_program) (defBody s_is_program) (defScope s_is_program) [] [] (He.ga K "is_program") fd
  m_is_program : mg "is_program" = some (.ref (He.ga K "is_program"))
  f_read_program : ∃ fd, FunD K "read_program" "read_program" (defArgs s_read_program) (defBody s_read_program) (defScope s_read_program) [] [] (He.ga K "read_program") fd
  m_read_program : mg "read_program" = some (.ref (He.ga K "read_program"))
  f__law_cell_at : ∃ fd, FunD K "_law_cell_at" "_law_cell_at" (defArgs s__law_cell_at) (defBody s__law_cell_at) (defScope s__law_cell_at) [] [] (He.ga K "_law_cell_at") fd
  m__law_cell_at : mg "_law_cell_at" = some (.ref (He.ga K "_law_cell_at"))
  f__law_mixed : ∃ fd, FunD K "_law_mixed" "_law_mixed" (defArgs s__law_mixed) (defBody s__law_mixed) (defScope s__law_mixed) [] [] (He.ga K "_law_mixed") fd
  m__law_mixed : mg "_law_mixed" = some (.ref (He.ga K "_law_mixed"))
  f__law_drawn : ∃ fd, FunD K "_law_drawn" "_law_drawn" (defArgs s__law_drawn) (defBody s__law_drawn) (defScope s__law_drawn) [] [] (He.ga K "_law_drawn") fd
  m__law_drawn : mg "_law_drawn" = some (.ref (He.ga K "_law_drawn"))
  f__law_line : ∃ fd, FunD K "_law_line" "_law_line" (defArgs s__law_line) (defBody s__law_line) (defScope s__law_line) [] [] (He.ga K "_law_line") fd
  m__law_line : mg "_law_line" = some (.ref (He.ga K "_law_line"))
  f__law_program : ∃ fd, FunD K "_law_program" "_law_program" (defArgs s__law_program) (defBody s__law_program) (defScope s__law_program) [] [] (He.ga K "_law_program") fd
  m__law_program : mg "_law_program" = some (.ref (He.ga K "_law_program"))
  f__law_told : ∃ fd, FunD K "_law_told" "_law_told" (defArgs s__law_told) (defBody s__law_told) (defScope s__law_told) [] [] (He.ga K "_law_told") fd
  m__law_told : mg "_law_told" = some (.ref (He.ga K "_law_told"))
  f__law_changed : ∃ fd, FunD K "_law_changed" "_law_changed" (defArgs s__law_changed) (defBody s__law_changed) (defScope s__law_changed) [] [] (He.ga K "_law_changed") fd
  m__law_changed : mg "_law_changed" = some (.ref (He.ga K "_law_changed"))
  f__law_is_line : ∃ fd, FunD K "_law_is_line" "_law_is_line" (defArgs s__law_is_line) (defBody s__law_is_line) (defScope s__law_is_line) [] [] (He.ga K "_law_is_line") fd
  m__law_is_line : mg "_law_is_line" = some (.ref (He.ga K "_law_is_line"))
  f_law : ∃ fd, FunD K "law" "law" (defArgs s_law) (defBody s_law) (defScope s_law) [] [] (He.ga K "law") fd
  m_law : mg "law" = some (.ref (He.ga K "law"))
  b_int : mg "int" = none
  b_abs : mg "abs" = none
  b_str : mg "str" = none
  b_len : mg "len" = none
  b_max : mg "max" = none
  b_min : mg "min" = none
  b_isinstance : mg "isinstance" = none
  b_tuple : mg "tuple" = none
  b_all : mg "all" = none
  b_range : mg "range" = none
  c_HIGHEST : ∃ t, mg "HIGHEST" = some (.int (40) t)
  c_MOST : ∃ t, mg "MOST" = some (.int (8) t)
  c_MOST_LINES : ∃ t, mg "MOST_LINES" = some (.int (30) t)
  c_FIGURES : ∃ t, mg "FIGURES" = some (.str "0123456789" t)
  m_PLAIN_KEYS : mg "PLAIN_KEYS" = some (.ref (He.ga K "PLAIN_KEYS"))
  c_PLAIN_KEYS : ∀ H, SqT K H (He.ga K "PLAIN_KEYS") (k_PLAIN_KEYS.map V.str)
  m_OTHERS : mg "OTHERS" = some (.ref (He.ga K "OTHERS"))
  c_OTHERS : ∀ H, SqT K H (He.ga K "OTHERS") (k_OTHERS.map V.str)
  m_WORDS : mg "WORDS" = some (.ref (He.ga K "WORDS"))
  c_WORDS : ∀ H, SqT K H (He.ga K "WORDS") (k_WORDS.map V.str)
  d_DEEDS : DicF w K mg "DEEDS" [("plus", "plus"), ("minus", "minus"), ("times", "times"), ("over", "over")]
  e_TooGreat : ExcN K mg "TooGreat"
  e_NoDeed : ExcN K mg "NoDeed"
  e_NoText : ExcN K mg "NoText"
  told : ToldC K mg
  hu_law : ∀ p ∈ tabT K, p.1 = (He.cT K ("law", none)).2 → p.2 = ("law" : Str) ++ ".<locals>." ++ "<lambda>"
section
variable {P : Program} {w : World} {K : PySem.W.Frag} {mg : Str → Option Value} {base : Heap} {T : List (Addr × Str)}
theorem sc_is_key : FnScope N_is_key ["thing"] (defScope s_is_key) := ⟨rfl, rfl, rfl, by decide +kernel, rfl, by decide +kernel, by decide +kernel⟩
theorem ok_is_key (Z : Top w K mg) : OkD P w K mg base T 8 "is_key" 1 d_is_key := by
  obtain ⟨fd, Fd⟩ := Z.f_is_key
  refine ⟨⟨fd, ["thing"], fn_ok Fd sc_is_key rfl fun cdv A outer s0 H0 E F0 hr => ?_, Fd.bindsN (ps := ["thing"]) (fun _ _ _ _ _ _ us hl => match us, hl with | [_], _ => rfl)⟩, Fd.kp, Z.m_is_key⟩
  have tk : Takes (cxOf (L2.CX P w) P w K mg base N_is_key "is_key" (defScope s_is_key) (He.ga K "is_key") cdv A outer s0 H0 E) (WofE E) := takes_of rfl rfl rfl rfl
  have po : PassesOwn (model P w) (cxOf (L2.CX P w) P w K mg base N_is_key "is_key" (defScope s_is_key) (He.ga K "is_key") cdv A outer s0 H0 E).A (cxOf (L2.CX P w) P w K mg base N_is_key "is_key" (defScope s_is_key) (He.ga K "is_key") cdv A outer s0 H0 E).env (cxOf (L2.CX P w) P w K mg base N_is_key "is_key" (defScope s_is_key) (He.ga K "is_key") cdv A outer s0 H0 E).xe := passes_of (X := (cxOf (L2.CX P w) P w K mg base N_is_key "is_key" (defScope s_is_key) (He.ga K "is_key") cdv A outer s0 H0 E)) rfl
  have hu := hr.units
  exact (s_cons (s_if (q_not (q_val (e_callB c_isi rfl Z.b_isinstance bt_isinstance (a_cons (e_var (pv 0)) (a_cons (e_ty Z.b_str bt_str rfl) a_nil))))) (s_one (s_ret e_bl)) s_nil)
    (s_cons (s_if (q_w (w_or (q_cmp (o_in hu) (e_var (pv 0)) (e_gtup (zs := ["sign", "enter", "root", "swap", "roll", "last", "clear"]) Z.m_PLAIN_KEYS Z.c_PLAIN_KEYS rfl) (by rfl)) (w_or (q_inT Z.d_DEEDS rfl (e_var (pv 0))) (w_or1 (q_cmp (o_eq hu) (e_var (pv 0)) e_str (nomark _)))))) (s_one (s_ret e_bl)) s_nil)
    (s_cons (s_if (q_cmp (o_eq hu) (e_callB c_len rfl Z.b_len bt_len (a_cons (e_var (pv 0)) a_nil)) e_int (nomark _)) (s_one (s_ret (e_cmp (o_in hu) (e_var (pv 0)) (e_gstr Z.c_FIGURES rfl) (by rfl)))) s_nil)
    (s_one (s_ret (e_and (e_cmp (o_eq hu) (e_callB c_len rfl Z.b_len bt_len (a_cons (e_var (pv 0)) a_nil)) e_int (nomark _)) (e_and (e_cmp (o_in hu) (e_sl (e_var (pv 0)) p_none (p_some e_int)) (e_tup (a_cons e_str (a_cons e_str a_nil))) (by rfl)) (e_one (e_cmp (o_in hu) (e_ix (e_var (pv 0)) e_int) (e_gstr Z.c_FIGURES rfl) (by rfl))))))))))
theorem sc_is_line : FnScope N_is_line ["thing"] (defScope s_is_line) := ⟨rfl, rfl, rfl, by decide +kernel, rfl, by decide +kernel, by decide +kernel⟩
theorem ok_is_line (Z : Top w K mg) : OkD P w K mg base T 9 "is_line" 1 d_is_line := by
  obtain ⟨fd, Fd⟩ := Z.f_is_line
  refine ⟨⟨fd, ["thing"], fn_ok Fd sc_is_line rfl fun cdv A outer s0 H0 E F0 hr => ?_, Fd.bindsN (ps := ["thing"]) (fun _ _ _ _ _ _ us hl => match us, hl with | [_], _ => rfl)⟩, Fd.kp, Z.m_is_line⟩
  have tk : Takes (cxOf (L2.CX P w) P w K mg base N_is_line "is_line" (defScope s_is_line) (He.ga K "is_line") cdv A outer s0 H0 E) (WofE E) := takes_of rfl rfl rfl rfl
  have po : PassesOwn (model P w) (cxOf (L2.CX P w) P w K mg base N_is_line "is_line" (defScope s_is_line) (He.ga K "is_line") cdv A outer s0 H0 E).A (cxOf (L2.CX P w) P w K mg base N_is_line "is_line" (defScope s_is_line) (He.ga K "is_line") cdv A outer s0 H0 E).env (cxOf (L2.CX P w) P w K mg base N_is_line "is_line" (defScope s_is_line) (He.ga K "is_line") cdv A outer s0 H0 E).xe := passes_of (X := (cxOf (L2.CX P w) P w K mg base N_is_line "is_line" (defScope s_is_line) (He.ga K "is_line") cdv A outer s0 H0 E)) rfl
  have hu := hr.units
  exact (s_cons (s_if (q_val (e_call (ok_is_key Z) hr tk rfl (a_cons (e_var (pv 0)) a_nil))) (s_one (s_ret e_bl)) s_nil)
    (s_cons (s_if (q_w (w_or (q_not (q_val (e_callB c_isi rfl Z.b_isinstance bt_isinstance (a_cons (e_var (pv 0)) (a_cons (e_ty Z.b_str bt_str rfl) a_nil))))) (w_or1 (q_cmp o_lt (e_callB c_len rfl Z.b_len bt_len (a_cons (e_var (pv 0)) a_nil)) e_int (nomark _))))) (s_one (s_ret e_bl)) s_nil)
    (s_one (s_ret (e_or (e_cmp (o_in hu) (e_var (pv 0)) (e_gtup (zs := ["back", "stop", "less", "same", "nought"]) Z.m_OTHERS Z.c_OTHERS rfl) (by rfl)) (e_one (e_and (e_cmp (o_in hu) (e_sl (e_var (pv 0)) p_none (p_some (e_una u_neg e_int))) (e_gtup (zs := ["mark", "go", "call"]) Z.m_WORDS Z.c_WORDS rfl) (by rfl)) (e_one (e_cmp (o_in hu) (e_ix (e_var (pv 0)) (e_una u_neg e_int)) (e_gstr Z.c_FIGURES rfl) (by rfl))))))))))
theorem sc_is_program : FnScope N_is_program ["thing"] (defScope s_is_program) := ⟨rfl, rfl, rfl, by decide +kernel, rfl, by decide +kernel, by decide +kernel⟩
theorem ok_is_program (Z : Top w K mg) : OkD P w K mg base T 10 "is_program" 1 d_is_program := by
  obtain ⟨fd, Fd⟩ := Z.f_is_program
  refine ⟨⟨fd, ["thing"], fn_ok Fd sc_is_program rfl fun cdv A outer s0 H0 E F0 hr => ?_, Fd.bindsN (ps := ["thing"]) (fun _ _ _ _ _ _ us hl => match us, hl with | [_], _ => rfl)⟩, Fd.kp, Z.m_is_program⟩
  have tk : Takes (cxOf (L2.CX P w) P w K mg base N_is_program "is_program" (defScope s_is_program) (He.ga K "is_program") cdv A outer s0 H0 E) (WofE E) := takes_of rfl rfl rfl rfl
  have po : PassesOwn (model P w) (cxOf (L2.CX P w) P w K mg base N_is_program "is_program" (defScope s_is_program) (He.ga K "is_program") cdv A outer s0 H0 E).A (cxOf (L2.CX P w) P w K mg base N_is_program "is_program" (defScope s_is_program) (He.ga K "is_program") cdv A outer s0 H0 E).env (cxOf (L2.CX P w) P w K mg base N_is_program "is_program" (defScope s_is_program) (He.ga K "is_program") cdv A outer s0 H0 E).xe := passes_of (X := (cxOf (L2.CX P w) P w K mg base N_is_program "is_program" (defScope s_is_program) (He.ga K "is_program") cdv A outer s0 H0 E)) rfl
  have hu := hr.units
  exact (s_one (s_ret (e_and (e_callB c_isi rfl Z.b_isinstance bt_isinstance (a_cons (e_var (pv 0)) (a_cons (e_ty Z.b_tuple bt_tuple rfl) a_nil))) (e_and (e_cmp o_le (e_callB c_len rfl Z.b_len bt_len (a_cons (e_var (pv 0)) a_nil)) (e_gint Z.c_MOST_LINES rfl) (nomark _)) (e_one (e_callB (c_all rfl) rfl Z.b_all bt_all (a_cons (e_lc (x := "part") (i := 1) rfl sc_is_program.nd (i_any (e_var (pv 0))) (blkOk_by (N := N_is_program) (sc := defScope s_is_program) (by decide +kernel)) (fun _ _ _ _ _ => pg_name (i := 1) sc_is_program.nd rfl (Or.inl rfl)) (fun _ _ _ _ _ => ts_nil) (fun _ _ _ _ _ => (e_call (ok_is_line Z) hr L2.takes0 rfl (a_cons (e_var (pv 1)) a_nil)))) a_nil)))))))
theorem sc_read_program : FnScope N_read_program ["text"] (defScope s_read_program) := ⟨rfl, rfl, rfl, by decide +kernel, rfl, by decide +kernel, by decide +kernel⟩
theorem ok_read_program (Z : Top w K mg) : OkD P w K mg base T 11 "read_program" 1 d_read_program := by
  obtain ⟨fd, Fd⟩ := Z.f_read_program
  refine ⟨⟨fd, ["text"], fn_ok Fd sc_read_program rfl fun cdv A outer s0 H0 E F0 hr => ?_, Fd.bindsN (ps := ["text"]) (fun _ _ _ _ _ _ us hl => match us, hl with | [_], _ => rfl)⟩, Fd.kp, Z.m_read_program⟩
  have tk : Takes (cxOf (L2.CX P w) P w K mg base N_read_program "read_program" (defScope s_read_program) (He.ga K "read_program") cdv A outer s0 H0 E) (WofE E) := takes_of rfl rfl rfl rfl
  have po : PassesOwn (model P w) (cxOf (L2.CX P w) P w K mg base N_read_program "read_program" (defScope s_read_program) (He.ga K "read_program") cdv A outer s0 H0 E).A (cxOf (L2.CX P w) P w K mg base N_read_program "read_program" (defScope s_read_program) (He.ga K "read_program") cdv A outer s0 H0 E).env (cxOf (L2.CX P w) P w K mg base N_read_program "read_program" (defScope s_read_program) (He.ga K "read_program") cdv A outer s0 H0 E).xe := passes_of (X := (cxOf (L2.CX P w) P w K mg base N_read_program "read_program" (defScope s_read_program) (He.ga K "read_program") cdv A outer s0 H0 E)) rfl
  have hu := hr.units
  exact (s_cons (s_if (q_not (q_val (e_callB c_isi rfl Z.b_isinstance bt_isinstance (a_cons (e_var (pv 0)) (a_cons (e_ty Z.b_str bt_str rfl) a_nil))))) (s_one (s_raise Z.e_NoText rfl tk rfl)) s_nil)
    (s_cons (s_if (q_cmp (o_eq hu) (e_var (pv 0)) e_str (nomark _)) (s_one (s_ret (e_tup a_nil))) s_nil)
    (s_cons (s_asg (e_callTy c_tup rfl Z.b_tuple bt_tuple (a_cons (e_met PySem.F.plainAttrs_str PySem.F.slot_str_split PySem.F.type_str_split m_split (e_var (pv 0)) (a_cons e_str a_nil)) a_nil)) (g_name (pg_name (i := 1) sc_read_program.nd rfl (Or.inl rfl))))
    (s_cons (s_if (q_not (q_val (e_call (ok_is_program Z) hr tk rfl (a_cons (e_var (pv 1)) a_nil)))) (s_one (s_raise Z.e_NoText rfl tk rfl)) s_nil)
    (s_one (s_ret (e_var (pv 1))))))))
theorem sc__law_cell_at : FnScope N__law_cell_at ["script", "k"] (defScope s__law_cell_at) := ⟨rfl, rfl, rfl, by decide +kernel, rfl, by decide +kernel, by decide +kernel⟩
theorem ok__law_cell_at (Z : Top w K mg) : OkD P w K mg base T 1 "_law_cell_at" 2 d__law_cell_at := by
  obtain ⟨fd, Fd⟩ := Z.f__law_cell_at
  refine ⟨⟨fd, ["script", "k"], fn_ok Fd sc__law_cell_at rfl fun cdv A outer s0 H0 E F0 hr => ?_, Fd.bindsN (ps := ["script", "k"]) (fun _ _ _ _ _ _ us hl => match us, hl with | [_, _], _ => rfl)⟩, Fd.kp, Z.m__law_cell_at⟩
  have tk : Takes (cxOf (L2.CX P w) P w K mg base N__law_cell_at "_law_cell_at" (defScope s__law_cell_at) (He.ga K "_law_cell_at") cdv A outer s0 H0 E) (WofE E) := takes_of rfl rfl rfl rfl
  have po : PassesOwn (model P w) (cxOf (L2.CX P w) P w K mg base N__law_cell_at "_law_cell_at" (defScope s__law_cell_at) (He.ga K "_law_cell_at") cdv A outer s0 H0 E).A (cxOf (L2.CX P w) P w K mg base N__law_cell_at "_law_cell_at" (defScope s__law_cell_at) (He.ga K "_law_cell_at") cdv A outer s0 H0 E).env (cxOf (L2.CX P w) P w K mg base N__law_cell_at "_law_cell_at" (defScope s__law_cell_at) (He.ga K "_law_cell_at") cdv A outer s0 H0 E).xe := passes_of (X := (cxOf (L2.CX P w) P w K mg base N__law_cell_at "_law_cell_at" (defScope s__law_cell_at) (He.ga K "_law_cell_at") cdv A outer s0 H0 E)) rfl
  have hu := hr.units
  exact (s_cons (s_if (q_cmp o_lt (e_var (pv 1)) (e_callB c_len rfl Z.b_len bt_len (a_cons (e_var (pv 0)) a_nil)) (nomark _)) (s_one (s_ret (e_ix (e_var (pv 0)) (e_var (pv 1))))) s_nil)
    (s_one (s_ret e_int)))
theorem sc__law_mixed : FnScope N__law_mixed ["script", "k"] (defScope s__law_mixed) := ⟨rfl, rfl, rfl, by decide +kernel, rfl, by decide +kernel, by decide +kernel⟩
theorem ok__law_mixed (Z : Top w K mg) : OkD P w K mg base T 2 "_law_mixed" 2 d__law_mixed := by
  obtain ⟨fd, Fd⟩ := Z.f__law_mixed
  refine ⟨⟨fd, ["script", "k"], fn_ok Fd sc__law_mixed rfl fun cdv A outer s0 H0 E F0 hr => ?_, Fd.bindsN (ps := ["script", "k"]) (fun _ _ _ _ _ _ us hl => match us, hl with | [_, _], _ => rfl)⟩, Fd.kp, Z.m__law_mixed⟩
  have tk : Takes (cxOf (L2.CX P w) P w K mg base N__law_mixed "_law_mixed" (defScope s__law_mixed) (He.ga K "_law_mixed") cdv A outer s0 H0 E) (WofE E) := takes_of rfl rfl rfl rfl
  have po : PassesOwn (model P w) (cxOf (L2.CX P w) P w K mg base N__law_mixed "_law_mixed" (defScope s__law_mixed) (He.ga K "_law_mixed") cdv A outer s0 H0 E).A (cxOf (L2.CX P w) P w K mg base N__law_mixed "_law_mixed" (defScope s__law_mixed) (He.ga K "_law_mixed") cdv A outer s0 H0 E).env (cxOf (L2.CX P w) P w K mg base N__law_mixed "_law_mixed" (defScope s__law_mixed) (He.ga K "_law_mixed") cdv A outer s0 H0 E).xe := passes_of (X := (cxOf (L2.CX P w) P w K mg base N__law_mixed "_law_mixed" (defScope s__law_mixed) (He.ga K "_law_mixed") cdv A outer s0 H0 E)) rfl
  have hu := hr.units
  exact (s_cons (s_asg (e_bin o_mod (e_bin o_mul (e_bin o_add (e_bin o_add (e_call (ok__law_cell_at Z) hr tk rfl (a_cons (e_var (pv 0)) (a_cons (e_var (pv 1)) a_nil))) (e_bin o_mul e_int (e_var (pv 1)))) e_int) e_int) e_int) (g_name (pg_name (i := 2) sc__law_mixed.nd rfl (Or.inl rfl))))
    (s_one (s_ret (e_bin o_mod (e_bin o_add (e_bin o_add (e_bin o_mul (e_var (pv 2)) (e_var (pv 2))) (e_bin o_mul e_int (e_var (pv 2)))) (e_var (pv 1))) e_int))))
theorem sc__law_drawn : FnScope N__law_drawn ["number", "k"] (defScope s__law_drawn) := ⟨rfl, rfl, rfl, by decide +kernel, rfl, by decide +kernel, by decide +kernel⟩
theorem ok__law_drawn (Z : Top w K mg) : OkD P w K mg base T 1 "_law_drawn" 2 d__law_drawn := by
  obtain ⟨fd, Fd⟩ := Z.f__law_drawn
  refine ⟨⟨fd, ["number", "k"], fn_ok Fd sc__law_drawn rfl fun cdv A outer s0 H0 E F0 hr => ?_, Fd.bindsN (ps := ["number", "k"]) (fun _ _ _ _ _ _ us hl => match us, hl with | [_, _], _ => rfl)⟩, Fd.kp, Z.m__law_drawn⟩
  have tk : Takes (cxOf (L2.CX P w) P w K mg base N__law_drawn "_law_drawn" (defScope s__law_drawn) (He.ga K "_law_drawn") cdv A outer s0 H0 E) (WofE E) := takes_of rfl rfl rfl rfl
  have po : PassesOwn (model P w) (cxOf (L2.CX P w) P w K mg base N__law_drawn "_law_drawn" (defScope s__law_drawn) (He.ga K "_law_drawn") cdv A outer s0 H0 E).A (cxOf (L2.CX P w) P w K mg base N__law_drawn "_law_drawn" (defScope s__law_drawn) (He.ga K "_law_drawn") cdv A outer s0 H0 E).env (cxOf (L2.CX P w) P w K mg base N__law_drawn "_law_drawn" (defScope s__law_drawn) (He.ga K "_law_drawn") cdv A outer s0 H0 E).xe := passes_of (X := (cxOf (L2.CX P w) P w K mg base N__law_drawn "_law_drawn" (defScope s__law_drawn) (He.ga K "_law_drawn") cdv A outer s0 H0 E)) rfl
  have hu := hr.units
  exact (s_cons (s_asg (e_bin o_mod (e_bin o_mul (e_bin o_add (e_bin o_add (e_var (pv 0)) (e_bin o_mul e_int (e_var (pv 1)))) e_int) e_int) e_int) (g_name (pg_name (i := 2) sc__law_drawn.nd rfl (Or.inl rfl))))
    (s_one (s_ret (e_bin o_mod (e_bin o_add (e_bin o_add (e_bin o_mul (e_var (pv 2)) (e_var (pv 2))) (e_bin o_mul e_int (e_var (pv 2)))) (e_var (pv 1))) e_int))))
theorem sc__law_line : FnScope N__law_line ["number"] (defScope s__law_line) := ⟨rfl, rfl, rfl, by decide +kernel, rfl, by decide +kernel, by decide +kernel⟩
theorem ok__law_line (Z : Top w K mg) : OkD P w K mg base T 1 "_law_line" 1 d__law_line := by
  obtain ⟨fd, Fd⟩ := Z.f__law_line
  refine ⟨⟨fd, ["number"], fn_ok Fd sc__law_line rfl fun cdv A outer s0 H0 E F0 hr => ?_, Fd.bindsN (ps := ["number"]) (fun _ _ _ _ _ _ us hl => match us, hl with | [_], _ => rfl)⟩, Fd.kp, Z.m__law_line⟩
  have tk : Takes (cxOf (L2.CX P w) P w K mg base N__law_line "_law_line" (defScope s__law_line) (He.ga K "_law_line") cdv A outer s0 H0 E) (WofE E) := takes_of rfl rfl rfl rfl
  have po : PassesOwn (model P w) (cxOf (L2.CX P w) P w K mg base N__law_line "_law_line" (defScope s__law_line) (He.ga K "_law_line") cdv A outer s0 H0 E).A (cxOf (L2.CX P w) P w K mg base N__law_line "_law_line" (defScope s__law_line) (He.ga K "_law_line") cdv A outer s0 H0 E).env (cxOf (L2.CX P w) P w K mg base N__law_line "_law_line" (defScope s__law_line) (He.ga K "_law_line") cdv A outer s0 H0 E).xe := passes_of (X := (cxOf (L2.CX P w) P w K mg base N__law_line "_law_line" (defScope s__law_line) (He.ga K "_law_line") cdv A outer s0 H0 E)) rfl
  have hu := hr.units
  exact (s_cons (s_asg (e_lst (a_cons e_str (a_cons e_str (a_cons e_str (a_cons e_str (a_cons e_str (a_cons e_str (a_cons e_str (a_cons e_str (a_cons e_str (a_cons e_str (a_cons e_str (a_cons e_str (a_cons e_str a_nil)))))))))))))) (g_name (pg_name (i := 1) sc__law_line.nd rfl (Or.inl rfl))))
    (s_cons (s_asg (e_bin o_add (e_var (pv 1)) (e_lst (a_cons e_str (a_cons e_str (a_cons e_str (a_cons e_str (a_cons e_str (a_cons e_str (a_cons e_str (a_cons e_str (a_cons e_str (a_cons e_str (a_cons e_str (a_cons e_str a_nil)))))))))))))) (g_name (pg_name (i := 1) sc__law_line.nd rfl (Or.inl rfl))))
    (s_one (s_ret (e_ix (e_bin o_add (e_var (pv 1)) (e_lst (a_cons e_str (a_cons e_str (a_cons e_str (a_cons e_str (a_cons e_str (a_cons e_str (a_cons e_str a_nil))))))))) (e_bin o_mod (e_var (pv 0)) e_int))))))
theorem sc__law_program : FnScope N__law_program ["number", "most"] (defScope s__law_program) := ⟨rfl, rfl, rfl, by decide +kernel, rfl, by decide +kernel, by decide +kernel⟩
theorem ok__law_program (Z : Top w K mg) : OkD P w K mg base T 2 "_law_program" 2 d__law_program := by
  obtain ⟨fd, Fd⟩ := Z.f__law_program
  refine ⟨⟨fd, ["number", "most"], fn_ok Fd sc__law_program rfl fun cdv A outer s0 H0 E F0 hr => ?_, Fd.bindsN (ps := ["number", "most"]) (fun _ _ _ _ _ _ us hl => match us, hl with | [_, _], _ => rfl)⟩, Fd.kp, Z.m__law_program⟩
  have tk : Takes (cxOf (L2.CX P w) P w K mg base N__law_program "_law_program" (defScope s__law_program) (He.ga K "_law_program") cdv A outer s0 H0 E) (WofE E) := takes_of rfl rfl rfl rfl
  have po : PassesOwn (model P w) (cxOf (L2.CX P w) P w K mg base N__law_program "_law_program" (defScope s__law_program) (He.ga K "_law_program") cdv A outer s0 H0 E).A (cxOf (L2.CX P w) P w K mg base N__law_program "_law_program" (defScope s__law_program) (He.ga K "_law_program") cdv A outer s0 H0 E).env (cxOf (L2.CX P w) P w K mg base N__law_program "_law_program" (defScope s__law_program) (He.ga K "_law_program") cdv A outer s0 H0 E).xe := passes_of (X := (cxOf (L2.CX P w) P w K mg base N__law_program "_law_program" (defScope s__law_program) (He.ga K "_law_program") cdv A outer s0 H0 E)) rfl
  have hu := hr.units
  exact (s_one (s_ret (e_callTy c_tup rfl Z.b_tuple bt_tuple (a_cons (e_lc (x := "k") (i := 2) rfl sc__law_program.nd (i_rng1 rfl Z.b_range (a_cons (e_bin o_mod (e_var (pv 0)) (e_bin o_add (e_var (pv 1)) e_int)) a_nil)) (blkOk_by (N := N__law_program) (sc := defScope s__law_program) (by decide +kernel)) (fun _ _ _ _ _ => pg_name (i := 2) sc__law_program.nd rfl (Or.inl rfl)) (fun _ _ _ _ _ => ts_nil) (fun _ _ _ _ _ => (e_call (ok__law_line Z) hr L2.takes0 rfl (a_cons (e_bin o_div (e_call (ok__law_drawn Z) hr L2.takes0 rfl (a_cons (e_var (pv 0)) (a_cons (e_var (pv 2)) a_nil))) e_int) a_nil)))) a_nil))))
theorem sc__law_changed : FnScope N__law_changed_v2 ["text", "number"] (defScope s__law_changed) := ⟨rfl, rfl, rfl, by decide +kernel, rfl, by decide +kernel, by decide +kernel⟩
theorem ok__law_changed (Z : Top w K mg) : OkD P w K mg base T 1 "_law_changed" 2 d__law_changed_v2 := by
  obtain ⟨fd, Fd⟩ := Z.f__law_changed
  refine ⟨⟨fd, ["text", "number"], fn_ok Fd sc__law_changed rfl fun cdv A outer s0 H0 E F0 hr => ?_, Fd.bindsN (ps := ["text", "number"]) (fun _ _ _ _ _ _ us hl => match us, hl with | [_, _], _ => rfl)⟩, Fd.kp, Z.m__law_changed⟩
  have tk : Takes (cxOf (L2.CX P w) P w K mg base N__law_changed_v2 "_law_changed" (defScope s__law_changed) (He.ga K "_law_changed") cdv A outer s0 H0 E) (WofE E) := takes_of rfl rfl rfl rfl
  have po : PassesOwn (model P w) (cxOf (L2.CX P w) P w K mg base N__law_changed_v2 "_law_changed" (defScope s__law_changed) (He.ga K "_law_changed") cdv A outer s0 H0 E).A (cxOf (L2.CX P w) P w K mg base N__law_changed_v2 "_law_changed" (defScope s__law_changed) (He.ga K "_law_changed") cdv A outer s0 H0 E).env (cxOf (L2.CX P w) P w K mg base N__law_changed_v2 "_law_changed" (defScope s__law_changed) (He.ga K "_law_changed") cdv A outer s0 H0 E).xe := passes_of (X := (cxOf (L2.CX P w) P w K mg base N__law_changed_v2 "_law_changed" (defScope s__law_changed) (He.ga K "_law_changed") cdv A outer s0 H0 E)) rfl
  have hu := hr.units
  exact (s_cons (s_asg (e_bin o_mod (e_bin o_div (e_var (pv 1)) e_int) (e_bin o_add (e_callB c_len rfl Z.b_len bt_len (a_cons (e_var (pv 0)) a_nil)) e_int)) (g_name (pg_name (i := 2) sc__law_changed.nd rfl (Or.inl rfl))))
    (s_cons (s_asg (e_ix e_str (e_bin o_mod (e_bin o_div (e_var (pv 1)) e_int) e_int)) (g_name (pg_name (i := 3) sc__law_changed.nd rfl (Or.inl rfl))))
    (s_cons (s_asg (e_met PySem.F.plainAttrs_str PySem.F.slot_str_split PySem.F.type_str_split m_split (e_var (pv 0)) (a_cons e_str a_nil)) (g_name (pg_name (i := 4) sc__law_changed.nd rfl (Or.inl rfl))))
    (s_cons (s_asg (e_bin o_mod (e_bin o_div (e_var (pv 1)) e_int) (e_callB c_len rfl Z.b_len bt_len (a_cons (e_var (pv 4)) a_nil))) (g_name (pg_name (i := 5) sc__law_changed.nd rfl (Or.inl rfl))))
    (s_cons (s_own (o_lst (a_cons (e_bin o_add (e_bin o_add (e_sl (e_var (pv 0)) p_none (p_some (e_var (pv 2)))) (e_var (pv 3))) (e_sl (e_var (pv 0)) (p_some (e_var (pv 2))) p_none)) (a_cons (e_bin o_add (e_sl (e_var (pv 0)) p_none (p_some (e_var (pv 2)))) (e_sl (e_var (pv 0)) (p_some (e_bin o_add (e_var (pv 2)) e_int)) p_none)) (a_cons (e_bin o_add (e_bin o_add (e_sl (e_var (pv 0)) p_none (p_some (e_var (pv 2)))) (e_var (pv 3))) (e_sl (e_var (pv 0)) (p_some (e_bin o_add (e_var (pv 2)) e_int)) p_none)) a_nil)))) (pg_name (i := 6) sc__law_changed.nd rfl (Or.inl rfl)))
    (s_cons (s_app (pv 6) (e_met PySem.F.plainAttrs_str PySem.F.slot_str_join PySem.F.type_str_join m_join e_str (a_cons (e_bin o_add (e_sl (e_var (pv 4)) p_none (p_some (e_var (pv 5)))) (e_sl (e_var (pv 4)) (p_some (e_bin o_add (e_var (pv 5)) e_int)) p_none)) a_nil)))
    (s_cons (s_app (pv 6) (e_met PySem.F.plainAttrs_str PySem.F.slot_str_join PySem.F.type_str_join m_join e_str (a_cons (e_bin o_add (e_bin o_add (e_sl (e_var (pv 4)) p_none (p_some (e_var (pv 5)))) (e_sl (e_var (pv 4)) (p_some (e_var (pv 5))) (p_some (e_bin o_add (e_var (pv 5)) e_int)))) (e_sl (e_var (pv 4)) (p_some (e_var (pv 5))) p_none)) a_nil)))
    (s_cons (s_app (pv 6) (e_met PySem.F.plainAttrs_str PySem.F.slot_str_join PySem.F.type_str_join m_join e_str (a_cons (e_bin o_add (e_bin o_add (e_sl (e_var (pv 4)) p_none (p_some (e_var (pv 5)))) (e_rev (e_sl (e_var (pv 4)) (p_some (e_var (pv 5))) (p_some (e_bin o_add (e_var (pv 5)) e_int))))) (e_sl (e_var (pv 4)) (p_some (e_bin o_add (e_var (pv 5)) e_int)) p_none)) a_nil)))
    (s_frz 6 (s_one (s_ret (e_ix (e_var (pv 6)) (e_bin o_mod (e_var (pv 1)) e_int)))))))))))))
theorem sc__law_is_line : FnScope N__law_is_line_v2 ["thing"] (defScope s__law_is_line) := ⟨rfl, rfl, rfl, by decide +kernel, rfl, by decide +kernel, by decide +kernel⟩
theorem ok__law_is_line (Z : Top w K mg) : OkD P w K mg base T 1 "_law_is_line" 1 d__law_is_line_v2 := by
  obtain ⟨fd, Fd⟩ := Z.f__law_is_line
  refine ⟨⟨fd, ["thing"], fn_ok Fd sc__law_is_line rfl fun cdv A outer s0 H0 E F0 hr => ?_, Fd.bindsN (ps := ["thing"]) (fun _ _ _ _ _ _ us hl => match us, hl with | [_], _ => rfl)⟩, Fd.kp, Z.m__law_is_line⟩
  have tk : Takes (cxOf (L2.CX P w) P w K mg base N__law_is_line_v2 "_law_is_line" (defScope s__law_is_line) (He.ga K "_law_is_line") cdv A outer s0 H0 E) (WofE E) := takes_of rfl rfl rfl rfl
  have po : PassesOwn (model P w) (cxOf (L2.CX P w) P w K mg base N__law_is_line_v2 "_law_is_line" (defScope s__law_is_line) (He.ga K "_law_is_line") cdv A outer s0 H0 E).A (cxOf (L2.CX P w) P w K mg base N__law_is_line_v2 "_law_is_line" (defScope s__law_is_line) (He.ga K "_law_is_line") cdv A outer s0 H0 E).env (cxOf (L2.CX P w) P w K mg base N__law_is_line_v2 "_law_is_line" (defScope s__law_is_line) (He.ga K "_law_is_line") cdv A outer s0 H0 E).xe := passes_of (X := (cxOf (L2.CX P w) P w K mg base N__law_is_line_v2 "_law_is_line" (defScope s__law_is_line) (He.ga K "_law_is_line") cdv A outer s0 H0 E)) rfl
  have hu := hr.units
  exact (s_cons (s_asg e_str (g_name (pg_name (i := 1) sc__law_is_line.nd rfl (Or.inl rfl))))
    (s_cons (s_asg (e_bin o_add (e_var (pv 1)) e_str) (g_name (pg_name (i := 1) sc__law_is_line.nd rfl (Or.inl rfl))))
    (s_cons (s_if (q_cmp (o_in hu) (e_var (pv 0)) (e_met PySem.F.plainAttrs_str PySem.F.slot_str_split PySem.F.type_str_split m_split (e_var (pv 1)) (a_cons e_str a_nil)) (by rfl)) (s_one (s_ret e_bl)) s_nil)
    (s_cons (s_if (q_w (w_or (q_cmp (o_eq hu) (e_var (pv 0)) e_str (nomark _)) (w_or1 (q_cmp (o_ni hu) (e_ix (e_var (pv 0)) (e_una u_neg e_int)) e_str (by rfl))))) (s_one (s_ret e_bl)) s_nil)
    (s_one (s_ret (e_cmp (o_in hu) (e_sl (e_var (pv 0)) p_none (p_some (e_una u_neg e_int))) (e_tup (a_cons e_str (a_cons e_str (a_cons e_str (a_cons e_str (a_cons e_str a_nil)))))) (by rfl))))))))
def N_law : List Str := ["script", "number", "program", "text", "k", "found", "due", "part"]
def b1_law : Rho → SR :=
  (sasg (callD 2 d__law_changed_v2 (acons (var 3) (acons (bop divD (callD 2 d__law_drawn (acons (var 1) (acons (var 4) anil))) (con (.int 4))) anil))) (gn 3))
def e2_law : Rho → Res D :=
  (var 7)
def t7_law : Rho → SR :=
  (sret (bop eqD (toldD (callD 1 d_read_program (acons (var 3) anil))) (var 6)))
def t6_law : Rho → SR :=
  sseq (sif (orQ (tst (bop gtD (cal lenD (acons (var 5) anil)) (con (.int 30)))) (tst (bop neD (lcD (its (var 5)) 7 (notQ (tst (callD 1 d__law_is_line_v2 (acons (var 7) anil)))) e2_law) (mkL anil)))) (sasg (mkT (acons (con (.str "refused")) (acons (con (.int 1)) anil))) (gn 6)) sskip) (t7_law)
def t5_law : Rho → SR :=
  sseq (sasg (mkT (acons (con (.str "told")) (acons (var 5) anil))) (gn 6)) (t6_law)
def t4_law : Rho → SR :=
  sseq (sasg (bop mulAD (cal tupD (acons (met splitD (var 3) (acons (con (.str " ")) anil)) anil)) (cal intD (acons (bop neD (var 3) (con (.str "-"))) anil))) (gn 5)) (t5_law)
def t3_law : Rho → SR :=
  sseq (sfor (rng1 (acons (bop ixD (mkT (acons (con (.int 0)) (acons (con (.int 1)) (acons (con (.int 2)) (acons (con (.int 4)) (acons (con (.int 0)) (acons (con (.int 1)) anil))))))) (bop modD (var 1) (con (.int 6)))) anil)) (gn 4) b1_law) (t4_law)
def t2_law : Rho → SR :=
  sseq (sasg (bop addD (met joinD (con (.str " ")) (acons (var 2) anil)) (bop mulD (con (.str "-")) (cal intD (acons (bop eqD (var 2) (mkT anil)) anil)))) (gn 3)) (t3_law)
def t1_law : Rho → SR :=
  sseq (sasg (callD 2 d__law_program (acons (callD 2 d__law_mixed (acons (var 0) (acons (con (.int 1)) anil))) (acons (con (.int 31)) anil))) (gn 2)) (t2_law)
def g_law : Rho → SR :=
  sseq (sasg (callD 2 d__law_mixed (acons (var 0) (acons (con (.int 0)) anil))) (gn 1)) (t1_law)
def d_law (ds : List D) : Res D := runB 8 g_law ds
theorem v_law {a0 : D} : d_law [a0] = finR (g_law [.z a0, .u, .u, .u, .u, .u, .u, .u]) := runB_eq rfl
theorem sc_law : FnScope N_law ["script"] (defScope s_law) := ⟨rfl, rfl, rfl, by decide +kernel, rfl, by decide +kernel, by decide +kernel⟩
theorem law_fn (Z : Top w K mg) (B : ∀ d ∈ tfs, LamX.TabB base mg (He.cT K d).1 (He.cT K d).2) {fd : FuncData} (Fd : FunD K "law" "law" (defArgs s_law) (defBody s_law) (defScope s_law) [] [] (He.ga K "law") fd) : FnOk P w K mg base (L2.CX P w) 14 (He.ga K "law") fd ["script"] (spD K (tabT K) 1 d_law) := by
  refine fn_okC Fd sc_law rfl fun A outer s0 H0 E F0 hr => ?_
  obtain ⟨fdt, Ft⟩ := Z.f__law_told
  have tk : Takes (cxOf (L2.CX P w) P w K mg base N_law "law" (defScope s_law) (He.ga K "law") (.ref (He.cT K ("law", none)).1) A outer s0 H0 E) (WofE E) := takes_of rfl rfl rfl rfl
  have po : PassesOwn (model P w) (cxOf (L2.CX P w) P w K mg base N_law "law" (defScope s_law) (He.ga K "law") (.ref (He.cT K ("law", none)).1) A outer s0 H0 E).A (cxOf (L2.CX P w) P w K mg base N_law "law" (defScope s_law) (He.ga K "law") (.ref (He.cT K ("law", none)).1) A outer s0 H0 E).env (cxOf (L2.CX P w) P w K mg base N_law "law" (defScope s_law) (He.ga K "law") (.ref (He.cT K ("law", none)).1) A outer s0 H0 E).xe := passes_of (X := (cxOf (L2.CX P w) P w K mg base N_law "law" (defScope s_law) (He.ga K "law") (.ref (He.cT K ("law", none)).1) A outer s0 H0 E)) rfl
  have hu := hr.units
  exact (s_cons (s_asg (e_call (ok__law_mixed Z) hr tk rfl (a_cons (e_var (pv 0)) (a_cons e_int a_nil))) (g_name (pg_name (i := 1) sc_law.nd rfl (Or.inl rfl))))
    (s_cons (s_asg (e_call (ok__law_program Z) hr tk rfl (a_cons (e_call (ok__law_mixed Z) hr tk rfl (a_cons (e_var (pv 0)) (a_cons e_int a_nil))) (a_cons e_int a_nil))) (g_name (pg_name (i := 2) sc_law.nd rfl (Or.inl rfl))))
    (s_cons (s_asg (e_bin o_add (e_met PySem.F.plainAttrs_str PySem.F.slot_str_join PySem.F.type_str_join m_join e_str (a_cons (e_var (pv 2)) a_nil)) (e_bin o_mul e_str (e_callTy c_int rfl Z.b_int bt_int (a_cons (e_cmp (o_eq hu) (e_var (pv 2)) (e_tup a_nil) (nomark _)) a_nil)))) (g_name (pg_name (i := 3) sc_law.nd rfl (Or.inr rfl))))
    (s_cons (s_for po rfl (i_rng1 rfl Z.b_range (a_cons (e_ix (e_tup (a_cons e_int (a_cons e_int (a_cons e_int (a_cons e_int (a_cons e_int (a_cons e_int a_nil))))))) (e_bin o_mod (e_var (pv 1)) e_int)) a_nil)) (g_name (pg_name (i := 4) sc_law.nd rfl (Or.inl rfl))) (s_one (s_asg (e_call (ok__law_changed Z) hr tk rfl (a_cons (e_var (pv 3)) (a_cons (e_bin o_div (e_call (ok__law_drawn Z) hr tk rfl (a_cons (e_var (pv 1)) (a_cons (e_var (pv 4)) a_nil))) e_int) a_nil))) (g_name (pg_name (i := 3) sc_law.nd rfl (Or.inr rfl))))))
    (s_cons (s_asg (e_bin o_mulA (e_callTy c_tup rfl Z.b_tuple bt_tuple (a_cons (e_met PySem.F.plainAttrs_str PySem.F.slot_str_split PySem.F.type_str_split m_split (e_var (pv 3)) (a_cons e_str a_nil)) a_nil)) (e_callTy c_int rfl Z.b_int bt_int (a_cons (e_cmp (o_ne hu) (e_var (pv 3)) e_str (nomark _)) a_nil))) (g_name (pg_name (i := 5) sc_law.nd rfl (Or.inl rfl))))
    (s_cons (s_asg (e_tup (a_cons e_str (a_cons (e_var (pv 5)) a_nil))) (g_name (pg_name (i := 6) sc_law.nd rfl (Or.inl rfl))))
    (s_cons (s_if (q_w (w_or (q_cmp o_gt (e_callB c_len rfl Z.b_len bt_len (a_cons (e_var (pv 5)) a_nil)) e_int (nomark _)) (w_or1 (q_cmp (o_ne hu) (e_lc (x := "part") (i := 7) rfl sc_law.nd (i_any (e_var (pv 5))) (blkOk_by (N := N_law) (sc := defScope s_law) (by decide +kernel)) (fun _ _ _ _ _ => pg_name (i := 7) sc_law.nd rfl (Or.inl rfl)) (fun _ _ _ _ _ => (ts_one (q_not (q_val (e_call (ok__law_is_line Z) hr L2.takes0 rfl (a_cons (e_var (pv 7)) a_nil)))))) (fun _ _ _ _ _ => (e_var (pv 7)))) (e_lst a_nil) (nomark _))))) (s_one (s_asg (e_tup (a_cons e_str (a_cons e_int a_nil))) (g_name (pg_name (i := 6) sc_law.nd rfl (Or.inl rfl))))) s_nil)
    (s_one (s_ret (e_cmp (o_eq hu) (e_told (k := 11) (q := ("law" : Str) ++ ".<locals>." ++ "<lambda>") Ft Z.m__law_told (Ft.bindsN (ps := ["deed"]) (fun _ _ _ _ _ _ us hl => match us, hl with | [_], _ => rfl)) sc__law_told (fun _ => told_gives toldS Z.told rfl rfl rfl) (B ("law", none) (by unfold tfs; simp)) rfl rfl (by unfold tabT; simp) Z.hu_law rfl hr (by show LamX.lamSB (defScope s_law) _ = true; decide +kernel) (fun _ _ _ _ _ _ _ hr => (e_call (ok_read_program Z) hr (takes_of rfl rfl rfl rfl) rfl (a_cons (e_var (pv 3)) a_nil)))) (e_var (pv 6)) (nomark _)))))))))))
end
theorem x_cell {ns : List Int} {k : Int} (h : 0 ≤ k) : ∃ c, d__law_cell_at [.arr ns, .int k] = .ok (.int c) := by
  by_cases hk : k < ns.length
  · have hi : ∃ c, ixD (.arr ns) (.int k) = some (.int c) := by
      refine ⟨ns.getD k.toNat 0, ?_⟩
      show (atI ns k).map D.int = _
      unfold atI ixN
      rw [if_pos h, if_pos hk]
      show (ns[k.toNat]?).map D.int = _
      rw [List.getElem?_eq_getElem (by omega), List.getD_eq_getElem?_getD, List.getElem?_eq_getElem (by omega)]
      rfl
    obtain ⟨c, hc⟩ := hi
    exact ⟨c, by simp?! [v__law_cell_at, g__law_cell_at, t1__law_cell_at, hk, hc]⟩
  · exact ⟨0, by simp?! [v__law_cell_at, g__law_cell_at, t1__law_cell_at, hk]⟩
theorem x_mixed {ns : List Int} {k : Int} (h : 0 ≤ k) (h2 : k < 1000) : ∃ m, d__law_mixed [.arr ns, .int k] = .ok (.int m) ∧ 0 ≤ m ∧ m < 2147483629 := by
  obtain ⟨c, hc⟩ := x_cell (ns := ns) h
  simp?! [v__law_mixed, g__law_mixed, t1__law_mixed, hc]
  exact ⟨_, rfl, Int.emod_nonneg _ (by decide), Int.emod_lt_of_pos _ (by decide)⟩
theorem x_drawn {n k : Int} (h : 0 ≤ k) (h2 : k < 1000) : ∃ m, d__law_drawn [.int n, .int k] = .ok (.int m) ∧ 0 ≤ m ∧ m < 2147483629 := by
  simp?! [v__law_drawn, g__law_drawn, t1__law_drawn]
  exact ⟨_, rfl, Int.emod_nonneg _ (by decide), Int.emod_lt_of_pos _ (by decide)⟩
theorem sel_mem {xs : List D} {n : Nat} (h : n < xs.length) : xs.getD n .non ∈ xs := by
  rw [List.getD_eq_getElem?_getD, List.getElem?_eq_getElem h]
  exact List.getElem_mem h
/-! the law's own numbers -/
/-! heights -/
/-! _law_ten -/
theorem rng1_eq {f : Rho → Res (List D)} {ρ : Rho} {j : Int} (h : f ρ = .ok [.int j]) (h1 : 0 ≤ j) (h2 : j < 5000) : rng1 f ρ = .ok (rngD 0 j.toNat) := by
  unfold rng1
  rw [h]
  simp only [Res.bind]
  rw [if_pos ⟨by omega, by omega⟩]
theorem rngD_len {i : Int} {n : Nat} : (rngD i n).length = n := by unfold rngD; rw [List.length_map, List.length_range]
/-! exact and what it calls -/
/-! the law's exact -/
/-! manners -/
/-! comparing, comprehensions -/
mutual
theorem eqd_refl : ∀ (n : Nat) (d : D), plain n d = true → eqd d d = true
  | _, .non, _ => rfl
  | _, .bl b, _ => by simp [eqd]
  | _, .int i, _ => by simp [eqd]
  | _, .str x, _ => by simp [eqd]
  | n, .lst xs, h => by
    cases n with
    | zero => cases h
    | succ n => exact eqds_refl n xs h
  | n, .tup xs, h => by
    cases n with
    | zero => cases h
    | succ n => exact eqds_refl n xs h
  | n, .fn _, h => by cases n <;> cases h
  | n, .ty _, h => by cases n <;> cases h
  | n, .dK _, h => by cases n <;> cases h
  | n, .dT _, h => by cases n <;> cases h
  | n, .arr _, h => by cases n <;> cases h
  | n, .pro _, h => by cases n <;> cases h
theorem eqds_refl : ∀ (n : Nat) (ds : List D), plains n ds = true → eqds ds ds = true
  | _, [], _ => rfl
  | n, d :: ds, h => by
    have h : (plain n d && plains n ds) = true := h
    rw [Bool.and_eq_true] at h
    show (eqd d d && eqds ds ds) = true
    rw [eqd_refl n d h.1, eqds_refl n ds h.2]
    rfl
end
theorem eq_same {d : D} (h : plain 64 d = true) : eqD d d = some (.bl true) := by
  unfold eqD eqOk
  rw [h, Bool.and_self, Bool.and_self, Bool.or_true, if_pos rfl, eqd_refl 64 d h]
theorem comp_f {g : Tg} {t : Rho → Res Bool} {e : Rho → Res D} {ρ ρ1 : Rho} {d : D} {ds : List D} (h : g ρ d = some ρ1) (h2 : t ρ1 = .ok false) : compD g t e ρ (d :: ds) = compD g t e ρ ds := by
  rw [compD, h]
  simp only
  rw [h2]
  rfl
theorem comp_t {g : Tg} {t : Rho → Res Bool} {e : Rho → Res D} {ρ ρ1 : Rho} {d y : D} {ds ys : List D} (h : g ρ d = some ρ1) (h2 : t ρ1 = .ok true) (h3 : e ρ1 = .ok y) (h4 : compD g t e ρ ds = .ok ys) : compD g t e ρ (d :: ds) = .ok (y :: ys) := by
  rw [compD, h]
  simp only
  rw [h2]
  simp only [if_true]
  rw [h3]
  simp only
  rw [h4]
  rfl
theorem lc_eq {f : Rho → Res (List D)} {i : Nat} {t : Rho → Res Bool} {e : Rho → Res D} {ρ : Rho} {ds ys : List D} (h : f ρ = .ok ds) (hl : ds.length ≤ 1000000) (h2 : compD (gn i) t e (ρ.set i .u) ds = .ok ys) : lcD f i t e ρ = .ok (.lst ys) := by
  unfold lcD
  rw [h]
  simp only [Res.bind]
  rw [if_pos (by rw [sizeLine_eq]; omega), h2]
theorem so_told : PyData.strOk (Str.ofString "told") = true := by decide +kernel
theorem so_ref : PyData.strOk (Str.ofString "refused") = true := by decide +kernel
theorem pl_ref {k : Int} : DN.plain 64 (.tup [.str "refused", .int k]) = true := by
  show (PyData.strOk (Str.ofString "refused") && (true && true)) = true
  rw [so_ref]
  rfl
theorem pl_told {d : D} (h : DN.plain 63 d = true) : DN.plain 64 (.tup [.str "told", d]) = true := by
  show (PyData.strOk (Str.ofString "told") && (DN.plain 63 d && true)) = true
  rw [so_told, h]
  rfl
/-! plus, minus, times, over, less, and the law's deed -/
/-! the law's -/
theorem told_def {f : Rho → Res D} {ρ : Rho} : toldD f ρ = toldR (f ρ) := rfl
theorem told_ok {d : D} : toldR (.ok d) = .ok (.tup [.str "told", d]) := rfl
/-! lines: any text -/
def figL : List Nat := [48, 49, 50, 51, 52, 53, 54, 55, 56, 57]
def tlS (x : Str) : List Nat := x.cps.toList
def wdL : List (List Nat) := (["0", "1", "2", "3", "4", "5", "6", "7", "8", "9", ".", "sign", "enter", "plus", "minus", "times", "over", "root", "swap", "roll", "last", "clear", "back", "stop", "less", "same", "nought"] : List Str).map tlS ++ ((["put", "get", "mark", "go", "call"] : List Str).map tlS).flatMap fun w => figL.map fun c => w ++ [c]
def lnC (l : List Nat) : Bool := wdL.contains l
def isT : Res D → Bool
  | .ok (.bl b) => b
  | _ => false
theorem isT_ok {r : Res D} (h : isT r = true) : r = .ok (.bl true) := by
  unfold isT at h
  split at h
  · subst h; rfl
  · cases h
theorem ln_chk : wdL.all (fun w => isT (d_is_line [.str (S w)]) && isT (d__law_is_line_v2 [.str (S w)])) = true := by kernel_rfl
theorem wd_in_list {ss : List Str} {l : List Nat} (h : lnC l = false) (hs : ss.all (fun y => wdL.contains (tlS y)) = true) : ∀ y ∈ ss, (y == S l) = false := fun y hy => by
  have := List.all_eq_true.mp hs y hy
  rw [beq_eq_false_iff_ne]
  intro e
  subst e
  unfold tlS at this
  rw [S_tl] at this
  unfold lnC at h
  rw [h] at this; cases this
theorem in_no {ss : List Str} {x : Str} (h : ∀ y ∈ ss, (y == x) = false) : inD (.str x) (.tup (ss.map D.str)) = some (.bl false) ∧ inD (.str x) (.lst (ss.map D.str)) = some (.bl false) := by
  have key : DN.inL (.str x) (ss.map D.str) = some false := by
    unfold DN.inL
    rw [if_pos]
    · congr 1
      rw [List.any_map, List.any_eq_false]
      intro y hy
      have := h y hy
      show ¬ (DN.eqd (.str y) (.str x) = true)
      have e : DN.eqd (.str y) (.str x) = (y == x) := rfl
      rw [e, this]; decide
    · rw [List.all_map]
      simp [DN.flatD]
  constructor
  · show (DN.inL (.str x) (ss.map D.str)).map D.bl = _
    rw [key]; rfl
  · show (DN.inL (.str x) (ss.map D.str)).map D.bl = _
    rw [key]; rfl
theorem in_any {ss : List Str} {x : Str} : inD (.str x) (.tup (ss.map D.str)) = some (.bl (ss.any (· == x))) := by
  have key : DN.inL (.str x) (ss.map D.str) = some (ss.any (· == x)) := by
    unfold DN.inL
    rw [if_pos]
    · congr 1
      rw [List.any_map]
      rfl
    · rw [List.all_map]
      simp [DN.flatD]
  show (DN.inL (.str x) (ss.map D.str)).map D.bl = _
  rw [key]; rfl
theorem has_fig (c : Nat) : inD (.str (S [c])) (.str "0123456789") = some (.bl (decide (c ∈ figL))) := by
  have e : (Str.ofString "0123456789").cps.toList = figL := by decide +kernel
  show some (D.bl (DN.hasS (S [c]) "0123456789")) = _
  unfold DN.hasS
  rw [if_pos (by rfl)]
  have : (S [c]).cps.getD 0 0 = c := rfl
  rw [this, e]
theorem ni_fig (c : Nat) : niD (.str (S [c])) (.str "0123456789") = some (.bl (!decide (c ∈ figL))) := by
  have e : (Str.ofString "0123456789").cps.toList = figL := by decide +kernel
  show some (D.bl (!DN.hasS (S [c]) "0123456789")) = _
  unfold DN.hasS
  rw [if_pos (by rfl)]
  have : (S [c]).cps.getD 0 0 = c := rfl
  rw [this, e]
theorem wd_fig {w : List Nat} {c : Nat} (hw : w ∈ (["put", "get", "mark", "go", "call"] : List Str).map tlS) (hc : c ∈ figL) : lnC (w ++ [c]) = true := by
  unfold lnC
  rw [List.contains_iff_mem]
  unfold wdL
  exact List.mem_append_right _ (List.mem_flatMap.mpr ⟨w, hw, List.mem_map.mpr ⟨c, hc, rfl⟩⟩)
theorem ix_Sm {l : List Nat} {c : Nat} (h : l.length ≤ 100000) : ixD (.str (S (l ++ [c]))) (.int (-1)) = some (.str (S [c])) := by
  show (if (S (l ++ [c])).length ≤ sizeLine then (atI (S (l ++ [c])).cps.toList (-1)).map fun c => D.str ⟨#[c]⟩ else none) = _
  rw [S_len, S_tl, if_pos (by rw [sizeLine_eq, List.length_append]; simp; omega)]
  have : atI (l ++ [c]) (-1) = some c := by
    unfold atI ixN
    rw [if_neg (by decide), if_pos (by rw [List.length_append]; simp; omega)]
    have e : (-1 + ((l ++ [c]).length : Int)).toNat = l.length := by rw [List.length_append]; simp; omega
    show (l ++ [c])[(-1 + ((l ++ [c]).length : Int)).toNat]? = _
    rw [e]; simp
  rw [this]; rfl
theorem sl_Sm {l : List Nat} {c : Nat} (h : l.length ≤ 100000) : slD (.str (S (l ++ [c]))) none (some (-1)) = some (.str (S l)) := by
  rw [sl_hin (by rw [List.length_append]; simp; omega) (by decide)]
  congr 3
  rw [List.length_append]
  simp
theorem last_of {l : List Nat} (h : l ≠ []) : ∃ a c, l = a ++ [c] := ⟨l.dropLast, l.getLast h, (List.dropLast_concat_getLast h).symm⟩
theorem kit_ss : kitB "str" "str" = some true := by decide +kernel
theorem no_key {l : List Nat} (h : lnC l = false) (hl : l.length ≤ 90000) : d_is_key [.str (S l)] = .ok (.bl false) := by
  have i1 : inD (.str (S l)) (.tup [.str "sign", .str "enter", .str "root", .str "swap", .str "roll", .str "last", .str "clear"]) = some (.bl false) := (in_no (ss := ["sign", "enter", "root", "swap", "roll", "last", "clear"]) (wd_in_list h (by decide +kernel))).1
  have i2 : inT ["plus", "minus", "times", "over"] (var 0) [.z (.str (S l))] = .ok (.bl false) := by
    show Res.ok (D.bl ((["plus", "minus", "times", "over"] : List Str).contains (S l))) = _
    have : (["plus", "minus", "times", "over"] : List Str).contains (S l) = false := by
      have k := wd_in_list (ss := ["plus", "minus", "times", "over"]) h (by decide +kernel)
      cases e : (["plus", "minus", "times", "over"] : List Str).contains (S l) with
      | false => rfl
      | true =>
        have := k _ (List.contains_iff_mem.mp e)
        simp at this
    rw [this]
  have i3 : (S l == Str.ofString ".") = false := by
    have := wd_in_list (ss := ["."]) h (by decide +kernel) "." (by simp)
    rw [beq_eq_false_iff_ne] at this ⊢
    exact fun e => this e.symm
  have ln := len_S (a := l) (by omega)
  have key : d_is_key [.str (S l)] = finR (t2_is_key [.z (.str (S l))]) := by
    simp?! [v_is_key, g_is_key, t1_is_key, isi_s kit_ss, i1, i2, i3]
  rw [key]
  by_cases c1 : l.length = 1
  · obtain ⟨c, rfl⟩ : ∃ c, l = [c] := List.length_eq_one_iff.mp c1
    have e1 : ((([c] : List Nat).length : Int) == 1) = true := rfl
    have hc : decide (c ∈ figL) = false := by
      cases e : decide (c ∈ figL) with
      | false => rfl
      | true =>
        have all : figL.all (fun c => lnC [c]) = true := by decide +kernel
        have := List.all_eq_true.mp all c (of_decide_eq_true e)
        rw [h] at this; cases this
    have hf := has_fig c
    rw [hc] at hf
    simp?! [t2_is_key, ln, e1, hf]
  · have e1 : ((l.length : Int) == 1) = false := by rw [beq_eq_false_iff_ne]; omega
    by_cases c4 : l.length = 4
    · have e4 : ((l.length : Int) == 4) = true := by rw [c4]; rfl
      obtain ⟨a, c, rfl⟩ := last_of (l := l) (fun e => by rw [e] at c4; cases c4)
      have la : a.length = 3 := by rw [List.length_append] at c4; simpa using c4
      have sl : slD (.str (S (a ++ [c]))) none (some 3) = some (.str (S a)) := by
        rw [sl_S (by rw [List.length_append]; simp; omega)]
        have e : HT.sIx (a ++ [c]).length 0 none = 0 := rfl
        have e2 : HT.sIx (a ++ [c]).length (a ++ [c]).length (some 3) = 3 := by rw [c4]; rfl
        rw [e, e2, List.drop_zero, Nat.sub_zero, List.take_append_of_le_length (by omega), ← la, List.take_length]
      have ix : ixD (.str (S (a ++ [c]))) (.int 3) = some (.str (S [c])) := by
        show (if (S (a ++ [c])).length ≤ sizeLine then (atI (S (a ++ [c])).cps.toList 3).map fun c => D.str ⟨#[c]⟩ else none) = _
        rw [S_len, S_tl, if_pos (by rw [sizeLine_eq, c4]; omega)]
        have : atI (a ++ [c]) 3 = some c := by
          unfold atI ixN
          rw [if_pos (by decide), if_pos (by rw [c4]; decide)]
          show (a ++ [c])[(3 : Int).toNat]? = _
          have : (3 : Int).toNat = a.length := by rw [la]; rfl
          rw [this]; simp
        rw [this]; rfl
      have i4 := in_any (ss := ["put", "get"]) (x := S a)
      have i4 : inD (.str (S a)) (.tup [.str "put", .str "get"]) = some (.bl ((["put", "get"] : List Str).any (· == S a))) := i4
      have hf := has_fig c
      cases q : (["put", "get"] : List Str).any (· == S a) with
      | false =>
        rw [q] at i4
        simp?! [t2_is_key, t3_is_key, ln, e1, e4, sl, i4]
      | true =>
        rw [q] at i4
        obtain ⟨w, hw, ew⟩ := List.any_eq_true.mp q
        have ew : w = S a := by simpa using ew
        have aw : a = tlS w := by rw [ew]; unfold tlS; rw [S_tl]
        have hc : decide (c ∈ figL) = false := by
          cases e : decide (c ∈ figL) with
          | false => rfl
          | true =>
            have := wd_fig (w := a) (c := c) (by rw [aw]; exact List.mem_map_of_mem (by revert hw; simp; intro hw; rcases hw with hw | hw <;> simp [hw])) (of_decide_eq_true e)
            rw [h] at this; cases this
        rw [hc] at hf
        simp?! [t2_is_key, t3_is_key, ln, e1, e4, sl, i4, ix, hf]
    · have e4 : ((l.length : Int) == 4) = false := by rw [beq_eq_false_iff_ne]; omega
      simp?! [t2_is_key, t3_is_key, ln, e1, e4]
theorem no_line {l : List Nat} (h : lnC l = false) (hl : l.length ≤ 90000) : d_is_line [.str (S l)] = .ok (.bl false) := by
  have nk := no_key h hl
  have ln := len_S (a := l) (by omega)
  have i1 : inD (.str (S l)) (.tup [.str "back", .str "stop", .str "less", .str "same", .str "nought"]) = some (.bl false) := (in_no (ss := ["back", "stop", "less", "same", "nought"]) (wd_in_list h (by decide +kernel))).1
  by_cases c3 : l.length < 3
  · have e3 : decide ((l.length : Int) < 3) = true := decide_eq_true (by omega)
    simp?! [v_is_line, g_is_line, t1_is_line, nk, isi_s kit_ss, ln, e3]
  · have e3 : decide ((l.length : Int) < 3) = false := decide_eq_false (by omega)
    obtain ⟨a, c, rfl⟩ := last_of (l := l) (fun e => by rw [e] at c3; exact c3 (by decide))
    have la : a.length ≤ 100000 := by rw [List.length_append] at hl; omega
    have sl := sl_Sm (c := c) la
    have ix := ix_Sm (c := c) la
    have i4 : inD (.str (S a)) (.tup [.str "mark", .str "go", .str "call"]) = some (.bl ((["mark", "go", "call"] : List Str).any (· == S a))) := in_any (ss := ["mark", "go", "call"]) (x := S a)
    have hf := has_fig c
    cases q : (["mark", "go", "call"] : List Str).any (· == S a) with
    | false =>
      rw [q] at i4
      simp?! [v_is_line, g_is_line, t1_is_line, t2_is_line, nk, isi_s kit_ss, ln, e3, i1, sl, i4]
    | true =>
      rw [q] at i4
      obtain ⟨w, hw, ew⟩ := List.any_eq_true.mp q
      have ew : w = S a := by simpa using ew
      have aw : a = tlS w := by rw [ew]; unfold tlS; rw [S_tl]
      have hc : decide (c ∈ figL) = false := by
        cases e : decide (c ∈ figL) with
        | false => rfl
        | true =>
          have := wd_fig (w := a) (c := c) (by rw [aw]; exact List.mem_map_of_mem (by revert hw; simp; intro hw; rcases hw with hw | hw | hw <;> simp [hw])) (of_decide_eq_true e)
          rw [h] at this; cases this
      rw [hc] at hf
      simp?! [v_is_line, g_is_line, t1_is_line, t2_is_line, nk, isi_s kit_ss, ln, e3, i1, sl, i4, ix, hf]
def plL1 : Str := "0 1 2 3 4 5 6 7 8 9 . sign enter plus minus times over root swap roll last clear"
def plL2 : Str := "0 1 2 3 4 5 6 7 8 9 . sign enter plus minus times over root swap roll last clear back stop less same nought"
theorem no_lline {l : List Nat} (h : lnC l = false) (hl : l.length ≤ 90000) : d__law_is_line_v2 [.str (S l)] = .ok (.bl false) := by
  have ad : addD (.str plL1) (.str " back stop less same nought") = some (.str plL2) := by kernel_rfl
  have sp : ∀ ρ : Rho, var 1 ρ = .ok (.str plL2) → met splitD (var 1) (acons (con (.str " ")) anil) ρ = .ok (.lst ((["0", "1", "2", "3", "4", "5", "6", "7", "8", "9", ".", "sign", "enter", "plus", "minus", "times", "over", "root", "swap", "roll", "last", "clear", "back", "stop", "less", "same", "nought"] : List Str).map D.str)) := fun ρ hρ => by
    unfold met
    rw [hρ]
    kernel_rfl
  have sp := sp [.z (.str (S l)), .z (.str plL2)] rfl
  have i1 := (in_no (ss := ["0", "1", "2", "3", "4", "5", "6", "7", "8", "9", ".", "sign", "enter", "plus", "minus", "times", "over", "root", "swap", "roll", "last", "clear", "back", "stop", "less", "same", "nought"]) (x := S l) (wd_in_list h (by decide +kernel))).2
  have key : d__law_is_line_v2 [.str (S l)] = finR (t3__law_is_line_v2 [.z (.str (S l)), .z (.str plL2)]) := by
    have k1 : d__law_is_line_v2 [.str (S l)] = finR (t1__law_is_line_v2 [.z (.str (S l)), .z (.str plL1)]) := by
      rw [v__law_is_line_v2]; rfl
    rw [k1]
    simp?! [t1__law_is_line_v2, ad, t2__law_is_line_v2, sp, i1]
  rw [key]
  by_cases c0 : l = []
  · subst c0
    have e0 : (S [] == Str.ofString "") = true := by decide +kernel
    simp?! [t3__law_is_line_v2, e0]
  · obtain ⟨a, c, rfl⟩ := last_of (l := l) c0
    have e0 : (S (a ++ [c]) == Str.ofString "") = false := by
      rw [beq_eq_false_iff_ne]
      intro e
      have := congrArg (fun x : Str => x.cps.toList.length) e
      simp only [S_tl, List.length_append] at this
      have e2 : (Str.ofString "").cps.toList.length = 0 := by decide +kernel
      rw [e2] at this
      simp at this
    have la : a.length ≤ 100000 := by rw [List.length_append] at hl; omega
    have sl := sl_Sm (c := c) la
    have ix := ix_Sm (c := c) la
    have nf := ni_fig c
    have i4 : inD (.str (S a)) (.tup [.str "put", .str "get", .str "mark", .str "go", .str "call"]) = some (.bl ((["put", "get", "mark", "go", "call"] : List Str).any (· == S a))) := in_any (ss := ["put", "get", "mark", "go", "call"]) (x := S a)
    cases hc : decide (c ∈ figL) with
    | false =>
      rw [hc] at nf
      simp?! [t3__law_is_line_v2, e0, ix, nf]
    | true =>
      rw [hc] at nf
      have q : (["put", "get", "mark", "go", "call"] : List Str).any (· == S a) = false := by
        cases q : (["put", "get", "mark", "go", "call"] : List Str).any (· == S a) with
        | false => rfl
        | true =>
          obtain ⟨w, hw, ew⟩ := List.any_eq_true.mp q
          have ew : w = S a := by simpa using ew
          have aw : a = tlS w := by rw [ew]; unfold tlS; rw [S_tl]
          have := wd_fig (w := a) (c := c) (by rw [aw]; exact List.mem_map_of_mem hw) (of_decide_eq_true hc)
          rw [h] at this; cases this
      rw [q] at i4
      simp?! [t3__law_is_line_v2, t4__law_is_line_v2, e0, ix, nf, sl, i4]
theorem x_line {l : List Nat} (hl : l.length ≤ 90000) : d_is_line [.str (S l)] = .ok (.bl (lnC l)) ∧ d__law_is_line_v2 [.str (S l)] = .ok (.bl (lnC l)) := by
  cases h : lnC l with
  | false => exact ⟨no_line h hl, no_lline h hl⟩
  | true =>
    have := List.all_eq_true.mp ln_chk l (List.contains_iff_mem.mp h)
    rw [Bool.and_eq_true] at this
    exact ⟨isT_ok this.1, isT_ok this.2⟩
/-! texts of programs, changed -/
def jnL : List (List Nat) → List Nat
  | [] => []
  | [x] => x
  | x :: y :: r => x ++ 32 :: jnL (y :: r)
theorem jn_S : ∀ ws : List (List Nat), Str.join (S [32]) (ws.map S) = S (jnL ws)
  | [] => rfl
  | [x] => rfl
  | x :: y :: r => by
    show S x ++ S [32] ++ Str.join (S [32]) ((y :: r).map S) = S (x ++ 32 :: jnL (y :: r))
    rw [jn_S (y :: r), S_app, S_app]
    simp
theorem jn_mem : ∀ (ws : List (List Nat)) (c : Nat), c ∈ jnL ws → c = 32 ∨ ∃ w ∈ ws, c ∈ w
  | [], c, h => by cases h
  | [x], c, h => .inr ⟨x, List.mem_cons_self .., h⟩
  | x :: y :: r, c, h => by
    have h : c ∈ x ++ 32 :: jnL (y :: r) := h
    rw [List.mem_append, List.mem_cons] at h
    rcases h with h | h | h
    · exact .inr ⟨x, List.mem_cons_self .., h⟩
    · exact .inl h
    · rcases jn_mem (y :: r) c h with h | ⟨w, h1, h2⟩
      · exact .inl h
      · exact .inr ⟨w, List.mem_cons_of_mem _ h1, h2⟩
def sumL (ws : List (List Nat)) : Nat := (ws.map (·.length)).sum
theorem jn_len : ∀ ws : List (List Nat), (jnL ws).length ≤ sumL ws + ws.length
  | [] => by simp [jnL, sumL]
  | [x] => by simp [jnL, sumL]
  | x :: y :: r => by
    have := jn_len (y :: r)
    show (x ++ 32 :: jnL (y :: r)).length ≤ _
    simp only [sumL, List.map_cons, List.sum_cons, List.length_append, List.length_cons] at this ⊢
    omega
theorem jn_cnt : ∀ ws : List (List Nat), (∀ w ∈ ws, 32 ∉ w) → (jnL ws).count 32 ≤ ws.length
  | [], _ => by simp [jnL]
  | [x], h => by
    rw [show jnL [x] = x from rfl, List.count_eq_zero.mpr (h x (List.mem_cons_self ..))]
    simp
  | x :: y :: r, h => by
    have := jn_cnt (y :: r) fun w hw => h w (List.mem_cons_of_mem _ hw)
    show (x ++ 32 :: jnL (y :: r)).count 32 ≤ _
    rw [List.count_append, List.count_eq_zero.mpr (h x (List.mem_cons_self ..)), List.count_cons]
    simp only [List.length_cons] at this ⊢
    simp
    omega
/-- what the parts of a text are -/
theorem cut_all : ∀ (n : Nat) (l : List Nat), l.length ≤ n → (cutL 32 l).length = l.count 32 + 1 ∧ sumL (cutL 32 l) ≤ l.length ∧ ∀ w ∈ cutL 32 l, 32 ∉ w ∧ ∀ c ∈ w, c ∈ l
  | 0, l, h => by
    have : l = [] := List.eq_nil_of_length_eq_zero (by omega)
    subst this
    rw [cutL_none (by simp)]
    refine ⟨by simp, by simp [sumL], fun w hw => ?_⟩
    simp at hw
    subst hw
    exact ⟨by simp, fun c hc => by cases hc⟩
  | n + 1, l, h => by
    rcases cut_at 32 l with q | ⟨a, b, rfl, q⟩
    · rw [cutL_none q]
      refine ⟨by rw [List.count_eq_zero.mpr q]; rfl, by simp [sumL], fun w hw => ?_⟩
      simp at hw
      subst hw
      exact ⟨q, fun c hc => hc⟩
    · rw [cutL_app b q]
      obtain ⟨h1, h2, h3⟩ := cut_all n b (by rw [List.length_append, List.length_cons] at h; omega)
      refine ⟨by rw [List.length_cons, h1, List.count_append, List.count_eq_zero.mpr q, List.count_cons]; simp, ?_, fun w hw => ?_⟩
      · simp only [sumL, List.map_cons, List.sum_cons, List.length_append, List.length_cons] at h2 ⊢
        omega
      · rcases List.mem_cons.mp hw with rfl | hw
        · exact ⟨q, fun c hc => List.mem_append_left _ hc⟩
        · obtain ⟨k1, k2⟩ := h3 w hw
          exact ⟨k1, fun c hc => List.mem_append_right _ (List.mem_cons_of_mem _ (k2 c hc))⟩
structure Tx (L n : Nat) (l : List Nat) : Prop where
  len : l.length ≤ L
  ch : ∀ c ∈ l, c < 128
  sp : l.count 32 ≤ n
theorem Tx.up {L n L' n' : Nat} {l : List Nat} (h : Tx L n l) (h1 : L ≤ L') (h2 : n ≤ n') : Tx L' n' l := ⟨Nat.le_trans h.len h1, h.ch, Nat.le_trans h.sp h2⟩
theorem Tx.sub {L n : Nat} {l a : List Nat} (h : Tx L n l) (s : a.Sublist l) : Tx L n a := ⟨Nat.le_trans s.length_le h.len, fun c hc => h.ch c (s.subset hc), Nat.le_trans (s.count_le 32) h.sp⟩
theorem Tx.app {L n L' n' : Nat} {a b : List Nat} (h : Tx L n a) (h2 : Tx L' n' b) : Tx (L + L') (n + n') (a ++ b) := ⟨by rw [List.length_append]; have := h.len; have := h2.len; omega, fun c hc => (List.mem_append.mp hc).elim (h.ch c) (h2.ch c), by rw [List.count_append]; have := h.sp; have := h2.sp; omega⟩
theorem sIx_to {n d : Nat} {p : Int} (h : 0 ≤ p) : HT.sIx n d (some p) = min p.toNat n := by
  show (if p < 0 then (p + (n : Int)).toNat else min p.toNat n) = _
  rw [if_neg (by omega)]
theorem tk_min {α : Type} (l : List α) (k : Nat) : l.take (min k l.length) = l.take k := by
  by_cases h : k ≤ l.length
  · rw [Nat.min_eq_left h]
  · rw [Nat.min_eq_right (by omega), List.take_length, List.take_of_length_le (by omega)]
theorem dr_min {α : Type} (l : List α) (k : Nat) : l.drop (min k l.length) = l.drop k := by
  by_cases h : k ≤ l.length
  · rw [Nat.min_eq_left h]
  · rw [Nat.min_eq_right (by omega), List.drop_length, List.drop_of_length_le (by omega)]
theorem sl_to {l : List Nat} {p : Int} (h : l.length ≤ 1000000) (hp : 0 ≤ p) : slD (.str (S l)) none (some p) = some (.str (S (l.take p.toNat))) := by
  rw [sl_S h, sIx_to hp]
  show some (D.str (S ((l.drop 0).take (min p.toNat l.length - 0)))) = _
  rw [List.drop_zero, Nat.sub_zero, tk_min]
theorem sl_fr {l : List Nat} {p : Int} (h : l.length ≤ 1000000) (hp : 0 ≤ p) : slD (.str (S l)) (some p) none = some (.str (S (l.drop p.toNat))) := by
  rw [sl_S h, sIx_to hp]
  show some (D.str (S ((l.drop (min p.toNat l.length)).take (l.length - min p.toNat l.length)))) = _
  rw [dr_min, List.take_of_length_le (by rw [List.length_drop]; omega)]
abbrev wD (ws : List (List Nat)) : D := .lst (ws.map fun w => D.str (S w))
theorem sw_to {ws : List (List Nat)} {p : Int} (hp : 0 ≤ p) : slD (wD ws) none (some p) = some (wD (ws.take p.toNat)) := by
  show some (D.lst (((ws.map fun w => D.str (S w)).drop (HT.sIx (ws.map fun w => D.str (S w)).length 0 none)).take (HT.sIx (ws.map fun w => D.str (S w)).length (ws.map fun w => D.str (S w)).length (some p) - HT.sIx (ws.map fun w => D.str (S w)).length 0 none))) = _
  rw [sIx_to hp]
  show some (D.lst (((ws.map fun w => D.str (S w)).drop 0).take (min p.toNat (ws.map fun w => D.str (S w)).length - 0))) = _
  rw [List.drop_zero, Nat.sub_zero, tk_min, ← List.map_take]
theorem sw_fr {ws : List (List Nat)} {p : Int} (hp : 0 ≤ p) : slD (wD ws) (some p) none = some (wD (ws.drop p.toNat)) := by
  show some (D.lst (((ws.map fun w => D.str (S w)).drop (HT.sIx (ws.map fun w => D.str (S w)).length 0 (some p))).take (HT.sIx (ws.map fun w => D.str (S w)).length (ws.map fun w => D.str (S w)).length none - HT.sIx (ws.map fun w => D.str (S w)).length 0 (some p)))) = _
  rw [sIx_to hp]
  show some (D.lst (((ws.map fun w => D.str (S w)).drop (min p.toNat (ws.map fun w => D.str (S w)).length)).take ((ws.map fun w => D.str (S w)).length - min p.toNat (ws.map fun w => D.str (S w)).length))) = _
  rw [dr_min, List.take_of_length_le (by rw [List.length_drop]; omega), ← List.map_drop]
theorem sw_mid {ws : List (List Nat)} {p q : Int} (hp : 0 ≤ p) (hq : 0 ≤ q) : ∃ vs : List (List Nat), slD (wD ws) (some p) (some q) = some (wD vs) ∧ vs.Sublist ws ∧ vs.length ≤ q.toNat - p.toNat := by
  refine ⟨(ws.drop (min p.toNat ws.length)).take (min q.toNat ws.length - min p.toNat ws.length), ?_, (List.take_sublist ..).trans (List.drop_sublist ..), by rw [List.length_take]; omega⟩
  show some (D.lst (((ws.map fun w => D.str (S w)).drop (HT.sIx (ws.map fun w => D.str (S w)).length 0 (some p))).take (HT.sIx (ws.map fun w => D.str (S w)).length (ws.map fun w => D.str (S w)).length (some q) - HT.sIx (ws.map fun w => D.str (S w)).length 0 (some p)))) = _
  rw [sIx_to hp, sIx_to hq, List.length_map, ← List.map_drop, ← List.map_take]
theorem rv_w {ws : List (List Nat)} : revD (wD ws) = some (wD ws.reverse) := by
  show some (D.lst (ws.map fun w => D.str (S w)).reverse) = _
  rw [← List.map_reverse]
theorem ad_w {a b : List (List Nat)} (h : a.length + b.length ≤ 100000) : addD (wD a) (wD b) = some (wD (a ++ b)) := by
  show (if (a.map fun w => D.str (S w)).length + (b.map fun w => D.str (S w)).length ≤ sizeLine then some (D.lst ((a.map fun w => D.str (S w)) ++ (b.map fun w => D.str (S w)))) else none) = _
  rw [List.length_map, List.length_map, if_pos (by rw [sizeLine_eq]; omega), ← List.map_append]
theorem strsO_w : ∀ ws : List (List Nat), DN.strsO (ws.map fun w => D.str (S w)) = some (ws.map S)
  | [] => rfl
  | w :: ws => by
    show (DN.strsO (ws.map fun w => D.str (S w))).map (S w :: ·) = _
    rw [strsO_w ws]; rfl
theorem sum_S (ws : List (List Nat)) : ((ws.map S).map (·.length)).sum = sumL ws := by
  unfold sumL
  rw [List.map_map]
  congr 1
theorem jn_D {ws : List (List Nat)} (h : sumL ws + ws.length ≤ 1000000) : joinD (.str " ") [wD ws] = some (.str (S (jnL ws))) := by
  have e : Str.ofString " " = S [32] := by decide +kernel
  rw [e]
  show (DN.strsO (ws.map fun w => D.str (S w))).bind (fun ys => if (ys.map (·.length)).sum + ys.length * (S [32]).length ≤ 16777216 then some (D.str (Txt.join (S [32]) ys)) else none) = _
  rw [strsO_w]
  show (if ((ws.map S).map (·.length)).sum + (ws.map S).length * (S [32]).length ≤ 16777216 then some (D.str (Builtin.Str.glued (S [32]) (ws.map S))) else none) = _
  have e1 : (S [32]).length = 1 := rfl
  rw [sum_S, List.length_map, e1, if_pos (by omega), StrLaws.glued_eq_join, jn_S]
theorem sp_D {l : List Nat} (h : l.length ≤ 1000000) : splitD (.str (S l)) [.str " "] = some (wD (cutL 32 l)) := by
  have e : Str.ofString " " = S [32] := by decide +kernel
  rw [e]
  show (if ((S [32]).length == 0) = false ∧ (S l).length + 2 ≤ sizeLine then some (D.lst ((Txt.split (S l) (S [32])).map .str)) else none) = _
  rw [if_pos ⟨rfl, by rw [S_len, sizeLine_eq]; omega⟩, split_S (by decide), List.map_map]
  rfl
/-- a list of words that comes of a text's words -/
structure Ws (L n : Nat) (ws : List (List Nat)) : Prop where
  len : ws.length ≤ n
  sum : sumL ws ≤ L
  ch : ∀ w ∈ ws, 32 ∉ w ∧ ∀ c ∈ w, c < 128
theorem sumL_app (a b : List (List Nat)) : sumL (a ++ b) = sumL a + sumL b := by unfold sumL; rw [List.map_append, List.sum_append]
theorem sumL_sub {a b : List (List Nat)} (s : a.Sublist b) : sumL a ≤ sumL b := by
  induction s with
  | slnil => exact Nat.le_refl _
  | cons x _ ih => simp only [sumL, List.map_cons, List.sum_cons] at ih ⊢; omega
  | cons_cons x _ ih => simp only [sumL, List.map_cons, List.sum_cons] at ih ⊢; omega
theorem Ws.sub {L n : Nat} {a b : List (List Nat)} (h : Ws L n b) (s : a.Sublist b) : Ws L n a := ⟨Nat.le_trans s.length_le h.len, Nat.le_trans (sumL_sub s) h.sum, fun w hw => h.ch w (s.subset hw)⟩
theorem Ws.app {L n L' n' : Nat} {a b : List (List Nat)} (h : Ws L n a) (h2 : Ws L' n' b) : Ws (L + L') (n + n') (a ++ b) := ⟨by rw [List.length_append]; have := h.len; have := h2.len; omega, by rw [sumL_app]; have := h.sum; have := h2.sum; omega, fun w hw => (List.mem_append.mp hw).elim (h.ch w) (h2.ch w)⟩
theorem Ws.ins {L n m : Nat} {a v b : List (List Nat)} (h : Ws L n (a ++ b)) (h2 : Ws L m v) : Ws (L + L) (n + m) (a ++ v ++ b) := ⟨by
  have h1 := h.len
  have h3 := h2.len
  rw [List.length_append] at h1
  rw [List.length_append, List.length_append]
  omega, by
  have h1 := h.sum
  have h3 := h2.sum
  rw [sumL_app] at h1
  rw [sumL_app, sumL_app]
  omega, fun w hw => by
  rw [List.mem_append, List.mem_append] at hw
  rcases hw with (hw | hw) | hw
  · exact h.ch w (List.mem_append_left _ hw)
  · exact h2.ch w hw
  · exact h.ch w (List.mem_append_right _ hw)⟩
theorem Tx.ins {L n L' n' : Nat} {a v b : List Nat} (h : Tx L n (a ++ b)) (h2 : Tx L' n' v) : Tx (L + L') (n + n') (a ++ v ++ b) := by
  have h1 := h.len
  have h3 := h.sp
  have h4 := h2.len
  have h5 := h2.sp
  rw [List.length_append] at h1
  rw [List.count_append] at h3
  refine ⟨by rw [List.length_append, List.length_append]; omega, fun c hc => ?_, by rw [List.count_append, List.count_append]; omega⟩
  rw [List.mem_append, List.mem_append] at hc
  rcases hc with (hc | hc) | hc
  · exact h.ch c (List.mem_append_left _ hc)
  · exact h2.ch c hc
  · exact h.ch c (List.mem_append_right _ hc)
theorem td_sub {α : Type} (l : List α) {i j : Nat} (h : i ≤ j) : (l.take i ++ l.drop j).Sublist l := by
  have e : (l.take i ++ l.drop i).Sublist l := by rw [List.take_append_drop]; exact List.Sublist.refl l
  have e2 : l.drop j = (l.drop i).drop (j - i) := by rw [List.drop_drop]; congr 1; omega
  rw [e2]
  exact ((List.Sublist.refl (l.take i)).append (List.drop_sublist (j - i) (l.drop i))).trans e
theorem Ws.rev {L n : Nat} {a : List (List Nat)} (h : Ws L n a) : Ws L n a.reverse := ⟨by rw [List.length_reverse]; exact h.len, by have := h.sum; unfold sumL at this ⊢; rw [List.map_reverse, List.sum_reverse]; exact this, fun w hw => h.ch w (List.mem_reverse.mp hw)⟩
theorem Ws.tx {L n : Nat} {ws : List (List Nat)} (h : Ws L n ws) : Tx (L + n) n (jnL ws) := ⟨by have := jn_len ws; have := h.len; have := h.sum; omega, fun c hc => by
  rcases jn_mem ws c hc with rfl | ⟨w, h1, h2⟩
  · decide
  · exact (h.ch w h1).2 c h2, Nat.le_trans (jn_cnt ws fun w hw => (h.ch w hw).1) h.len⟩
theorem ws_of {L n : Nat} {l : List Nat} (h : Tx L n l) : Ws L (n + 1) (cutL 32 l) := by
  obtain ⟨h1, h2, h3⟩ := cut_all l.length l (Nat.le_refl _)
  exact ⟨by rw [h1]; have := h.sp; omega, Nat.le_trans h2 h.len, fun w hw => ⟨(h3 w hw).1, fun c hc => h.ch c ((h3 w hw).2 c hc)⟩⟩
theorem ix_pick {l : List Nat} {i : Int} (h : 0 ≤ i) (h2 : i < l.length) (hl : l.length ≤ 1000) : ∃ c, c ∈ l ∧ ixD (.str (S l)) (.int i) = some (.str (S [c])) := by
  refine ⟨l[i.toNat]'(by omega), List.getElem_mem _, ?_⟩
  show (if (S l).length ≤ sizeLine then (atI (S l).cps.toList i).map fun c => D.str ⟨#[c]⟩ else none) = _
  rw [S_len, S_tl, if_pos (by rw [sizeLine_eq]; omega)]
  have : atI l i = some (l[i.toNat]'(by omega)) := by
    unfold atI ixN
    rw [if_pos h, if_pos h2]
    show l[i.toNat]? = _
    rw [List.getElem?_eq_getElem]
  rw [this]; rfl
def letL : List Nat := tlS "0123 -.acgklmnoprst~"
theorem x_changed {L n : Nat} {l : List Nat} {m : Int} (hm : 0 ≤ m) (h : Tx L n l) (hL : L ≤ 30000) (hn : n ≤ 100) : ∃ l', d__law_changed_v2 [.str (S l), .int m] = .ok (.str (S l')) ∧ Tx (2 * L + n + 10) (n + 3) l' := by
  have len := len_S (a := l) (by have := h.len; omega)
  have hl := h.len
  have p1 : (0 : Int) < (l.length : Int) + 1 := by omega
  have md := mod_p (i := m / 16) p1
  obtain ⟨at_, hat⟩ : ∃ a, a = m / 16 % ((l.length : Int) + 1) := ⟨_, rfl⟩
  have a0 : 0 ≤ at_ := by rw [hat]; exact Int.emod_nonneg _ (by omega)
  rw [← hat] at md
  have eL : Str.ofString "0123 -.acgklmnoprst~" = S letL := S_of rfl
  have lL : letL.length = 20 := by decide +kernel
  obtain ⟨c, hc1, hc2⟩ := ix_pick (l := letL) (i := m / 400 % 20) (by omega) (by rw [lL]; omega) (by rw [lL]; decide)
  have hc : c < 128 := by
    have all : letL.all (fun c => decide (c < 128)) = true := by decide +kernel
    exact of_decide_eq_true (List.all_eq_true.mp all c hc1)
  have sp := sp_D (l := l) (by omega)
  have hw := ws_of h
  obtain ⟨ws, hws⟩ : ∃ ws, ws = cutL 32 l := ⟨_, rfl⟩
  rw [← hws] at sp hw
  have w0 : 0 < ws.length := by
    have := cutL_ne 32 l
    rw [← hws] at this
    cases ws with
    | nil => exact absurd rfl this
    | cons _ _ => simp
  have p2 : (0 : Int) < (ws.length : Int) := by omega
  have md2 := mod_p (i := m / 16) p2
  obtain ⟨k, hk⟩ : ∃ a, a = m / 16 % (ws.length : Int) := ⟨_, rfl⟩
  have k0 : 0 ≤ k := by rw [hk]; exact Int.emod_nonneg _ (by omega)
  rw [← hk] at md2
  have lw : lenD [wD ws] = some (.int ws.length) := by
    show lenD [.lst (ws.map fun w => D.str (S w))] = _
    rw [len_l, List.length_map]
  have key : d__law_changed_v2 [.str (S l), .int m] = finR (t4__law_changed_v2 [.z (.str (S l)), .z (.int m), .z (.int at_), .z (.str (S [c])), .z (wD ws), .z (.int k), .u]) := by
    simp?! [v__law_changed_v2, g__law_changed_v2, t1__law_changed_v2, t2__law_changed_v2, t3__law_changed_v2, len, md, eL, hc2, met_def, metR_ok, sp, lw, md2]
  rw [key]
  -- the three first
  have s1 := sl_to (l := l) (p := at_) (by omega) a0
  have s2 := sl_fr (l := l) (p := at_) (by omega) a0
  have s3 := sl_fr (l := l) (p := at_ + 1) (by omega) (by omega)
  have t1 : (l.take at_.toNat).length ≤ L := Nat.le_trans (List.take_sublist ..).length_le hl
  have t2 : (l.drop at_.toNat).length ≤ L := Nat.le_trans (List.drop_sublist ..).length_le hl
  have t3 : (l.drop (at_ + 1).toNat).length ≤ L := Nat.le_trans (List.drop_sublist ..).length_le hl
  have q1 := add_S (a := l.take at_.toNat) (b := [c]) (by simp only [List.length_cons, List.length_nil]; omega)
  have q2 := add_S (a := l.take at_.toNat ++ [c]) (b := l.drop at_.toNat) (by rw [List.length_append]; simp only [List.length_cons, List.length_nil]; omega)
  have q3 := add_S (a := l.take at_.toNat) (b := l.drop (at_ + 1).toNat) (by omega)
  have q4 := add_S (a := l.take at_.toNat ++ [c]) (b := l.drop (at_ + 1).toNat) (by rw [List.length_append]; simp only [List.length_cons, List.length_nil]; omega)
  -- the words
  have w1 := sw_to (ws := ws) k0
  have w2 := sw_fr (ws := ws) (p := k + 1) (by omega)
  obtain ⟨v1, w3, u1, y1⟩ := sw_mid (ws := ws) (p := k) (q := k + 1) k0 (by omega)
  have w4 := sw_fr (ws := ws) k0
  obtain ⟨v2, w5, u2, y2⟩ := sw_mid (ws := ws) (p := k) (q := k + 2) k0 (by omega)
  have w6 := sw_fr (ws := ws) (p := k + 2) (by omega)
  have b1 := hw.sub (List.take_sublist k.toNat ws)
  have b2 := hw.sub (List.drop_sublist (k + 1).toNat ws)
  have b3 := hw.sub u1
  have b4 := hw.sub (List.drop_sublist k.toNat ws)
  have b5 := (hw.sub u2).rev
  have b6 := hw.sub (List.drop_sublist (k + 2).toNat ws)
  have z1 : Ws L 1 v1 := ⟨by omega, b3.sum, b3.ch⟩
  have z2 : Ws L 2 v2.reverse := ⟨by rw [List.length_reverse]; omega, b5.sum, b5.ch⟩
  have c1 := hw.sub (td_sub ws (i := k.toNat) (j := (k + 1).toNat) (by omega))
  have c2 := (hw.sub (td_sub ws (i := k.toNat) (j := k.toNat) (by omega))).ins z1
  have c3 := (hw.sub (td_sub ws (i := k.toNat) (j := (k + 2).toNat) (by omega))).ins z2
  have x1 := ad_w (a := ws.take k.toNat) (b := ws.drop (k + 1).toNat) (by have := b1.len; have := b2.len; omega)
  have x2 := ad_w (a := ws.take k.toNat) (b := v1) (by have := b1.len; have := b3.len; omega)
  have x3 := ad_w (a := ws.take k.toNat ++ v1) (b := ws.drop k.toNat) (by have := (b1.app b3).len; have := b4.len; omega)
  have x4 := ad_w (a := ws.take k.toNat) (b := v2.reverse) (by have := b1.len; have := b5.len; omega)
  have x5 := ad_w (a := ws.take k.toNat ++ v2.reverse) (b := ws.drop (k + 2).toNat) (by have := (b1.app b5).len; have := b6.len; omega)
  have j1 := jn_D (ws := ws.take k.toNat ++ ws.drop (k + 1).toNat) (by have h1 := c1.len; have h2 := c1.sum; omega)
  have j2 := jn_D (ws := ws.take k.toNat ++ v1 ++ ws.drop k.toNat) (by have := c2.len; have := c2.sum; omega)
  have j3 := jn_D (ws := ws.take k.toNat ++ v2.reverse ++ ws.drop (k + 2).toNat) (by have := c3.len; have := c3.sum; omega)
  have ap : ∀ (ds : List D) (d : D) (ρ : Rho), ds.length ≤ 10 → appRR (.ok ds) (.ok d) ρ 6 = .nx (ρ.set 6 (.o (.lst (ds ++ [d])))) := fun ds d ρ hd => appRR_ok (by omega)
  have tc : Tx 1 1 [c] := ⟨by simp, fun z hz => by simp at hz; omega, List.count_le_length⟩
  obtain ⟨rs, hrs⟩ : ∃ rs : List (List Nat), rs = [l.take at_.toNat ++ [c] ++ l.drop at_.toNat, l.take at_.toNat ++ l.drop (at_ + 1).toNat, l.take at_.toNat ++ [c] ++ l.drop (at_ + 1).toNat, jnL (ws.take k.toNat ++ ws.drop (k + 1).toNat), jnL (ws.take k.toNat ++ v1 ++ ws.drop k.toNat), jnL (ws.take k.toNat ++ v2.reverse ++ ws.drop (k + 2).toNat)] := ⟨_, rfl⟩
  have all : ∀ r ∈ rs, Tx (2 * L + n + 10) (n + 3) r := by
    intro r hr
    rw [hrs] at hr
    simp only [List.mem_cons, List.not_mem_nil, or_false] at hr
    have g1 := h.sub (td_sub l (i := at_.toNat) (j := at_.toNat) (by omega))
    have g2 := h.sub (td_sub l (i := at_.toNat) (j := (at_ + 1).toNat) (by omega))
    rcases hr with rfl | rfl | rfl | rfl | rfl | rfl
    · exact (g1.ins tc).up (by omega) (by omega)
    · exact g2.up (by omega) (by omega)
    · exact (g2.ins tc).up (by omega) (by omega)
    · exact c1.tx.up (by omega) (by omega)
    · exact c2.tx.up (by omega) (by omega)
    · exact c3.tx.up (by omega) (by omega)
  have key2 : finR (t4__law_changed_v2 [.z (.str (S l)), .z (.int m), .z (.int at_), .z (.str (S [c])), .z (wD ws), .z (.int k), .u]) = finR (t8__law_changed_v2 [.z (.str (S l)), .z (.int m), .z (.int at_), .z (.str (S [c])), .z (wD ws), .z (.int k), .o (.lst (rs.map fun r => D.str (S r)))]) := by
    rw [hrs]
    simp?! [t4__law_changed_v2, t5__law_changed_v2, t6__law_changed_v2, t7__law_changed_v2, s1, s2, s3, q1, q2, q3, q4, w1, w2, w3, w4, w5, w6, rv_w, x1, x2, x3, x4, x5, met_def, metR_ok, j1, j2, j3, ap, List.cons_append, List.nil_append, List.map_cons, List.map_nil]
  rw [key2]
  have hr6 : rs.length = 6 := by rw [hrs]; rfl
  have hi : (m % 6).toNat < rs.length := by omega
  refine ⟨rs[(m % 6).toNat], ?_, all _ (List.getElem_mem hi)⟩
  have ix : ixD (.lst (rs.map fun r => D.str (S r))) (.int (m % 6)) = some (.str (S rs[(m % 6).toNat])) := by
    rw [ix_l (by rw [List.length_map]; omega), List.getD_eq_getElem?_getD, List.getElem?_map, List.getElem?_eq_getElem hi]; rfl
  simp?! [t8__law_changed_v2, ix]
/-! lists -/
theorem rngD_mem {n : Nat} {d : D} (h : d ∈ rngD 0 n) : ∃ j : Nat, j < n ∧ d = .int (j : Int) := by
  unfold rngD at h
  obtain ⟨j, hj, rfl⟩ := List.mem_map.mp h
  exact ⟨j, List.mem_range.mp hj, by simp⟩
/-! programs drawn -/
def lnL : List D := [.str "mark1", .str "mark2", .str "mark3", .str "go1", .str "go2", .str "go3", .str "call1", .str "call2", .str "call3", .str "back", .str "stop", .str "less", .str "same", .str "nought", .str "nought", .str "less", .str "1", .str "2", .str "enter", .str "plus", .str "minus", .str "times", .str "swap", .str "roll", .str "put0", .str "get0", .str "sign", .str "minus", .str "over", .str "put1", .str "get1", .str "clear"]
theorem line_list (n : Int) : g__law_line [.z (.int n), .u] = t2__law_line [.z (.int n), .z (.lst (lnL.take 25))] := by kernel_rfl
theorem line_last (n : Int) : bop addD (var 1) (mkL (acons (con (.str "get0")) (acons (con (.str "sign")) (acons (con (.str "minus")) (acons (con (.str "over")) (acons (con (.str "put1")) (acons (con (.str "get1")) (acons (con (.str "clear")) anil)))))))) [.z (.int n), .z (.lst (lnL.take 25))] = .ok (.lst lnL) := by kernel_rfl
theorem x_lline {n : Int} : ∃ d, d ∈ lnL ∧ d__law_line [.int n] = .ok d := by
  have md : bop modD (var 0) (con (.int 32)) [.z (.int n), .z (.lst (lnL.take 25))] = .ok (.int (n % 32)) := by simp?! []
  have hn : (n % 32).toNat < lnL.length := by have : lnL.length = 32 := rfl; omega
  refine ⟨lnL.getD (n % 32).toNat .non, sel_mem hn, ?_⟩
  rw [v__law_line, line_list]
  unfold t2__law_line
  rw [sret_def, bin_def, line_last, md, app2_ok, ix_lm (by decide), ofO_some, retR_ok, finR_rt]
theorem comp_mem {P : D → Prop} {i : Nat} {e : Rho → Res D} {ρ : Rho} : ∀ (ds : List D), (∀ d ∈ ds, ∃ a, P a ∧ e (ρ.set i (.z d)) = .ok a) → ∃ as : List D, as.length = ds.length ∧ (∀ a ∈ as, P a) ∧ compD (gn i) yes e ρ ds = .ok as
  | [], _ => ⟨[], rfl, fun _ h => (by cases h), rfl⟩
  | d :: ds, h => by
    obtain ⟨a, pa, ha⟩ := h d List.mem_cons_self
    obtain ⟨as, h1, h2, h3⟩ := comp_mem (P := P) (i := i) (e := e) (ρ := ρ) ds fun x hx => h x (List.mem_cons_of_mem _ hx)
    exact ⟨a :: as, by simp [h1], fun x hx => by
      rcases List.mem_cons.mp hx with rfl | hx
      · exact pa
      · exact h2 x hx, comp_t (show gn i ρ d = some (ρ.set i (.z d)) from rfl) rfl ha h3⟩
theorem x_lprog {n most : Int} (h0 : 0 ≤ n) (hm : 0 ≤ most) (hm2 : most < 100) : ∃ ds : List D, (∀ d ∈ ds, d ∈ lnL) ∧ (ds.length : Int) ≤ most ∧ d__law_program [.int n, .int most] = .ok (.tup ds) := by
  have hp : (0 : Int) < most + 1 := by omega
  have md := mod_p (i := n) hp
  have k0 : 0 ≤ n % (most + 1) := Int.emod_nonneg _ (by omega)
  have k1 : n % (most + 1) < most + 1 := Int.emod_lt_of_pos _ hp
  have q : acons (bop modD (var 0) (bop addD (var 1) (con (.int 1)))) anil [.z (.int n), .z (.int most), .u] = .ok [.int (n % (most + 1))] := by simp?! [md]
  have e := rng1_eq q k0 (by omega)
  obtain ⟨ds, l1, l2, l3⟩ := comp_mem (P := fun d => d ∈ lnL) (i := 2) (e := e1__law_program) (ρ := [.z (.int n), .z (.int most), .u]) (rngD 0 (n % (most + 1)).toNat) (by
    intro d hd
    obtain ⟨j, hj, rfl⟩ := rngD_mem hd
    obtain ⟨dr, d1, d2, d3⟩ := x_drawn (n := n) (k := (j : Int)) (by omega) (by omega)
    obtain ⟨ln, hk, hl⟩ := x_lline (n := dr / 4)
    exact ⟨ln, hk, by simp?! [e1__law_program, d1, hl]⟩)
  rw [rngD_len] at l1
  refine ⟨ds, l2, by omega, ?_⟩
  have lc := lc_eq (t := yes) (e := e1__law_program) (i := 2) e (by rw [rngD_len]; omega) l3
  have tp : tupD [.lst ds] = some (.tup ds) := rfl
  simp?! [v__law_program, g__law_program, lc, tp]
/-! ### k31 -/
def wdOk (d : D) : Bool := match d with
  | .str x => decide (x.cps.toList.length ≤ 6) && x.cps.toList.all fun c => decide (c ≠ 32 ∧ c < 128)
  | _ => false
theorem lnL_ok : lnL.all wdOk = true := by kernel_rfl
structure W6 (w : List Nat) : Prop where
  a : w.length ≤ 6
  b : 32 ∉ w
  c : ∀ c ∈ w, c < 128
theorem ds_ws : ∀ ds : List D, (∀ d ∈ ds, d ∈ lnL) → ∃ ws : List (List Nat), ds = ws.map (fun w => D.str (S w)) ∧ ∀ w ∈ ws, W6 w
  | [], _ => ⟨[], rfl, fun w hw => by cases hw⟩
  | d :: ds, h => by
    obtain ⟨ws, h1, h2⟩ := ds_ws ds fun x hx => h x (List.mem_cons_of_mem _ hx)
    have := List.all_eq_true.mp lnL_ok d (h d (List.mem_cons_self ..))
    cases d with
    | str x =>
      have this : (decide (x.cps.toList.length ≤ 6) && x.cps.toList.all fun c => decide (c ≠ 32 ∧ c < 128)) = true := this
      rw [Bool.and_eq_true] at this
      obtain ⟨k1, k2⟩ := this
      have k2 := List.all_eq_true.mp k2
      refine ⟨x.cps.toList :: ws, by rw [h1, List.map_cons, ← S_of rfl], fun w hw => ?_⟩
      rcases List.mem_cons.mp hw with rfl | hw
      · exact ⟨of_decide_eq_true k1, fun q => (of_decide_eq_true (k2 32 q)).1 rfl, fun c hc => (of_decide_eq_true (k2 c hc)).2⟩
      · exact h2 w hw
    | _ => cases this
theorem sum6 : ∀ ws : List (List Nat), (∀ w ∈ ws, W6 w) → sumL ws ≤ 6 * ws.length
  | [], _ => by simp [sumL]
  | w :: ws, h => by
    have := sum6 ws fun x hx => h x (List.mem_cons_of_mem _ hx)
    have := (h w (List.mem_cons_self ..)).a
    simp only [sumL, List.map_cons, List.sum_cons, List.length_cons] at *
    omega
abbrev wT (ws : List (List Nat)) : List D := ws.map fun w => D.str (S w)
theorem jn_T {ws : List (List Nat)} (h : sumL ws + ws.length ≤ 1000000) : joinD (.str " ") [.tup (wT ws)] = some (.str (S (jnL ws))) := jn_D h
theorem pl_wT {n : Nat} : ∀ {ws : List (List Nat)}, (∀ w ∈ ws, ∀ c ∈ w, c < 128) → DN.plains n (wT ws) = true
  | [], _ => rfl
  | w :: ws, h => by
    show (DN.plain n (.str (S w)) && DN.plains n (wT ws)) = true
    rw [pl_wT fun x hx => h x (List.mem_cons_of_mem _ hx), Bool.and_true]
    have : PyData.strOk (S w) = true := by
      show (S w).cps.all (· < 0x110000) = true
      rw [Array.all_eq_true']
      intro c hc
      have hc : c ∈ w := by
        have : c ∈ (S w).cps.toList := by simpa using hc
        rw [S_tl] at this; exact this
      have := h w (List.mem_cons_self ..) c hc
      simp; omega
    cases n <;> exact this
theorem comp_isl {t : D} : ∀ (ws : List (List Nat)), (∀ w ∈ ws, w.length ≤ 90000) → compD (gn 1) yes e1_is_program [.z t, .u] (wT ws) = .ok (ws.map fun w => D.bl (lnC w))
  | [], _ => rfl
  | w :: ws, h => by
    have hd := (x_line (h w (List.mem_cons_self ..))).1
    exact comp_t (ρ1 := [.z t, .z (.str (S w))]) rfl rfl (by simp?! [e1_is_program, hd]) (comp_isl (t := t) ws fun x hx => h x (List.mem_cons_of_mem _ hx))
theorem comp_law {a b c d e f g : En} : ∀ (ws : List (List Nat)), (∀ w ∈ ws, w.length ≤ 90000) → compD (gn 7) (notQ (tst (callD 1 d__law_is_line_v2 (acons (var 7) anil)))) e2_law [a, b, c, d, e, f, g, .u] (wT ws) = .ok (wT (ws.filter fun w => !lnC w))
  | [], _ => rfl
  | w :: ws, h => by
    have hd := (x_line (h w (List.mem_cons_self ..))).2
    have ih := comp_law (a := a) (b := b) (c := c) (d := d) (e := e) (f := f) (g := g) ws fun x hx => h x (List.mem_cons_of_mem _ hx)
    have ht : notQ (tst (callD 1 d__law_is_line_v2 (acons (var 7) anil))) [a, b, c, d, e, f, g, .z (.str (S w))] = .ok (!lnC w) := by simp?! [hd]
    cases q : lnC w with
    | true =>
      rw [q] at ht
      show compD (gn 7) _ e2_law _ (D.str (S w) :: wT ws) = _
      rw [comp_f (ρ1 := [a, b, c, d, e, f, g, .z (.str (S w))]) rfl ht, ih, List.filter_cons, if_neg (by simp [q])]
    | false =>
      rw [q] at ht
      show compD (gn 7) _ e2_law _ (D.str (S w) :: wT ws) = _
      rw [comp_t (ρ1 := [a, b, c, d, e, f, g, .z (.str (S w))]) (y := .str (S w)) rfl ht rfl ih, List.filter_cons, if_pos (by simp [q])]
      rfl
theorem allB_map : ∀ ws : List (List Nat), allD [.lst (ws.map fun w => D.bl (lnC w))] = some (.bl (ws.all lnC)) := by
  have key : ∀ ws : List (List Nat), DN.allB (ws.map fun w => D.bl (lnC w)) = some (ws.map lnC) := by
    intro ws
    induction ws with
    | nil => rfl
    | cons d ds ih =>
      show (DN.allB (ds.map fun d => D.bl (lnC d))).map (lnC d :: ·) = _
      rw [ih]
      rfl
  intro ws
  show (DN.allB (ws.map fun d => D.bl (lnC d))).map _ = _
  rw [key]
  simp
theorem filt_e : ∀ ws : List (List Nat), (ws.filter fun w => !lnC w).isEmpty = ws.all lnC
  | [] => rfl
  | d :: ds => by
    rw [List.filter_cons, List.all_cons]
    cases q : lnC d with
    | true => simp [filt_e ds]
    | false => simp
theorem eqds_e : ∀ (xs : List D), DN.eqds xs [] = xs.isEmpty
  | [] => rfl
  | _ :: _ => rfl
theorem its_P {f : Rho → Res D} {ds : List D} {ρ : Rho} (h : f ρ = .ok (.tup ds)) : its f ρ = .ok ds := by
  unfold its; rw [h]; rfl
theorem notext_told : toldR (.ex "NoText") = .ok (.tup [.str "refused", .int 1]) := rfl
theorem kit_tt : kitB "tuple" "tuple" = some true := by decide +kernel
theorem dash_end {a b c e : En} : finR (t4_law [a, b, c, .z (.str (S [45])), e, .u, .u, .u]) = .ok (.bl true) := by kernel_rfl
theorem tail31 {a b c e : En} {l : List Nat} {L n : Nat} (h : Tx L n l) (hL : L ≤ 80000) (hn : n ≤ 500) : finR (t4_law [a, b, c, .z (.str (S l)), e, .u, .u, .u]) = .ok (.bl true) := by
  by_cases hd : l = [45]
  · subst hd; exact dash_end
  have hl := h.len
  have e0 : Str.ofString "-" = S [45] := by decide +kernel
  have e1 : (S l == Str.ofString "-") = false := by
    rw [e0, beq_eq_false_iff_ne]
    intro q
    have := congrArg (fun x : Str => x.cps.toList) q
    simp only [S_tl] at this
    exact hd this
  have sp := sp_D (l := l) (by omega)
  have hw := ws_of h
  obtain ⟨ws, hws⟩ : ∃ ws, ws = cutL 32 l := ⟨_, rfl⟩
  rw [← hws] at sp hw
  have wl : ∀ w ∈ ws, w.length ≤ 90000 := fun w hw' => by
    have : sumL [w] ≤ sumL ws := sumL_sub (List.singleton_sublist.mpr hw')
    have := hw.sum
    simp [sumL] at *
    omega
  have hlen := hw.len
  have tp : tupD [wD ws] = some (.tup (wT ws)) := rfl
  have ne : neD (.str (S l)) (.str "-") = some (.bl true) := by rw [ne_ss, e1]; rfl
  have wn : ws ≠ [] := by
    rw [hws]
    intro q
    exact cutL_ne 32 l q
  have mu : mulAD (.tup (wT ws)) (.int 1) = some (.tup (wT ws)) := by
    rw [mulA_tt ⟨by decide, by decide, fun z => wn (List.map_eq_nil_iff.mp z), by rw [List.length_map]; omega⟩]
    show some (D.tup ([wT ws].flatten)) = _
    simp
  have key : finR (t4_law [a, b, c, .z (.str (S l)), e, .u, .u, .u]) = finR (t6_law [a, b, c, .z (.str (S l)), e, .z (.tup (wT ws)), .z (.tup [.str "told", .tup (wT ws)]), .u]) := by
    simp?! [t4_law, t5_law, met_def, metR_ok, sp, tp, ne, mu, if_true]
  rw [key]
  have it := its_P (f := var 5) (ds := wT ws) (ρ := [a, b, c, .z (.str (S l)), e, .z (.tup (wT ws)), .z (.tup [.str "told", .tup (wT ws)]), .u]) rfl
  have it2 := its_P (f := var 0) (ds := wT ws) (ρ := [.z (.tup (wT ws)), .u]) rfl
  have tl : (wT ws).length ≤ 1000000 := by rw [List.length_map]; omega
  have lc := lc_eq (i := 7) (t := notQ (tst (callD 1 d__law_is_line_v2 (acons (var 7) anil)))) (e := e2_law) it tl (comp_law ws wl)
  have lc2 := lc_eq (i := 1) (t := yes) (e := e1_is_program) it2 tl (comp_isl (t := .tup (wT ws)) ws wl)
  have pl : ∀ n, DN.plains n (wT ws) = true := fun n => pl_wT fun w hw' => (hw.ch w hw').2
  have plf : ∀ n, DN.plains n (wT (ws.filter fun w => !lnC w)) = true := fun n => pl_wT fun w hw' => (hw.ch w (List.mem_filter.mp hw').1).2
  have eqN : neD (.lst (wT (ws.filter fun w => !lnC w))) (.lst []) = some (.bl (!ws.all lnC)) := by
    unfold neD DN.eqOk
    have p1 : DN.plain 64 (.lst (wT (ws.filter fun w => !lnC w))) = true := plf 63
    have p2 : DN.plain 64 (.lst []) = true := rfl
    rw [p1, p2, Bool.and_self, Bool.or_true, if_pos rfl]
    show some (D.bl (!DN.eqds (wT (ws.filter fun w => !lnC w)) [])) = _
    rw [eqds_e, List.isEmpty_map, filt_e]
  have ln : lenD [.tup (wT ws)] = some (.int ws.length) := by rw [len_t, List.length_map]
  have ipr : d_is_program [.tup (wT ws)] = .ok (.bl (decide ((ws.length : Int) ≤ 30) && ws.all lnC)) := by
    by_cases q : (ws.length : Int) ≤ 30
    · simp?! [v_is_program, g_is_program, isi_t kit_tt, ln, decide_eq_true q, lc2, allB_map]
      rfl
    · simp?! [v_is_program, g_is_program, isi_t kit_tt, ln, decide_eq_false q]
      rfl
  have du : orQ (tst (bop gtD (cal lenD (acons (var 5) anil)) (con (.int 30)))) (tst (bop neD (lcD (its (var 5)) 7 (notQ (tst (callD 1 d__law_is_line_v2 (acons (var 7) anil)))) e2_law) (mkL anil))) [a, b, c, .z (.str (S l)), e, .z (.tup (wT ws)), .z (.tup [.str "told", .tup (wT ws)]), .u] = .ok (!(decide ((ws.length : Int) ≤ 30) && ws.all lnC)) := by
    by_cases q : (30 : Int) < ws.length
    · have q2 : decide ((ws.length : Int) ≤ 30) = false := decide_eq_false (by omega)
      simp?! [ln, decide_eq_true q, q2]
      rfl
    · have q2 : decide ((ws.length : Int) ≤ 30) = true := decide_eq_true (by omega)
      simp?! [ln, decide_eq_false q, q2, lc, eqN]
      simp
  have rd0 : d_read_program [.str (S l)] = finR (t3_read_program [.z (.str (S l)), .z (.tup (wT ws))]) := by
    simp?! [v_read_program, g_read_program, t1_read_program, t2_read_program, isi_s kit_ss, e1, met_def, metR_ok, sp, tp]
  cases hb : (decide ((ws.length : Int) ≤ 30) && ws.all lnC) with
  | true =>
    rw [hb] at ipr du
    have rd : d_read_program [.str (S l)] = .ok (.tup (wT ws)) := by
      rw [rd0]
      simp?! [t3_read_program, t4_read_program, ipr]
    have n1 := eq_same (pl_told (d := .tup (wT ws)) (pl 62))
    unfold t6_law
    rw [sseq_def, sif_def, du]
    simp?! [t7_law, told_def, rd, told_ok, n1]
  | false =>
    rw [hb] at ipr du
    have rd : d_read_program [.str (S l)] = .ex "NoText" := by
      rw [rd0]
      simp?! [t3_read_program, ipr]
    have n1 := eq_same (d := .tup [.str "refused", .int 1]) pl_ref
    unfold t6_law
    rw [sseq_def, sif_def, du]
    simp?! [t7_law, told_def, rd, notext_told, n1]
theorem lp31 {a c : En} {m : Int} (hm : 0 ≤ m) : ∀ (ds : List D) (l : List Nat) (L n : Nat) (e : En), (∀ d ∈ ds, ∃ j : Nat, j < 100 ∧ d = .int (j : Int)) → Tx L n l → n ≤ 100 - 3 * ds.length → ds.length ≤ 4 → (L + 120) * 2 ^ ds.length ≤ 20000 → ∃ l' e', loopD (gn 4) b1_law ds [a, .z (.int m), c, .z (.str (S l)), e, .u, .u, .u] = .nx [a, .z (.int m), c, .z (.str (S l')), e', .u, .u, .u] ∧ Tx 20000 100 l'
  | [], l, L, n, e, _, h, hn, _, hL => ⟨l, e, rfl, h.up (by simp at hL; omega) (by simp at hn; omega)⟩
  | d :: ds, l, L, n, e, hd, h, hn, h4, hL => by
    obtain ⟨j, hj, rfl⟩ := hd d (List.mem_cons_self ..)
    obtain ⟨dr, d1, d2, d3⟩ := x_drawn (n := m) (k := (j : Int)) (by omega) (by omega)
    simp only [List.length_cons] at hn h4 hL
    have pw : 2 ^ (ds.length + 1) = 2 ^ ds.length * 2 := Nat.pow_succ ..
    have p1 : 1 ≤ 2 ^ ds.length := Nat.one_le_two_pow
    have hL2 : (2 * (L + 120)) * 2 ^ ds.length ≤ 20000 := by
      rw [pw, ← Nat.mul_assoc, Nat.mul_right_comm, Nat.mul_comm (L + 120) 2] at hL
      exact hL
    have hLs : 2 * (L + 120) ≤ 20000 := Nat.le_trans (Nat.le_mul_of_pos_right _ p1) hL2
    obtain ⟨l', x1, x2⟩ := x_changed (m := dr / 4) (by omega) h (by omega) (by omega)
    have st : b1_law [a, .z (.int m), c, .z (.str (S l)), .z (.int (j : Int)), .u, .u, .u] = .nx [a, .z (.int m), c, .z (.str (S l')), .z (.int (j : Int)), .u, .u, .u] := by
      simp?! [b1_law, d1, x1]
    rw [loop_cons (by rfl) st]
    refine lp31 hm ds l' (2 * L + n + 10) (n + 3) _ (fun x hx => hd x (List.mem_cons_of_mem _ hx)) x2 (by omega) (by omega) ?_
    refine Nat.le_trans (Nat.mul_le_mul_right _ ?_) hL2
    omega
theorem law_true (ns : List Int) (h : ns.length ≤ 63) (hz : ∀ z ∈ ns, Builtin.Int.intBits z ≤ 1048576) : d_law [.arr ns] = .ok (.bl true) := by
  obtain ⟨m0, e0, g0, g1⟩ := x_mixed (ns := ns) (k := 0) (by omega) (by omega)
  obtain ⟨m1, e1, h0, _⟩ := x_mixed (ns := ns) (k := 1) (by omega) (by omega)
  obtain ⟨ds, p1, p2, p3⟩ := x_lprog (n := m1) (most := 31) h0 (by omega) (by omega)
  obtain ⟨ws, q1, q2⟩ := ds_ws ds p1
  subst q1
  have wl : ws.length ≤ 31 := by rw [List.length_map] at p2; omega
  have s6 := sum6 ws q2
  have jn := jn_T (ws := ws) (by omega)
  have base : Ws 186 31 ws := ⟨wl, by omega, fun w hw => ⟨(q2 w hw).b, (q2 w hw).c⟩⟩
  -- the text
  have tx : ∃ l, Tx 230 32 l ∧ bop addD (met joinD (con (.str " ")) (acons (var 2) anil)) (bop mulD (con (.str "-")) (cal intD (acons (bop eqD (var 2) (mkT anil)) anil))) [.z (.arr ns), .z (.int m0), .z (.tup (wT ws)), .u, .u, .u, .u, .u] = .ok (.str (S l)) := by
    cases ws with
    | nil =>
      exact ⟨[45], ⟨by simp, fun c hc => by simp at hc; omega, by decide⟩, by kernel_rfl⟩
    | cons w r =>
      have eqT : eqD (.tup (wT (w :: r))) (.tup []) = some (.bl false) := by
        unfold eqD DN.eqOk
        have p1 : DN.plain 64 (.tup (wT (w :: r))) = true := pl_wT (n := 63) fun x hx => (q2 x hx).c
        have p2 : DN.plain 64 (.tup []) = true := rfl
        rw [p1, p2, Bool.and_self, Bool.or_true, if_pos rfl]
        rfl
      have m0' : mulD (.str "-") (.int 0) = some (.str (S [])) := by kernel_rfl
      have tt := base.tx
      have ad := add_S (a := jnL (w :: r)) (b := []) (by have := tt.len; simp; omega)
      rw [List.append_nil] at ad
      refine ⟨jnL (w :: r), tt.up (by omega) (by omega), ?_⟩
      simp?! [met_def, metR_ok, jn, eqT, m0', ad, if_false, Bool.false_eq_true]
  obtain ⟨l, tl, te⟩ := tx
  obtain ⟨k, hk, hk2⟩ : ∃ k : Nat, k ≤ 4 ∧ acons (bop ixD (mkT (acons (con (.int 0)) (acons (con (.int 1)) (acons (con (.int 2)) (acons (con (.int 4)) (acons (con (.int 0)) (acons (con (.int 1)) anil))))))) (bop modD (var 1) (con (.int 6)))) anil [.z (.arr ns), .z (.int m0), .z (.tup (wT ws)), .z (.str (S l)), .u, .u, .u, .u] = .ok [.int (k : Int)] := by
    have k6 : m0 % 6 = 0 ∨ m0 % 6 = 1 ∨ m0 % 6 = 2 ∨ m0 % 6 = 3 ∨ m0 % 6 = 4 ∨ m0 % 6 = 5 := by omega
    rcases k6 with q | q | q | q | q | q
    · exact ⟨0, by decide, by simp?! [q]; rfl⟩
    · exact ⟨1, by decide, by simp?! [q]; rfl⟩
    · exact ⟨2, by decide, by simp?! [q]; rfl⟩
    · exact ⟨4, by decide, by simp?! [q]; rfl⟩
    · exact ⟨0, by decide, by simp?! [q]; rfl⟩
    · exact ⟨1, by decide, by simp?! [q]; rfl⟩
  have rg := rng1_eq hk2 (by omega) (by omega)
  have hp : 2 ^ k ≤ 2 ^ 4 := Nat.pow_le_pow_right (by decide) hk
  obtain ⟨l', e', lp, tl'⟩ := lp31 (a := .z (.arr ns)) (c := .z (.tup (wT ws))) g0 (rngD 0 ((k : Int)).toNat) l 230 32 .u (fun d hd => by
    obtain ⟨j, hj, rfl⟩ := rngD_mem hd
    exact ⟨j, by omega, rfl⟩) tl (by rw [rngD_len]; omega) (by rw [rngD_len]; omega) (by
    rw [rngD_len, Int.toNat_natCast]
    omega)
  have key : d_law [.arr ns] = finR (t2_law [.z (.arr ns), .z (.int m0), .z (.tup (wT ws)), .u, .u, .u, .u, .u]) := by
    simp?! [v_law, g_law, t1_law, e0, e1, p3]
  rw [key]
  unfold t2_law
  rw [sseq_def, sasg_def, te, asgR_n, seqR_nx]
  have key2 : finR (t3_law [.z (.arr ns), .z (.int m0), .z (.tup (wT ws)), .z (.str (S l)), .u, .u, .u, .u]) = finR (t4_law [.z (.arr ns), .z (.int m0), .z (.tup (wT ws)), .z (.str (S l')), e', .u, .u, .u]) := by
    unfold t3_law
    rw [sseq_def, sfor_def, rg, forR_ok, lp, seqR_nx]
  exact key2.trans (tail31 tl' (by decide) (by decide))
def dd_ten : He.DefD := ⟨("ten", none), "ten", "ten", defArgs s_ten, defBody s_ten, defScope s_ten, [], []⟩
def dd_figures_of : He.DefD := ⟨("figures_of", none), "figures_of", "figures_of", defArgs s_figures_of, defBody s_figures_of, defScope s_figures_of, [], []⟩
def dd_height : He.DefD := ⟨("height", none), "height", "height", defArgs s_height, defBody s_height, defScope s_height, [], []⟩
def dd_taken : He.DefD := ⟨("taken", none), "taken", "taken", defArgs s_taken, defBody s_taken, defScope s_taken, [], []⟩
def dd_by_size : He.DefD := ⟨("by_size", none), "by_size", "by_size", defArgs s_by_size, defBody s_by_size, defScope s_by_size, [], []⟩
def dd_fitted : He.DefD := ⟨("fitted", none), "fitted", "fitted", defArgs s_fitted, defBody s_fitted, defScope s_fitted, [], []⟩
def dd_power_for : He.DefD := ⟨("power_for", none), "power_for", "power_for", defArgs s_power_for, defBody s_power_for, defScope s_power_for, [], []⟩
def dd_exact : He.DefD := ⟨("exact", none), "exact", "exact", defArgs s_exact, defBody s_exact, defScope s_exact, [], []⟩
def dd_level : He.DefD := ⟨("level", none), "level", "level", defArgs s_level, defBody s_level, defScope s_level, [], []⟩
def dd_of_power : He.DefD := ⟨("of_power", none), "of_power", "of_power", defArgs s_of_power, defBody s_of_power, defScope s_of_power, [], []⟩
def dd_plus : He.DefD := ⟨("plus", none), "plus", "plus", defArgs s_plus, defBody s_plus, defScope s_plus, [], []⟩
def dd_turned : He.DefD := ⟨("turned", none), "turned", "turned", defArgs s_turned, defBody s_turned, defScope s_turned, [], []⟩
def dd_minus : He.DefD := ⟨("minus", none), "minus", "minus", defArgs s_minus, defBody s_minus, defScope s_minus, [], []⟩
def dd_times : He.DefD := ⟨("times", none), "times", "times", defArgs s_times, defBody s_times, defScope s_times, [], []⟩
def dd_over : He.DefD := ⟨("over", none), "over", "over", defArgs s_over, defBody s_over, defScope s_over, [], []⟩
def dd_is_key : He.DefD := ⟨("is_key", none), "is_key", "is_key", defArgs s_is_key, defBody s_is_key, defScope s_is_key, [], []⟩
def dd_is_line : He.DefD := ⟨("is_line", none), "is_line", "is_line", defArgs s_is_line, defBody s_is_line, defScope s_is_line, [], []⟩
def dd_is_program : He.DefD := ⟨("is_program", none), "is_program", "is_program", defArgs s_is_program, defBody s_is_program, defScope s_is_program, [], []⟩
def dd_read_program : He.DefD := ⟨("read_program", none), "read_program", "read_program", defArgs s_read_program, defBody s_read_program, defScope s_read_program, [], []⟩
def dd__law_cell_at : He.DefD := ⟨("_law_cell_at", none), "_law_cell_at", "_law_cell_at", defArgs s__law_cell_at, defBody s__law_cell_at, defScope s__law_cell_at, [], []⟩
def dd__law_mixed : He.DefD := ⟨("_law_mixed", none), "_law_mixed", "_law_mixed", defArgs s__law_mixed, defBody s__law_mixed, defScope s__law_mixed, [], []⟩
def dd__law_drawn : He.DefD := ⟨("_law_drawn", none), "_law_drawn", "_law_drawn", defArgs s__law_drawn, defBody s__law_drawn, defScope s__law_drawn, [], []⟩
def dd__law_line : He.DefD := ⟨("_law_line", none), "_law_line", "_law_line", defArgs s__law_line, defBody s__law_line, defScope s__law_line, [], []⟩
def dd__law_program : He.DefD := ⟨("_law_program", none), "_law_program", "_law_program", defArgs s__law_program, defBody s__law_program, defScope s__law_program, [], []⟩
def dd__law_told : He.DefD := ⟨("_law_told", none), "_law_told", "_law_told", defArgs s__law_told, defBody s__law_told, defScope s__law_told, [], []⟩
def dd__law_changed : He.DefD := ⟨("_law_changed", none), "_law_changed", "_law_changed", defArgs s__law_changed, defBody s__law_changed, defScope s__law_changed, [], []⟩
def dd__law_is_line : He.DefD := ⟨("_law_is_line", none), "_law_is_line", "_law_is_line", defArgs s__law_is_line, defBody s__law_is_line, defScope s__law_is_line, [], []⟩
def dd_law : He.DefD := ⟨("law", none), "law", "law", defArgs s_law, defBody s_law, defScope s_law, [], []⟩
def fn : List He.DefD := [dd_ten, dd_figures_of, dd_height, dd_taken, dd_by_size, dd_fitted, dd_power_for, dd_exact, dd_level, dd_of_power, dd_plus, dd_turned, dd_minus, dd_times, dd_over, dd_is_key, dd_is_line, dd_is_program, dd_read_program, dd__law_cell_at, dd__law_mixed, dd__law_drawn, dd__law_line, dd__law_program, dd__law_told, dd__law_changed, dd__law_is_line, dd_law]
def fa : List He.Fa := [.glo "ten", .glo "figures_of", .glo "height", .glo "taken", .glo "by_size", .glo "fitted", .glo "power_for", .glo "exact", .glo "level", .glo "of_power", .glo "plus", .glo "turned", .glo "minus", .glo "times", .glo "over", .glo "is_key", .glo "is_line", .glo "is_program", .glo "read_program", .glo "_law_cell_at", .glo "_law_mixed", .glo "_law_drawn", .glo "_law_line", .glo "_law_program", .glo "_law_told", .glo "_law_changed", .glo "_law_is_line", .glo "law", .free "int", .free "abs", .free "str", .free "len", .free "max", .free "min", .free "isinstance", .free "tuple", .free "all", .free "range", .int "HIGHEST" (40), .int "MOST" (8), .int "MOST_LINES" (30), .str "FIGURES" "0123456789", .glo "PLAIN_KEYS", .glo "OTHERS", .glo "WORDS", .glo "DEEDS", .glo "TooGreat", .exc "TooGreat", .glo "NoDeed", .exc "NoDeed", .glo "NoText", .exc "NoText", .glo "NoKey", .glo "NoRoom", .glo "PileError", .free "ValueError"]
def ts : List He.Tab := [((fun K => He.ga K "DEEDS"), ["plus", "minus", "times", "over"])]
def tf : List He.Defn := [("law", none)]
def ex (K : PySem.W.Frag) : Bool := (He.tupB K "PLAIN_KEYS" (k_PLAIN_KEYS.map He.Dv.str) && (He.tupB K "OTHERS" (k_OTHERS.map He.Dv.str) && (He.tupB K "WORDS" (k_WORDS.map He.Dv.str) && (He.valsB K (He.ga K "DEEDS") [("plus", He.Dv.glo "plus"), ("minus", He.Dv.glo "minus"), ("times", He.Dv.glo "times"), ("over", He.Dv.glo "over")] && (toldB K && (huB K "law" && true))))))
abbrev R : PySem.W.OpenRow := PySem.W.OpenLaw.row PySem.Challenge.rw_pocketpile_k31_whole_programs_read
abbrev hk : PySem.W.Hook := He.hookX 5 fa fn ts tf ex
def ob (s : PySem.W.SharedT) : He.AlX := He.obsX 5 fa fn ts tf ex (HandSHeadRun.getT s)
theorem ob_eq (s : PySem.W.SharedT) : ob s = hk.obs s.abs := He.obsX_eq (HandSHeadRun.getT_eq s)
def names : List PySem.Str := (["PileError", "TooGreat", "NoText", "NoDeed", "NoKey", "NoRoom", "MOST", "HIGHEST", "ten", "figures_of", "height", "taken", "by_size", "fitted", "power_for", "exact", "level", "of_power", "plus", "turned"] : List PySem.Str) ++ (["minus", "times", "over", "FIGURES", "DEEDS", "PLAIN_KEYS", "is_key", "MOST_LINES", "OTHERS", "WORDS", "is_line", "is_program", "read_program", "_law_cell_at", "_law_mixed", "_law_drawn", "_law_line", "_law_program", "_law_told", "_law_changed"] : List PySem.Str) ++ (["_law_is_line"] : List PySem.Str)
theorem run_f (w : World) : HandSHeadRun.RunEq R (PySem.W.view R.prog [47]) hk ob 3000 names (w.withFollow "special-get-raises" false) := by
  intro os
  kernel_rfl
theorem run_t (w : World) : HandSHeadRun.RunEq R (PySem.W.view R.prog [47]) hk ob 3000 names (w.withFollow "special-get-raises" true) := by
  intro os
  kernel_rfl
theorem run (w : World) : HandSHeadRun.RunEq R (PySem.W.view R.prog [47]) hk ob 3000 names w := PySem.W.byRow2 "special-get-raises" (P := fun w => HandSHeadRun.RunEq R (PySem.W.view R.prog [47]) hk ob 3000 names w) run_f run_t w
theorem top_of {w : World} {K : PySem.W.Frag} {h : Heap} {mg : Str → Option Value} (X : K.In h) (G : h.Ns mainGlobals mg) (c : He.SaysX fa fn ts tf ex w h K) : Top w K mg :=
  ⟨(c.t.d.def_ 0 (d := dd_ten) rfl),
   (He.glo_ok X G (c.t.d.fact 0 (f := .glo "ten") rfl)),
   (c.t.d.def_ 1 (d := dd_figures_of) rfl),
   (He.glo_ok X G (c.t.d.fact 1 (f := .glo "figures_of") rfl)),
   (c.t.d.def_ 2 (d := dd_height) rfl),
   (He.glo_ok X G (c.t.d.fact 2 (f := .glo "height") rfl)),
   (c.t.d.def_ 3 (d := dd_taken) rfl),
   (He.glo_ok X G (c.t.d.fact 3 (f := .glo "taken") rfl)),
   (c.t.d.def_ 4 (d := dd_by_size) rfl),
   (He.glo_ok X G (c.t.d.fact 4 (f := .glo "by_size") rfl)),
   (c.t.d.def_ 5 (d := dd_fitted) rfl),
   (He.glo_ok X G (c.t.d.fact 5 (f := .glo "fitted") rfl)),
   (c.t.d.def_ 6 (d := dd_power_for) rfl),
   (He.glo_ok X G (c.t.d.fact 6 (f := .glo "power_for") rfl)),
   (c.t.d.def_ 7 (d := dd_exact) rfl),
   (He.glo_ok X G (c.t.d.fact 7 (f := .glo "exact") rfl)),
   (c.t.d.def_ 8 (d := dd_level) rfl),
   (He.glo_ok X G (c.t.d.fact 8 (f := .glo "level") rfl)),
   (c.t.d.def_ 9 (d := dd_of_power) rfl),
   (He.glo_ok X G (c.t.d.fact 9 (f := .glo "of_power") rfl)),
   (c.t.d.def_ 10 (d := dd_plus) rfl),
   (He.glo_ok X G (c.t.d.fact 10 (f := .glo "plus") rfl)),
   (c.t.d.def_ 11 (d := dd_turned) rfl),
   (He.glo_ok X G (c.t.d.fact 11 (f := .glo "turned") rfl)),
   (c.t.d.def_ 12 (d := dd_minus) rfl),
   (He.glo_ok X G (c.t.d.fact 12 (f := .glo "minus") rfl)),
   (c.t.d.def_ 13 (d := dd_times) rfl),
   (He.glo_ok X G (c.t.d.fact 13 (f := .glo "times") rfl)),
   (c.t.d.def_ 14 (d := dd_over) rfl),
   (He.glo_ok X G (c.t.d.fact 14 (f := .glo "over") rfl)),
   (c.t.d.def_ 15 (d := dd_is_key) rfl),
   (He.glo_ok X G (c.t.d.fact 15 (f := .glo "is_key") rfl)),
   (c.t.d.def_ 16 (d := dd_is_line) rfl),
   (He.glo_ok X G (c.t.d.fact 16 (f := .glo "is_line") rfl)),
   (c.t.d.def_ 17 (d := dd_is_program) rfl),
   (He.glo_ok X G (c.t.d.fact 17 (f := .glo "is_program") rfl)),
   (c.t.d.def_ 18 (d := dd_read_program) rfl),
   (He.glo_ok X G (c.t.d.fact 18 (f := .glo "read_program") rfl)),
   (c.t.d.def_ 19 (d := dd__law_cell_at) rfl),
   (He.glo_ok X G (c.t.d.fact 19 (f := .glo "_law_cell_at") rfl)),
   (c.t.d.def_ 20 (d := dd__law_mixed) rfl),
   (He.glo_ok X G (c.t.d.fact 20 (f := .glo "_law_mixed") rfl)),
   (c.t.d.def_ 21 (d := dd__law_drawn) rfl),
   (He.glo_ok X G (c.t.d.fact 21 (f := .glo "_law_drawn") rfl)),
   (c.t.d.def_ 22 (d := dd__law_line) rfl),
   (He.glo_ok X G (c.t.d.fact 22 (f := .glo "_law_line") rfl)),
   (c.t.d.def_ 23 (d := dd__law_program) rfl),
   (He.glo_ok X G (c.t.d.fact 23 (f := .glo "_law_program") rfl)),
   (c.t.d.def_ 24 (d := dd__law_told) rfl),
   (He.glo_ok X G (c.t.d.fact 24 (f := .glo "_law_told") rfl)),
   (c.t.d.def_ 25 (d := dd__law_changed) rfl),
   (He.glo_ok X G (c.t.d.fact 25 (f := .glo "_law_changed") rfl)),
   (c.t.d.def_ 26 (d := dd__law_is_line) rfl),
   (He.glo_ok X G (c.t.d.fact 26 (f := .glo "_law_is_line") rfl)),
   (c.t.d.def_ 27 (d := dd_law) rfl),
   (He.glo_ok X G (c.t.d.fact 27 (f := .glo "law") rfl)),
   (He.free_ok X G (c.t.d.fact 28 (f := .free "int") rfl)),
   (He.free_ok X G (c.t.d.fact 29 (f := .free "abs") rfl)),
   (He.free_ok X G (c.t.d.fact 30 (f := .free "str") rfl)),
   (He.free_ok X G (c.t.d.fact 31 (f := .free "len") rfl)),
   (He.free_ok X G (c.t.d.fact 32 (f := .free "max") rfl)),
   (He.free_ok X G (c.t.d.fact 33 (f := .free "min") rfl)),
   (He.free_ok X G (c.t.d.fact 34 (f := .free "isinstance") rfl)),
   (He.free_ok X G (c.t.d.fact 35 (f := .free "tuple") rfl)),
   (He.free_ok X G (c.t.d.fact 36 (f := .free "all") rfl)),
   (He.free_ok X G (c.t.d.fact 37 (f := .free "range") rfl)),
   (He.int_ok X G (c.t.d.fact 38 (f := .int "HIGHEST" (40)) rfl)),
   (He.int_ok X G (c.t.d.fact 39 (f := .int "MOST" (8)) rfl)),
   (He.int_ok X G (c.t.d.fact 40 (f := .int "MOST_LINES" (30)) rfl)),
   (He.str_ok X G (c.t.d.fact 41 (f := .str "FIGURES" "0123456789") rfl)),
   (He.glo_ok X G (c.t.d.fact 42 (f := .glo "PLAIN_KEYS") rfl)),
   (fun H => tup_strs (He.tupB_ok (He.ba c.more).1 H)),
   (He.glo_ok X G (c.t.d.fact 43 (f := .glo "OTHERS") rfl)),
   (fun H => tup_strs (He.tupB_ok (He.ba (He.ba c.more).2).1 H)),
   (He.glo_ok X G (c.t.d.fact 44 (f := .glo "WORDS") rfl)),
   (fun H => tup_strs (He.tupB_ok (He.ba (He.ba (He.ba c.more).2).2).1 H)),
   (dic_f X G (tab_eq c.t 0 (t := ((fun K => He.ga K "DEEDS"), ["plus", "minus", "times", "over"])) rfl) (He.ba (He.ba (He.ba (He.ba c.more).2).2).2).1 (c.t.d.fact 45 (f := .glo "DEEDS") rfl)),
   (exc_n X G (c.t.d.fact 46 (f := .glo "TooGreat") rfl) (c.t.d.fact 47 (f := .exc "TooGreat") rfl)),
   (exc_n X G (c.t.d.fact 48 (f := .glo "NoDeed") rfl) (c.t.d.fact 49 (f := .exc "NoDeed") rfl)),
   (exc_n X G (c.t.d.fact 50 (f := .glo "NoText") rfl) (c.t.d.fact 51 (f := .exc "NoText") rfl)),
   (told_c (toldB_ok (He.ba (He.ba (He.ba (He.ba (He.ba c.more).2).2).2).2).1) (He.glo_ok X G (c.t.d.fact 46 (f := .glo "TooGreat") rfl)) (He.glo_ok X G (c.t.d.fact 50 (f := .glo "NoText") rfl)) (He.glo_ok X G (c.t.d.fact 48 (f := .glo "NoDeed") rfl)) (He.glo_ok X G (c.t.d.fact 52 (f := .glo "NoKey") rfl)) (He.glo_ok X G (c.t.d.fact 53 (f := .glo "NoRoom") rfl)) (He.glo_ok X G (c.t.d.fact 54 (f := .glo "PileError") rfl)) (He.free_ok X G (c.t.d.fact 34 (f := .free "isinstance") rfl)) (He.free_ok X G (c.t.d.fact 55 (f := .free "ValueError") rfl))),
   (huB_ok (He.ba (He.ba (He.ba (He.ba (He.ba (He.ba c.more).2).2).2).2).2).1)⟩
theorem law_end {l : PySem.W.OpenLaw} {w : World} {K : PySem.W.Frag} {h : Heap} {mg : Str → Option Value} {f : Addr} (X : K.In h) (G : h.Ns mainGlobals mg) (hfa : mg ("law" : Str) = some (.ref f)) (c : He.SaysX fa fn ts tf ex w h K) : LamX.LawAtS l w K (L2.CX l.prog w) 14 63 "script" mg f h := by
  have Z := top_of X G c
  have e := hfa.symm.trans Z.m_law
  cases e
  obtain ⟨fd, Fd⟩ := Z.f_law
  have b := FunD.bindsA (ps := ["script"]) Fd fun _ _ _ _ _ _ us hl => match us, hl with | [_], _ => rfl
  refine lawAtT (T := tabT K) (tf := tf) X c.hd c.out c.empty (fun p hp => ?_) (fd := fd) (den := d_law) (fun s v => b s [v] rfl) law_true fun base h1 h2 h3 => ?_
  · unfold tabT at hp
    simp only [List.mem_cons, List.not_mem_nil, or_false] at hp
    rcases hp with rfl
    · exact ⟨("law", none), by unfold tf; simp, rfl⟩
  · exact law_fn Z h3 Fd
end LW
open PySem PySem.W PySem.Calls PyProof.Rows
set_option maxRecDepth 100000 in
set_option maxHeartbeats 0 in
theorem PySem.Challenge.cw_pocketpile_k31_whole_programs_read_holds : PySem.Challenge.rw_pocketpile_k31_whole_programs_read.Holds := by
  w_on; o_law
  refine HandSHeadRun.head_any (r := OpenLaw.row PySem.Challenge.rw_pocketpile_k31_whole_programs_read) (q := view (OpenLaw.row PySem.Challenge.rw_pocketpile_k31_whole_programs_read).prog [47]) (H := LW.hk) (ob := LW.ob) (M := 3000) (loose := LW.names) (d := HandSHeadRun.topDef (OpenLaw.row PySem.Challenge.rw_pocketpile_k31_whole_programs_read).prog 47) (kwd := []) LW.ob_eq
    (by kernel_rfl) (fun s => by kernel_rfl) LW.run (by kernel_rfl) (by kernel_rfl) (by kernel_rfl) (by rfl) (by first | assumption | decide +kernel) (by decide +kernel) ⟨rfl, rfl, rfl, rfl, rfl, by decide +kernel⟩ ?hw ?hc
  case hw => w_witness2
  case hc =>
    refine LamX.walk_ofTsE (l := PySem.Challenge.rw_pocketpile_k31_whole_programs_read) (n := 63) (k := 14) (x := "script") (CX := fun w => L2.CX (PySem.Challenge.rw_pocketpile_k31_whole_programs_read).prog w) rfl (by decide) (by kernel_rfl) ⟨rfl, by decide, by decide⟩ ?F (fun _ _ _ _ _ z => DN.cx_false z)
    intro w mg fa h Y G hmg0
    obtain ⟨K, KX, c⟩ := Y
    have hmg : mg ("law" : PySem.Str) = some (.ref fa) := by
      have e : (HandSHeadRun.topDef (OpenLaw.row PySem.Challenge.rw_pocketpile_k31_whole_programs_read).prog 47).name = ("law" : PySem.Str) := by kernel_rfl
      rw [← e]
      exact hmg0
    exact ⟨K, KX, LW.law_end (l := PySem.Challenge.rw_pocketpile_k31_whole_programs_read) KX G hmg c⟩
