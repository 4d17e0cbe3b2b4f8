import PyProof.Rows.All
import Wide.All
import OpenK.AllK
import Wide.FinOn
import HandS.Base
import HandS.Call
import HandS.List
import HandS.Comp
import HandS.Exc
import HandS.Words
import HandS.Lambda
import HandS.Defaults
import HandS.ExcOwn
import HandS.CallSlots
import HandS.Iter
import HandS.IsInst
import HandS.Wide
import HandS.Style
import HandS.NoneIn
import HandS.TupAny
import KE.GoesEnumKw
import KE.GoesMore
import HandS.Zip
import HandS.SortKw
import HandS.Text
import HandS.WordsExc
import HandS.EndTab
import HandS.HeadWalk
import HandS.HeadHook4
import HandS.Head2
import HandS.ExcInit
import HandS.ExcField
import HandS.ExcIs
import HandS.Deep
import KE.IntTextLaws
import PySem.Challenge.RW_farmesh_k56_walk_texts_read_or_refused
set_option Elab.async false
set_option linter.all false
set_option maxRecDepth 100000
set_option maxHeartbeats 3900000
/-! # The layer of data: values as trees, a frozen heap inside the heap, slots that own an object -/
namespace Fm
open L2 PySem PySem.Spec PyProof.Rows

/-- data: what a value is, without addresses; the flag of a mutable kind: it is lent -/
inductive D where
  | non | bl (b : Bool) | int (i : Int) | str (s : Str)
  | tup (l : List D) | lst (b : Bool) (l : List D) | dk (b : Bool) (l : List (Key × D))
  | ins (b : Bool) (c : String) (l : List (Str × D)) | ty (n : String) | adr (a : Addr) | scr (l : List D)

/-- what a layer's run is about: the written part, where classes stand, the lambdas' tables -/
structure Ctx where
  K : PySem.W.Frag
  cl : String → Addr
  tabs : List (Addr × Str)

abbrev Pd := Addr → Prop

/-- lent or not: an object that is tracked is lent just where T says so; a written one never -/
def Ld (T : Pd) (a : Addr) (b : Bool) : Prop := T a ↔ b = true

/-- a tuple of the written part; a tuple -/
def KT (K : PySem.W.Frag) (a : Addr) (xs : List V) : Prop :=
  ∃ (ob : Obj) (us : Array Value) (m : Nat), K.lookup a = some ob ∧ ob.cls = .type "tuple" ∧ ob.data = .seq us m ∧ us.size ≤ sizeLine ∧ Vals xs us.toList
def TupAt (K : PySem.W.Frag) (G : Hp) (a : Addr) (xs : List V) : Prop := G a = some (.tup xs) ∨ KT K a xs
theorem TupAt.sq {K : PySem.W.Frag} {G H : Hp} {a : Addr} {xs : List V} (h : TupAt K G a xs) (s : Same G H) : SqT K H a xs := by
  rcases h with h | h
  · exact .inl (.inl (s _ _ h))
  · exact .inr h
theorem TupAt.mono {K : PySem.W.Frag} {G H : Hp} {a : Addr} {xs : List V} (s : Same G H) (h : TupAt K G a xs) : TupAt K H a xs := by
  rcases h with h | h
  · exact .inl (s _ _ h)
  · exact .inr h

/-- the script's list: locked, or written -/
def ScrAt (K : PySem.W.Frag) (G : Hp) (a : Addr) (xs : List V) : Prop := (∃ o, G a = some (.frz o (.lst xs))) ∨
  ∃ (ob : Obj) (us : Array Value) (m : Nat), K.lookup a = some ob ∧ ob.cls = .type "list" ∧ ob.dict = none ∧ ob.data = .seq us m ∧ us.size ≤ sizeLine ∧ Vals xs us.toList
theorem ScrAt.sq {K : PySem.W.Frag} {G H : Hp} {a : Addr} {xs : List V} (h : ScrAt K G a xs) (s : Same G H) : SqL K H a xs := by
  rcases h with ⟨o, h⟩ | h
  · exact .inl (.inr ⟨o, s _ _ h⟩)
  · exact .inr h
theorem ScrAt.mono {K : PySem.W.Frag} {G H : Hp} {a : Addr} {xs : List V} (s : Same G H) (h : ScrAt K G a xs) : ScrAt K H a xs := by
  rcases h with ⟨o, h⟩ | h
  · exact .inl ⟨o, s _ _ h⟩
  · exact .inr h

mutual
def Rep (κ : Ctx) (T : Pd) (G : Hp) : D → V → Prop
  | .non, v => v = .non
  | .bl b, v => v = .bl b
  | .int i, v => v = .int i
  | .str s, v => v = .str s
  | .tup l, v => ∃ a vs, v = .ref a ∧ TupAt κ.K G a vs ∧ RepL κ T G l vs
  | .lst b l, v => ∃ a vs, v = .ref a ∧ (G a = some (.lst vs) ∧ Ld T a b) ∧ RepL κ T G l vs
  | .scr l, v => ∃ a vs, v = .ref a ∧ ScrAt κ.K G a vs ∧ RepL κ T G l vs
  | .dk b l, v => ∃ a vs, v = .ref a ∧ (G a = some (.dK vs) ∧ Ld T a b) ∧ RepK κ T G l vs
  | .ins b c l, v => ∃ a dx vs, v = .ref a ∧ (G a = some (.ins (κ.cl c) dx vs) ∧ Ld T a b) ∧ RepF κ T G l vs
  | .ty n, v => v = .ty n
  | .adr a, v => v = .ref a
def RepL (κ : Ctx) (T : Pd) (G : Hp) : List D → List V → Prop
  | [], vs => vs = []
  | d :: l, vs => ∃ v ws, vs = v :: ws ∧ Rep κ T G d v ∧ RepL κ T G l ws
def RepK (κ : Ctx) (T : Pd) (G : Hp) : List (Key × D) → List (Key × V) → Prop
  | [], vs => vs = []
  | (k, d) :: l, vs => ∃ v ws, vs = (k, v) :: ws ∧ Rep κ T G d v ∧ RepK κ T G l ws
def RepF (κ : Ctx) (T : Pd) (G : Hp) : List (Str × D) → List (Str × V) → Prop
  | [], vs => vs = []
  | (k, d) :: l, vs => ∃ v ws, vs = (k, v) :: ws ∧ Rep κ T G d v ∧ RepF κ T G l ws
end

theorem Rd.mono {G G' : Hp} (e : Same G G') {a : Addr} {u : HO} (h : Rd G a u) : Rd G' a u := by
  rcases h with h | ⟨o, h⟩
  · exact .inl (e _ _ h)
  · exact .inr ⟨o, e _ _ h⟩
theorem SqT.mono {K : PySem.W.Frag} {G G' : Hp} (e : Same G G') {a : Addr} {xs : List V} (h : SqT K G a xs) : SqT K G' a xs := by
  rcases h with h | h
  · exact .inl (Rd.mono e h)
  · exact .inr h

theorem sqL_mono {K : PySem.W.Frag} {G H : Hp} (s : Same G H) {a : Addr} {vs : List V} (h : SqL K G a vs) : SqL K H a vs := by
  rcases h with h | h
  · exact .inl (Rd.mono s h)
  · exact .inr h

/-- what is told of the objects that G tracks holds in G' and T' -/
structure Mono (T : Pd) (G : Hp) (T' : Pd) (G' : Hp) : Prop where
  same : Same G G'
  ld : ∀ a o b, G a = some o → Ld T a b → Ld T' a b
theorem Mono.of {T : Pd} {G G' : Hp} (e : Same G G') : Mono T G T G' := ⟨e, fun _ _ _ _ h => h⟩
theorem Mono.rd {T T' : Pd} {G G' : Hp} (e : Mono T G T' G') {a : Addr} {u : HO} {b : Bool} (h : Rd G a u) (l : Ld T a b) : Ld T' a b := by
  rcases h with h | ⟨o, h⟩
  · exact e.ld _ _ _ h l
  · exact e.ld _ _ _ h l
section
variable {κ : Ctx} {T T' : Pd} {G G' : Hp}
mutual
theorem Rep.mono (e : Mono T G T' G') : ∀ (d : D) {v : V}, Rep κ T G d v → Rep κ T' G' d v
  | .non, _, h => h
  | .bl _, _, h => h
  | .int _, _, h => h
  | .str _, _, h => h
  | .tup l, v, h => by
    obtain ⟨a, vs, h1, h2, h3⟩ := h
    exact ⟨a, vs, h1, TupAt.mono e.same h2, RepL.mono e l h3⟩
  | .lst b l, v, h => by
    obtain ⟨a, vs, h1, ⟨h2, h4⟩, h3⟩ := h
    exact ⟨a, vs, h1, ⟨e.same _ _ h2, e.ld _ _ _ h2 h4⟩, RepL.mono e l h3⟩
  | .scr l, v, h => by
    obtain ⟨a, vs, h1, h2, h3⟩ := h
    exact ⟨a, vs, h1, ScrAt.mono e.same h2, RepL.mono e l h3⟩
  | .dk b l, v, h => by
    obtain ⟨a, vs, h1, ⟨h2, h4⟩, h3⟩ := h
    exact ⟨a, vs, h1, ⟨e.same _ _ h2, e.ld _ _ _ h2 h4⟩, RepK.mono e l h3⟩
  | .ins b c l, v, h => by
    obtain ⟨a, dx, vs, h1, ⟨h2, h4⟩, h3⟩ := h
    exact ⟨a, dx, vs, h1, ⟨e.same _ _ h2, e.ld _ _ _ h2 h4⟩, RepF.mono e l h3⟩
  | .ty _, _, h => h
  | .adr _, _, h => h
theorem RepL.mono (e : Mono T G T' G') : ∀ (l : List D) {vs : List V}, RepL κ T G l vs → RepL κ T' G' l vs
  | [], _, h => h
  | d :: l, vs, h => by
    obtain ⟨v, ws, h1, h2, h3⟩ := h
    exact ⟨v, ws, h1, Rep.mono e d h2, RepL.mono e l h3⟩
theorem RepK.mono (e : Mono T G T' G') : ∀ (l : List (Key × D)) {vs : List (Key × V)}, RepK κ T G l vs → RepK κ T' G' l vs
  | [], _, h => h
  | (k, d) :: l, vs, h => by
    obtain ⟨v, ws, h1, h2, h3⟩ := h
    exact ⟨v, ws, h1, Rep.mono e d h2, RepK.mono e l h3⟩
theorem RepF.mono (e : Mono T G T' G') : ∀ (l : List (Str × D)) {vs : List (Str × V)}, RepF κ T G l vs → RepF κ T' G' l vs
  | [], _, h => h
  | (k, d) :: l, vs, h => by
    obtain ⟨v, ws, h1, h2, h3⟩ := h
    exact ⟨v, ws, h1, Rep.mono e d h2, RepF.mono e l h3⟩
end
theorem RepL.length : ∀ {l : List D} {vs : List V}, RepL κ T G l vs → vs.length = l.length
  | [], vs, h => by rw [show vs = [] from h] <;> rfl
  | d :: l, vs, h => by
    obtain ⟨v, ws, h1, h2, h3⟩ := h
    rw [h1, List.length_cons, List.length_cons, h3.length]
theorem RepL.append : ∀ {l m : List D} {vs ws : List V}, RepL κ T G l vs → RepL κ T G m ws → RepL κ T G (l ++ m) (vs ++ ws)
  | [], m, vs, ws, h, k => by rw [show vs = [] from h]; exact k
  | d :: l, m, vs, ws, h, k => by
    obtain ⟨v, us, h1, h2, h3⟩ := h
    rw [h1]
    exact ⟨v, us ++ ws, rfl, h2, h3.append k⟩
theorem RepL.get : ∀ {l : List D} {vs : List V} {i : Nat} {d : D}, RepL κ T G l vs → l[i]? = some d → ∃ v, vs[i]? = some v ∧ Rep κ T G d v
  | [], _, _, _, _, e => by simp at e
  | d :: l, vs, 0, e, h, q => by
    obtain ⟨v, us, h1, h2, h3⟩ := h
    rw [h1]
    simp at q
    subst q
    exact ⟨v, rfl, h2⟩
  | d :: l, vs, i + 1, e, h, q => by
    obtain ⟨v, us, h1, h2, h3⟩ := h
    rw [h1]
    exact RepL.get (i := i) h3 (by simpa using q)
theorem RepL.get' : ∀ {l : List D} {vs : List V} {i : Nat} {v : V}, RepL κ T G l vs → vs[i]? = some v → ∃ d, l[i]? = some d ∧ Rep κ T G d v := fun {l vs i v} h q => by
  have hi : i < l.length := by
    rw [← h.length]
    exact (List.getElem?_eq_some_iff.mp q).1
  obtain ⟨w, h1, h2⟩ := h.get (List.getElem?_eq_getElem hi)
  rw [q] at h1
  cases h1
  exact ⟨_, List.getElem?_eq_getElem hi, h2⟩
theorem RepL.set : ∀ {l : List D} {vs : List V} (i : Nat) {d : D} {v : V}, RepL κ T G l vs → Rep κ T G d v → RepL κ T G (l.set i d) (vs.set i v)
  | [], vs, i, d, v, h, k => by rw [show vs = [] from h]; exact rfl
  | e :: l, vs, 0, d, v, h, k => by
    obtain ⟨w, us, h1, h2, h3⟩ := h
    rw [h1]
    exact ⟨v, us, rfl, k, h3⟩
  | e :: l, vs, i + 1, d, v, h, k => by
    obtain ⟨w, us, h1, h2, h3⟩ := h
    rw [h1]
    exact ⟨w, _, rfl, h2, h3.set i k⟩
theorem RepL.take : ∀ {l : List D} {vs : List V} (n : Nat), RepL κ T G l vs → RepL κ T G (l.take n) (vs.take n)
  | l, vs, 0, h => by rw [List.take_zero, List.take_zero]; exact rfl
  | [], vs, n + 1, h => by rw [show vs = [] from h]; exact rfl
  | e :: l, vs, n + 1, h => by
    obtain ⟨w, us, h1, h2, h3⟩ := h
    rw [h1]
    exact ⟨w, _, rfl, h2, h3.take n⟩
theorem RepL.drop : ∀ {l : List D} {vs : List V} (n : Nat), RepL κ T G l vs → RepL κ T G (l.drop n) (vs.drop n)
  | l, vs, 0, h => h
  | [], vs, n + 1, h => by rw [show vs = [] from h]; exact rfl
  | e :: l, vs, n + 1, h => by
    obtain ⟨w, us, h1, h2, h3⟩ := h
    rw [h1]
    exact h3.drop n
theorem RepL.one {d : D} {v : V} (h : Rep κ T G d v) : RepL κ T G [d] [v] := ⟨v, [], rfl, h, rfl⟩
end

/-! ### slots -/
/-- a slot: nothing known, frozen data, or an object of its own -/
inductive SD where
  | un | va (d : D) | ow (d : D)
/-- an object that changes: its own content is tracked in H, what it holds is frozen -/
def OwnAt (κ : Ctx) (T : Pd) (G H : Hp) (p : Addr) : D → Prop
  | .lst _ l => ∃ vs, H p = some (.lst vs) ∧ RepL κ T G l vs
  | .dk _ l => ∃ vs, H p = some (.dK vs) ∧ RepK κ T G l vs
  | .ins _ c l => ∃ dx vs, H p = some (.ins (κ.cl c) dx vs) ∧ RepF κ T G l vs
  | _ => False
theorem OwnAt.mono {κ : Ctx} {T : Pd} {G G' H H' : Hp} {p : Addr} {d : D} (h : OwnAt κ T G H p d) (e : Same G G') (k : H' p = H p) : OwnAt κ T G' H' p d := by
  cases d <;> first
    | exact h.elim
    | (obtain ⟨vs, h1, h2⟩ := h; first | exact ⟨vs, k.trans h1, RepL.mono (.of e) _ h2⟩ | exact ⟨vs, k.trans h1, RepK.mono (.of e) _ h2⟩)
    | (obtain ⟨dx, vs, h1, h2⟩ := h; exact ⟨dx, vs, k.trans h1, RepF.mono (.of e) _ h2⟩)
theorem OwnAt.obj {κ : Ctx} {T : Pd} {G H : Hp} {p : Addr} {d : D} (h : OwnAt κ T G H p d) : ∃ o : HO, H p = some o ∧ (∀ ps, o ≠ .tbl ps) ∧ Mut (some o) := by
  cases d with
  | lst b l =>
    obtain ⟨vs, h1, h2⟩ := h
    exact ⟨.lst vs, h1, (fun ps z => by cases z), True.intro⟩
  | dk b l =>
    obtain ⟨vs, h1, h2⟩ := h
    exact ⟨.dK vs, h1, (fun ps z => by cases z), True.intro⟩
  | ins b c l =>
    obtain ⟨dx, vs, h1, h2⟩ := h
    exact ⟨.ins (κ.cl c) dx vs, h1, (fun ps z => by cases z), True.intro⟩
  | _ => exact h.elim

/-- where a run stands: the heap and the frozen heap at the def's entry, what is lent there -/
structure Bas where
  H : Hp
  G : Hp
  T : Pd
  an : List (Nat × Addr)

/-- a heap without its tables of code objects -/
def noT (H : Hp) : Hp := fun a => match H a with
  | some (.tbl _) => none
  | o => o
theorem noT_some {H : Hp} {a : Addr} {o : HO} (h : noT H a = some o) : H a = some o ∧ ∀ ps, o ≠ .tbl ps := by
  unfold noT at h
  cases e : H a with
  | none =>
    rw [e] at h
    cases h
  | some u =>
    rw [e] at h
    cases u <;> first
      | (cases h; done)
      | (cases h; exact ⟨rfl, fun ps z => by cases z⟩)
theorem noT_of {H : Hp} {a : Addr} {o : HO} (h : H a = some o) (n : ∀ ps, o ≠ .tbl ps) : noT H a = some o := by
  unfold noT
  rw [h]
  cases o <;> first
    | rfl
    | exact absurd rfl (n _)
theorem noT_none {H : Hp} {a : Addr} (h : noT H a = none) : ∀ o, H a = some o → ∃ ps, o = .tbl ps := fun o e => by
  by_cases n : ∀ ps, o ≠ .tbl ps
  · rw [noT_of e n] at h
    cases h
  · exact Classical.byContradiction fun z => n fun ps q => z ⟨ps, q⟩
theorem noT_tbl {H : Hp} {a : Addr} {ps : Array Value} : noT H a ≠ some (.tbl ps) := fun h => (noT_some h).2 ps rfl
theorem noT_free {H : Hp} {a : Addr} (h : H a = none) : noT H a = none := by
  unfold noT
  rw [h]
structure Frame (κ : Ctx) (B : Bas) (H G : Hp) : Prop where
  keep : ∀ a o, B.H a = some o → (∀ ps, o ≠ .tbl ps) → H a = some o
  nt : ∀ a ps, B.H a ≠ some (.tbl ps)
  frz : ∀ a, B.H a ≠ none → G a = B.G a
  sub : Same B.G G
  gh : Same G H
  notb : ∀ a ps, G a ≠ some (.tbl ps)
  tabs : LamX.Tabs κ.tabs H
  lent : ∀ a, B.T a → B.H a ≠ none

structure Ok (κ : Ctx) (B : Bas) (ρ : List SD) (σ : L2.St) (H G : Hp) : Prop where
  fr : Frame κ B H G
  len : σ.length = ρ.length
  val : ∀ (i : Nat) d, ρ[i]? = some (SD.va d) → ∃ v, σ[i]? = some (some v) ∧ Rep κ B.T G d v
  own : ∀ (i : Nat) d, ρ[i]? = some (SD.ow d) → ∃ p, σ[i]? = some (some (V.ref p)) ∧ G p = none ∧ B.H p = none ∧ OwnAt κ B.T G H p d
  sep : ∀ (i j : Nat) p d e, i ≠ j → ρ[i]? = some (SD.ow d) → ρ[j]? = some (SD.ow e) → σ[i]? = some (some (V.ref p)) → σ[j]? = some (some (V.ref p)) → False
  anch : ∀ i p, (i, p) ∈ B.an → σ[i]? = some (some (V.ref p))

/-- what stood at the entry stands -/
theorem Frame.obj {κ : Ctx} {B : Bas} {H G : Hp} (k : Frame κ B H G) {a : Addr} (h : B.H a ≠ none) : ∃ o, B.H a = some o ∧ (∀ ps, o ≠ .tbl ps) ∧ H a = some o := by
  cases e : B.H a with
  | none => exact absurd e h
  | some o =>
    have n : ∀ ps, o ≠ .tbl ps := fun ps z => k.nt a ps (by rw [e, z])
    exact ⟨o, rfl, n, k.keep a o e n⟩
theorem Frame.there {κ : Ctx} {B : Bas} {H G : Hp} (k : Frame κ B H G) (a : Addr) (h : B.H a ≠ none) : H a ≠ none := by
  obtain ⟨o, _, _, e⟩ := k.obj h
  rw [e]
  exact fun z => nomatch z
/-- a result: frozen data, or a new object that none but the taker has -/
def RepR (κ : Ctx) (B : Bas) (ρ : List SD) (σ : L2.St) (H G : Hp) : SD → V → Prop
  | .va d, v => Rep κ B.T G d v
  | .ow d, v => ∃ p, v = .ref p ∧ G p = none ∧ B.H p = none ∧ OwnAt κ B.T G H p d ∧ ∀ (j : Nat) e, ρ[j]? = some (SD.ow e) → σ[j]? ≠ some (some (V.ref p))
  | .un, _ => False

/-- an exception: the name of its class, its fields -/
structure Exn where
  c : String
  fs : List (Str × D)
def RepX (κ : Ctx) (T : Pd) (H G : Hp) (x : Exn) (cls : Value) (d : Option Addr) : Prop :=
  cls = .ref (κ.cl x.c) ∧ ∃ dx vs, d = some dx ∧ H dx = some (.xd vs) ∧ RepF κ T G x.fs vs

/-- what a piece of the program gives -/
inductive Rs (α : Type) where
  | ok (a : α) (ρ : List SD) | ex (x : Exn) (ρ : List SD) | no
abbrev M (α : Type) := List SD → Rs α
def M.bind {α β : Type} (m : M α) (k : α → M β) : M β := fun ρ => match m ρ with
  | .ok a ρ' => k a ρ'
  | .ex x ρ' => .ex x ρ'
  | .no => .no
def M.ret {α : Type} (a : α) : M α := fun ρ => .ok a ρ
def M.no {α : Type} : M α := fun _ => .no
def M.opt {α : Type} : Option α → M α
  | some a => .ret a
  | none => .no

/-- what is wanted behind it: K of the result, the slots' state, heap and frozen heap; W of an exception -/
def Pst {α : Type} (κ : Ctx) (W : WX) (B : Bas) (σ : L2.St) (G : Hp) (r : Rs α) (k : α → List SD → Hp → Hp → Prop) : Prop := match r with
  | .ok a ρ' => ∀ H' G', Ok κ B ρ' σ H' G' → Same G G' → k a ρ' H' G'
  | .ex x ρ' => ∀ cls d H' G', Ok κ B ρ' σ H' G' → Same G G' → RepX κ B.T H' G' x cls d → W cls d σ H'
  | .no => False
theorem Pst.bind {α β : Type} {κ : Ctx} {W : WX} {B : Bas} {σ : L2.St} {G : Hp} {m : M α} {f : α → M β} {ρ : List SD} {k : β → List SD → Hp → Hp → Prop} (h : Pst κ W B σ G (m.bind f ρ) k) :
    Pst κ W B σ G (m ρ) fun a ρ' H' G' => Pst κ W B σ G' (f a ρ') k := by
  unfold M.bind at h
  cases e : m ρ with
  | ok a ρ' =>
    rw [e] at h
    intro H' G' ok s
    show Pst κ W B σ G' (f a ρ') k
    have h2 : Pst κ W B σ G (f a ρ') k := h
    cases e2 : f a ρ' with
    | ok b ρ2 =>
      rw [e2] at h2
      exact fun H2 G2 ok2 s2 => h2 H2 G2 ok2 (s.trans s2)
    | ex x ρ2 =>
      rw [e2] at h2
      exact fun cls d H2 G2 ok2 s2 r => h2 cls d H2 G2 ok2 (s.trans s2) r
    | no =>
      rw [e2] at h2
      exact h2
  | ex x ρ' =>
    rw [e] at h
    exact h
  | no =>
    rw [e] at h
    exact h
theorem Pst.mono {α : Type} {κ : Ctx} {W : WX} {B : Bas} {σ : L2.St} {G : Hp} {r : Rs α} {k k' : α → List SD → Hp → Hp → Prop} (h : Pst κ W B σ G r k) (f : ∀ a ρ' H' G', Ok κ B ρ' σ H' G' → Same G G' → k a ρ' H' G' → k' a ρ' H' G') : Pst κ W B σ G r k' := by
  cases r with
  | ok a ρ' => exact fun H' G' ok s => f _ _ _ _ ok s (h H' G' ok s)
  | ex x ρ' => exact h
  | no => exact h
end Fm
set_option maxHeartbeats 3900000
namespace Fm
open L2 PySem PySem.Spec PyProof.Rows

/-! ### nothing lent within -/
mutual
def D.nb : D → Bool
  | .tup l => nbL l
  | .lst b l => !b && nbL l
  | .scr l => nbL l
  | .dk b l => !b && nbK l
  | .ins b _ l => !b && nbF l
  | _ => true
def nbL : List D → Bool
  | [] => true
  | d :: l => D.nb d && nbL l
def nbK : List (Key × D) → Bool
  | [] => true
  | (_, d) :: l => D.nb d && nbK l
def nbF : List (Str × D) → Bool
  | [] => true
  | (_, d) :: l => D.nb d && nbF l
end
/-- the content of an object of one's own -/
def D.nbO : D → Bool
  | .lst _ l => nbL l
  | .dk _ l => nbK l
  | .ins _ _ l => nbF l
  | _ => false
/-- frozen; lent -/
def D.fz : D → D
  | .lst _ l => .lst false l
  | .dk _ l => .dk false l
  | .ins _ c l => .ins false c l
  | d => d
def D.ln : D → D
  | .lst _ l => .lst true l
  | .dk _ l => .dk true l
  | .ins _ c l => .ins true c l
  | d => d

/-- a heap without one object -/
def er (G : Hp) (p : Addr) : Hp := fun a => if a = p then none else G a
theorem er_ne {G : Hp} {p a : Addr} (h : a ≠ p) : er G p a = G a := if_neg h
theorem er_same {G : Hp} {p : Addr} : er G p p = none := if_pos rfl
section
variable {κ : Ctx} {T T' : Pd} {G : Hp} {p : Addr} {o : HO}
theorem tupAt_er {K : PySem.W.Frag} {a : Addr} {xs : List V} (ho : G p = some o) (mu : Mut (some o)) (h : TupAt K G a xs) : TupAt K (er G p) a xs := by
  rcases h with h | h
  · refine .inl ?_
    rw [er_ne]
    · exact h
    · intro z
      rw [z, ho] at h
      cases h
      exact mu
  · exact .inr h
mutual
theorem Rep.er (ho : G p = some o) (mu : Mut (some o)) (ht : T' p) (hT : ∀ a, a ≠ p → (T' a ↔ T a)) : ∀ (d : D) {v : V}, d.nb = true → Rep κ T' G d v → Rep κ T (er G p) d v
  | .non, _, _, h => h
  | .bl _, _, _, h => h
  | .int _, _, _, h => h
  | .str _, _, _, h => h
  | .tup l, v, n, h => by
    obtain ⟨a, vs, h1, h2, h3⟩ := h
    exact ⟨a, vs, h1, tupAt_er ho mu h2, RepL.er ho mu ht hT l n h3⟩
  | .lst b l, v, n, h => by
    have n' : (!b && nbL l) = true := n
    rw [Bool.and_eq_true, Bool.not_eq_true'] at n'
    obtain ⟨rfl, n2⟩ := n'
    obtain ⟨a, vs, h1, ⟨h2, h4⟩, h3⟩ := h
    have na : a ≠ p := fun z => by
      rw [z] at h4
      exact Bool.noConfusion (h4.mp ht)
    exact ⟨a, vs, h1, ⟨(er_ne na).trans h2, (hT a na).symm.trans h4⟩, RepL.er ho mu ht hT l n2 h3⟩
  | .scr l, v, n, h => by
    obtain ⟨a, vs, h1, h2, h3⟩ := h
    refine ⟨a, vs, h1, ?_, RepL.er ho mu ht hT l n h3⟩
    rcases h2 with ⟨ob, h2⟩ | h2
    · have na : a ≠ p := fun z => by
        rw [z, ho] at h2
        cases h2
        exact mu
      exact .inl ⟨ob, (er_ne na).trans h2⟩
    · exact .inr h2
  | .dk b l, v, n, h => by
    have n' : (!b && nbK l) = true := n
    rw [Bool.and_eq_true, Bool.not_eq_true'] at n'
    obtain ⟨rfl, n2⟩ := n'
    obtain ⟨a, vs, h1, ⟨h2, h4⟩, h3⟩ := h
    have na : a ≠ p := fun z => by
      rw [z] at h4
      exact Bool.noConfusion (h4.mp ht)
    exact ⟨a, vs, h1, ⟨(er_ne na).trans h2, (hT a na).symm.trans h4⟩, RepK.er ho mu ht hT l n2 h3⟩
  | .ins b c l, v, n, h => by
    have n' : (!b && nbF l) = true := n
    rw [Bool.and_eq_true, Bool.not_eq_true'] at n'
    obtain ⟨rfl, n2⟩ := n'
    obtain ⟨a, dx, vs, h1, ⟨h2, h4⟩, h3⟩ := h
    have na : a ≠ p := fun z => by
      rw [z] at h4
      exact Bool.noConfusion (h4.mp ht)
    exact ⟨a, dx, vs, h1, ⟨(er_ne na).trans h2, (hT a na).symm.trans h4⟩, RepF.er ho mu ht hT l n2 h3⟩
  | .ty _, _, _, h => h
  | .adr _, _, _, h => h
theorem RepL.er (ho : G p = some o) (mu : Mut (some o)) (ht : T' p) (hT : ∀ a, a ≠ p → (T' a ↔ T a)) : ∀ (l : List D) {vs : List V}, nbL l = true → RepL κ T' G l vs → RepL κ T (er G p) l vs
  | [], _, _, h => h
  | d :: l, vs, n, h => by
    have n' : (D.nb d && nbL l) = true := n
    rw [Bool.and_eq_true] at n'
    obtain ⟨v, ws, h1, h2, h3⟩ := h
    exact ⟨v, ws, h1, Rep.er ho mu ht hT d n'.1 h2, RepL.er ho mu ht hT l n'.2 h3⟩
theorem RepK.er (ho : G p = some o) (mu : Mut (some o)) (ht : T' p) (hT : ∀ a, a ≠ p → (T' a ↔ T a)) : ∀ (l : List (Key × D)) {vs : List (Key × V)}, nbK l = true → RepK κ T' G l vs → RepK κ T (er G p) l vs
  | [], _, _, h => h
  | (k, d) :: l, vs, n, h => by
    have n' : (D.nb d && nbK l) = true := n
    rw [Bool.and_eq_true] at n'
    obtain ⟨v, ws, h1, h2, h3⟩ := h
    exact ⟨v, ws, h1, Rep.er ho mu ht hT d n'.1 h2, RepK.er ho mu ht hT l n'.2 h3⟩
theorem RepF.er (ho : G p = some o) (mu : Mut (some o)) (ht : T' p) (hT : ∀ a, a ≠ p → (T' a ↔ T a)) : ∀ (l : List (Str × D)) {vs : List (Str × V)}, nbF l = true → RepF κ T' G l vs → RepF κ T (er G p) l vs
  | [], _, _, h => h
  | (k, d) :: l, vs, n, h => by
    have n' : (D.nb d && nbF l) = true := n
    rw [Bool.and_eq_true] at n'
    obtain ⟨v, ws, h1, h2, h3⟩ := h
    exact ⟨v, ws, h1, Rep.er ho mu ht hT d n'.1 h2, RepF.er ho mu ht hT l n'.2 h3⟩
end
end

/-! ### steps of the state -/
section
variable {κ : Ctx} {B : Bas} {ρ : List SD} {σ : L2.St} {H G : Hp}
theorem Same.upd {G : Hp} {p : Addr} {o : HO} (h : G p = none) : Same G (upd G p o) := fun a u e => by
  rw [upd_ne (ne_of_none e h)]
  exact e
theorem Ok.gnone (k : Ok κ B ρ σ H G) {p : Addr} (h : H p = none) : G p = none := k.fr.gh.free h
theorem Ok.bnone (k : Ok κ B ρ σ H G) {p : Addr} (h : H p = none) : B.H p = none := by
  cases e : B.H p with
  | none => rfl
  | some o => exact absurd h (k.fr.there p (by rw [e]; simp))
theorem Ok.nolend (k : Ok κ B ρ σ H G) {p : Addr} (h : B.H p = none) : ¬ B.T p := fun z => k.fr.lent p z h
/-- the heap grows by an object that is not frozen -/
theorem Frame.grow (k : Frame κ B H G) {p : Addr} {o : HO} (h : H p = none) : Frame κ B (upd H p o) G where
  keep := fun a u e n => by
    have e2 := k.keep a u e n
    rw [upd_ne (ne_of_none e2 h)]
    exact e2
  nt := k.nt
  frz := k.frz
  sub := k.sub
  gh := fun a u e => by
    have e2 := k.gh a u e
    rw [upd_ne (ne_of_none e2 h)]
    exact e2
  notb := k.notb
  tabs := k.tabs.ext fun a u e => by
    rw [upd_ne (ne_of_none e h)]
    exact e
  lent := k.lent
theorem Frame.freeze (k : Frame κ B H G) {p : Addr} {o : HO} (h : H p = some o) (hb : B.H p = none) (hg : G p = none) (no : ∀ ps, o ≠ .tbl ps) : Frame κ B H (upd G p o) where
  keep := k.keep
  nt := k.nt
  frz := fun a e => by
    have na : a ≠ p := fun z => e (by rw [z]; exact hb)
    rw [upd_ne na]
    exact k.frz a e
  sub := k.sub.trans (Same.upd hg)
  gh := fun a u e => by
    by_cases na : a = p
    · rw [na, upd_same] at e
      rw [na, h]
      exact e
    · rw [upd_ne na] at e
      exact k.gh a u e
  notb := fun a ps e => by
    by_cases na : a = p
    · rw [na, upd_same] at e
      exact no ps (Option.some.inj e)
    · rw [upd_ne na] at e
      exact k.notb a ps e
  tabs := k.tabs
  lent := k.lent
theorem Ok.alloc (k : Ok κ B ρ σ H G) {p : Addr} {o : HO} (h : H p = none) (no : ∀ ps, o ≠ .tbl ps) : Ok κ B ρ σ (upd H p o) (upd G p o) := by
  have hg := k.gnone h
  refine ⟨(k.fr.grow h).freeze upd_same (k.bnone h) hg no, k.len, fun i d e => ?_, fun i d e => ?_, k.sep, k.anch⟩
  · obtain ⟨v, h1, h2⟩ := k.val i d e
    exact ⟨v, h1, Rep.mono (.of (Same.upd hg)) d h2⟩
  · obtain ⟨q, h1, h2, h3, h4⟩ := k.own i d e
    obtain ⟨u, h5, _⟩ := h4.obj
    have nq : q ≠ p := ne_of_none h5 h
    exact ⟨q, h1, by rw [upd_ne nq]; exact h2, h3, h4.mono (Same.upd hg) (upd_ne nq)⟩
theorem Ok.allocOwn (k : Ok κ B ρ σ H G) {p : Addr} {o : HO} (h : H p = none) : Ok κ B ρ σ (upd H p o) G := by
  refine ⟨k.fr.grow h, k.len, k.val, fun i d e => ?_, k.sep, k.anch⟩
  obtain ⟨q, h1, h2, h3, h4⟩ := k.own i d e
  obtain ⟨u, h5, _⟩ := h4.obj
  exact ⟨q, h1, h2, h3, h4.mono (Same.refl _) (upd_ne (ne_of_none h5 h))⟩
/-- a new object is no slot's -/
theorem Ok.apart (k : Ok κ B ρ σ H G) {p : Addr} (h : H p = none) (j : Nat) (e : D) (hj : ρ[j]? = some (SD.ow e)) : σ[j]? ≠ some (some (V.ref p)) := fun z => by
  obtain ⟨q, h1, _, _, h4⟩ := k.own j e hj
  rw [z] at h1
  cases h1
  obtain ⟨u, h5, _⟩ := h4.obj
  rw [h] at h5
  cases h5
theorem OwnAt.rep {κ : Ctx} {B : Bas} {G H : Hp} {p : Addr} {d : D} {o : HO} (h : OwnAt κ B.T G H p d) (hp : H p = some o) (hg : G p = none) (nt : ¬ B.T p) : Rep κ B.T (upd G p o) d.fz (.ref p) := by
  have l : Ld B.T p false := ⟨fun z => (nt z).elim, fun z => Bool.noConfusion z⟩
  cases d with
  | lst b l' =>
    obtain ⟨vs, h1, h2⟩ := h
    rw [hp] at h1
    cases h1
    exact ⟨p, vs, rfl, ⟨upd_same, l⟩, RepL.mono (.of (Same.upd hg)) l' h2⟩
  | dk b l' =>
    obtain ⟨vs, h1, h2⟩ := h
    rw [hp] at h1
    cases h1
    exact ⟨p, vs, rfl, ⟨upd_same, l⟩, RepK.mono (.of (Same.upd hg)) l' h2⟩
  | ins b c l' =>
    obtain ⟨dx, vs, h1, h2⟩ := h
    rw [hp] at h1
    cases h1
    exact ⟨p, dx, vs, rfl, ⟨upd_same, l⟩, RepF.mono (.of (Same.upd hg)) l' h2⟩
  | _ => exact h.elim
/-- a new object of the taker's is frozen -/
theorem Ok.frzR (k : Ok κ B ρ σ H G) {d : D} {v : V} (r : RepR κ B ρ σ H G (.ow d) v) : ∃ G', Same G G' ∧ Ok κ B ρ σ H G' ∧ Rep κ B.T G' d.fz v := by
  obtain ⟨p, rfl, hg, hb, ho, na⟩ := r
  obtain ⟨o, h1, h2, _⟩ := ho.obj
  refine ⟨upd G p o, Same.upd hg, ⟨k.fr.freeze h1 hb hg h2, k.len, fun i d e => ?_, fun i e q => ?_, k.sep, k.anch⟩, ho.rep h1 hg (k.nolend hb)⟩
  · obtain ⟨v, e1, e2⟩ := k.val i d e
    exact ⟨v, e1, Rep.mono (.of (Same.upd hg)) d e2⟩
  · obtain ⟨q', e1, e2, e3, e4⟩ := k.own i e q
    have nq : q' ≠ p := fun z => na i e q (by rw [e1, z])
    exact ⟨q', e1, by rw [upd_ne nq]; exact e2, e3, e4.mono (Same.upd hg) rfl⟩
/-- a slot is written -/
theorem Ok.set (k : Ok κ B ρ σ H G) {r : SD} {v : V} (i : Nat) (hr : RepR κ B ρ σ H G r v) (na : ∀ p, (i, p) ∉ B.an) : Ok κ B (ρ.set i r) (σ.set i (some v)) H G := by
  have lt : ∀ {j : Nat} {x : SD}, ρ[j]? = some x → j < σ.length := fun {j x} e => by
    exact k.len ▸ (List.getElem?_eq_some_iff.mp e).1
  have here : ∀ {j : Nat} {x : SD}, (ρ.set i r)[j]? = some x → (j = i ∧ x = r ∧ (σ.set i (some v))[j]? = some (some v)) ∨ (j ≠ i ∧ ρ[j]? = some x ∧ (σ.set i (some v))[j]? = σ[j]?) := fun {j x} e => by
    by_cases hj : j = i
    · subst hj
      have hl : j < ρ.length := by
        have z := (List.getElem?_eq_some_iff.mp e).1
        rw [List.length_set] at z
        exact z
      rw [List.getElem?_set_self hl] at e
      exact .inl ⟨rfl, (Option.some.inj e).symm, List.getElem?_set_self (by rw [k.len]; exact hl)⟩
    · rw [List.getElem?_set_ne (Ne.symm hj)] at e
      exact .inr ⟨hj, e, List.getElem?_set_ne (Ne.symm hj)⟩
  refine ⟨k.fr, by rw [List.length_set, List.length_set, k.len], fun j d e => ?_, fun j d e => ?_, fun j l p d e hjl h1 h2 h3 h4 => ?_, fun j p hp => ?_⟩
  · rcases here e with ⟨_, e1, e2⟩ | ⟨_, e1, e2⟩
    · rw [← e1] at hr
      exact ⟨v, e2, hr⟩
    · rw [e2]
      exact k.val j d e1
  · rcases here e with ⟨_, e1, e2⟩ | ⟨_, e1, e2⟩
    · rw [← e1] at hr
      obtain ⟨p, rfl, q1, q2, q3, _⟩ := hr
      exact ⟨p, e2, q1, q2, q3⟩
    · rw [e2]
      exact k.own j d e1
  · rcases here h1 with ⟨a1, a2, a3⟩ | ⟨a1, a2, a3⟩ <;> rcases here h2 with ⟨b1, b2, b3⟩ | ⟨b1, b2, b3⟩
    · exact hjl (a1.trans b1.symm)
    · rw [← a2] at hr
      obtain ⟨q, rfl, _, _, _, na⟩ := hr
      rw [a3] at h3
      cases h3
      rw [b3] at h4
      exact na l e b2 h4
    · rw [← b2] at hr
      obtain ⟨q, rfl, _, _, _, na⟩ := hr
      rw [b3] at h4
      cases h4
      rw [a3] at h3
      exact na j d a2 h3
    · rw [a3] at h3
      rw [b3] at h4
      exact k.sep j l p d e hjl a2 b2 h3 h4
  · have hj : j ≠ i := fun z => na p (by rw [← z]; exact hp)
    rw [List.getElem?_set_ne (Ne.symm hj)]
    exact k.anch j p hp
/-- an object of a slot's own is changed -/
theorem Ok.write (k : Ok κ B ρ σ H G) {i : Nat} {d d' : D} {p : Addr} {o : HO} (e : ρ[i]? = some (SD.ow d)) (hs : σ[i]? = some (some (V.ref p))) (no : ∀ ps, o ≠ .tbl ps) (h : OwnAt κ B.T G (upd H p o) p d') : Ok κ B (ρ.set i (.ow d')) σ (upd H p o) G := by
  obtain ⟨q, h1, h2, h3, h4⟩ := k.own i d e
  rw [hs] at h1
  cases h1
  obtain ⟨u, h5, h6, _⟩ := h4.obj
  have hl := (List.getElem?_eq_some_iff.mp e).1
  have nb : ∀ a, B.H a ≠ none → a ≠ p := fun a z y => z (by rw [y]; exact h3)
  have fr : Frame κ B (upd H p o) G := {
    keep := fun a w z n => by rw [upd_ne (nb a (by rw [z]; simp))]; exact k.fr.keep a w z n
    nt := k.fr.nt
    frz := k.fr.frz
    sub := k.fr.sub
    gh := fun a w z => by
      have na : a ≠ p := fun y => by
        rw [y, h2] at z
        cases z
      rw [upd_ne na]
      exact k.fr.gh a w z
    notb := k.fr.notb
    tabs := fun t ht => by
      obtain ⟨ps, t1, t2, t3⟩ := k.fr.tabs t ht
      have n1 : t.1 ≠ p := fun y => by
        rw [y, h5] at t1
        exact h6 ps (Option.some.inj t1)
      refine ⟨ps, by rw [upd_ne n1]; exact t1, t2, fun pos cv hc => ?_⟩
      obtain ⟨c, c1, c2⟩ := t3 pos cv hc
      refine ⟨c, c1, ?_⟩
      have n2 : c ≠ p := fun y => by
        rw [y] at c2
        cases d with
        | lst b l =>
          obtain ⟨vs, z, _⟩ := h4
          rw [z] at c2
          unfold LamX.CodeO at c2
          cases c2
        | dk b l =>
          obtain ⟨vs, z, _⟩ := h4
          rw [z] at c2
          unfold LamX.CodeO at c2
          cases c2
        | ins b c' l =>
          obtain ⟨dx, vs, z, _⟩ := h4
          rw [z] at c2
          unfold LamX.CodeO at c2
          cases c2
        | _ => exact h4.elim
      rw [upd_ne n2]
      exact c2
    lent := k.fr.lent }
  refine ⟨fr, by rw [List.length_set]; exact k.len, fun j c z => ?_, fun j c z => ?_, fun j l q c c' hjl z1 z2 z3 z4 => ?_, k.anch⟩
  · by_cases hj : j = i
    · subst hj
      rw [List.getElem?_set_self hl] at z
      cases z
    · rw [List.getElem?_set_ne (Ne.symm hj)] at z
      exact k.val j c z
  · by_cases hj : j = i
    · subst hj
      rw [List.getElem?_set_self hl] at z
      cases z
      exact ⟨p, hs, h2, h3, h⟩
    · rw [List.getElem?_set_ne (Ne.symm hj)] at z
      obtain ⟨q, q1, q2, q3, q4⟩ := k.own j c z
      have nq : q ≠ p := fun y => k.sep j i p c d hj z e (by rw [q1, y]) hs
      exact ⟨q, q1, q2, q3, q4.mono (Same.refl _) (upd_ne nq)⟩
  · have old : ∀ {m : Nat} {x : D}, (ρ.set i (.ow d'))[m]? = some (SD.ow x) → ∃ y, ρ[m]? = some (SD.ow y) := fun {m x} z => by
      by_cases hm : m = i
      · rw [hm]
        exact ⟨d, e⟩
      · rw [List.getElem?_set_ne (Ne.symm hm)] at z
        exact ⟨x, z⟩
    obtain ⟨y1, w1⟩ := old z1
    obtain ⟨y2, w2⟩ := old z2
    exact k.sep j l q y1 y2 hjl w1 w2 z3 z4
/-- a slot's own object is frozen -/
theorem Ok.frzS (k : Ok κ B ρ σ H G) {i : Nat} {d : D} (e : ρ[i]? = some (SD.ow d)) : ∃ p G', σ[i]? = some (some (V.ref p)) ∧ Same G G' ∧ Ok κ B (ρ.set i (.va d.fz)) σ H G' ∧ Rep κ B.T G' d.fz (.ref p) := by
  obtain ⟨p, h1, h2, h3, h4⟩ := k.own i d e
  obtain ⟨o, h5, h6, _⟩ := h4.obj
  have hl := (List.getElem?_eq_some_iff.mp e).1
  have rp := h4.rep h5 h2 (k.nolend h3)
  refine ⟨p, upd G p o, h1, Same.upd h2, ⟨k.fr.freeze h5 h3 h2 h6, by rw [List.length_set]; exact k.len, fun j c z => ?_, fun j c z => ?_, fun j l q c c' hjl z1 z2 z3 z4 => ?_, k.anch⟩, rp⟩
  · by_cases hj : j = i
    · subst hj
      rw [List.getElem?_set_self hl] at z
      cases z
      exact ⟨_, h1, rp⟩
    · rw [List.getElem?_set_ne (Ne.symm hj)] at z
      obtain ⟨v, e1, e2⟩ := k.val j c z
      exact ⟨v, e1, Rep.mono (.of (Same.upd h2)) c e2⟩
  · by_cases hj : j = i
    · subst hj
      rw [List.getElem?_set_self hl] at z
      cases z
    · rw [List.getElem?_set_ne (Ne.symm hj)] at z
      obtain ⟨q, q1, q2, q3, q4⟩ := k.own j c z
      have nq : q ≠ p := fun y => k.sep j i p c d hj z e (by rw [q1, y]) h1
      exact ⟨q, q1, by rw [upd_ne nq]; exact q2, q3, q4.mono (Same.upd h2) rfl⟩
  · have old : ∀ {m : Nat} {x : D}, (ρ.set i (.va d.fz))[m]? = some (SD.ow x) → ρ[m]? = some (SD.ow x) := fun {m x} z => by
      by_cases hm : m = i
      · subst hm
        rw [List.getElem?_set_self hl] at z
        cases z
      · rw [List.getElem?_set_ne (Ne.symm hm)] at z
        exact z
    exact k.sep j l q c c' hjl (old z1) (old z2) z3 z4
end
end Fm
set_option maxHeartbeats 3900000
namespace Fm
open L2 PySem PySem.Spec PyProof.Rows

/-! ### readings -/
def tE (κ : Ctx) (W : WX) (m : M SD) : TE := fun σ H Q => ∃ B ρ G, Ok κ B ρ σ H G ∧ Pst κ W B σ G (m ρ) fun r ρ' H' G' => ∀ v, RepR κ B ρ' σ H' G' r v → Q v H'
def tT (κ : Ctx) (W : WX) (m : M Bool) : TT := fun σ H Q => ∃ B ρ G, Ok κ B ρ σ H G ∧ Pst κ W B σ G (m ρ) fun b ρ' H' G' => Q b H'
/-- an argument: data, or a slot's own object by reference -/
inductive Ar where
  | va (d : D) | sl (i : Nat)
def RepA (κ : Ctx) (T : Pd) (σ : L2.St) (G : Hp) : Ar → V → Prop
  | .va d, v => Rep κ T G d v
  | .sl i, v => σ[i]? = some (some v)
def RepAs (κ : Ctx) (T : Pd) (σ : L2.St) (G : Hp) : List Ar → List V → Prop
  | [], vs => vs = []
  | a :: l, vs => ∃ v ws, vs = v :: ws ∧ RepA κ T σ G a v ∧ RepAs κ T σ G l ws
theorem RepAs.mono {κ : Ctx} {T : Pd} {σ : L2.St} {G G' : Hp} (e : Same G G') : ∀ {l : List Ar} {vs : List V}, RepAs κ T σ G l vs → RepAs κ T σ G' l vs
  | [], _, h => h
  | .va d :: l, vs, h => by
    obtain ⟨v, ws, h1, h2, h3⟩ := h
    exact ⟨v, ws, h1, Rep.mono (.of e) d h2, RepAs.mono e h3⟩
  | .sl i :: l, vs, h => by
    obtain ⟨v, ws, h1, h2, h3⟩ := h
    exact ⟨v, ws, h1, h2, RepAs.mono e h3⟩
def tAr (κ : Ctx) (W : WX) (m : M (List Ar)) : TA := fun σ H Q => ∃ B ρ G, Ok κ B ρ σ H G ∧ Pst κ W B σ G (m ρ) fun as ρ' H' G' => ∀ vs, RepAs κ B.T σ G' as vs → Q vs H'
/-- frozen data alone -/
def tA (κ : Ctx) (W : WX) (m : M (List D)) : TA := fun σ H Q => ∃ B ρ G, Ok κ B ρ σ H G ∧ Pst κ W B σ G (m ρ) fun ds ρ' H' G' => ∀ vs, RepL κ B.T G' ds vs → Q vs H'

theorem PE.imp {X : Cx} {e : Expr} {t t' : TE} (h : PE X e t) (f : ∀ σ H Q, t' σ H Q → t σ H Q) : PE X e t' := ⟨fun pins s σ H Q I q => h.run pins s σ H Q I (f σ H Q q)⟩
theorem PT.imp {X : Cx} {e : Expr} {t t' : TT} (h : PT X e t) (f : ∀ σ H Q, t' σ H Q → t σ H Q) : PT X e t' := ⟨fun pins s σ H Q I q => h.run pins s σ H Q I (f σ H Q q)⟩
theorem PW.imp {X : Cx} {e : Expr} {t t' : TT} (h : PW X e t) (f : ∀ σ H Q, t' σ H Q → t σ H Q) : PW X e t' := ⟨fun wh pins s σ H Q I q => h.run wh pins s σ H Q I (f σ H Q q)⟩
theorem PA.imp {X : Cx} {e : List Expr} {t t' : TA} (h : PA X e t) (f : ∀ σ H Q, t' σ H Q → t σ H Q) : PA X e t' := ⟨fun pos pins s σ H Q I q => h.run pos pins s σ H Q I (f σ H Q q)⟩
theorem PS.imp {X : Cx} {e : Stmt} {t t' : TS} (h : PS X e t) (f : ∀ D σ H, t' D σ H → t D σ H) : PS X e t' := ⟨fun pins s σ H D I q => h.run pins s σ H D I (f D σ H q)⟩
theorem PSs.imp {X : Cx} {e : List Stmt} {t t' : TS} (h : PSs X e t) (f : ∀ D σ H, t' D σ H → t D σ H) : PSs X e t' := ⟨fun pins s σ H D I q => h.run pins s σ H D I (f D σ H q)⟩

/-! ### frozen results -/
def fzM : SD → M D
  | .va d => M.ret d
  | .ow d => M.ret d.fz
  | .un => M.no
/-- a result as frozen data -/
def fE (m : M SD) : M D := m.bind fzM
section
variable {κ : Ctx} {W : WX} {B : Bas} {σ : L2.St} {H G : Hp} {ρ : List SD}
theorem Pst.ret {α : Type} {a : α} {k : α → List SD → Hp → Hp → Prop} (h : Pst κ W B σ G (M.ret a ρ) k) (o : Ok κ B ρ σ H G) : k a ρ H G := h H G o (Same.refl G)
/-- an expression whose value is taken as frozen data -/
theorem tE_fz {m : M SD} {Q : VK} {k : D → List SD → Hp → Hp → Prop} (o : Ok κ B ρ σ H G) (h : Pst κ W B σ G (fE m ρ) k)
    (f : ∀ d ρ' H' G', Ok κ B ρ' σ H' G' → Same G G' → k d ρ' H' G' → ∀ v, Rep κ B.T G' d v → Q v H') : tE κ W m σ H Q := by
  refine ⟨B, ρ, G, o, Pst.mono (Pst.bind h) fun r ρ' H' G' o' s h' v rv => ?_⟩
  cases r with
  | va d => exact f d ρ' H' G' o' s (Pst.ret h' o') v rv
  | ow d =>
    obtain ⟨G2, s2, o2, r2⟩ := o'.frzR rv
    exact f _ ρ' H' G2 o2 (s.trans s2) (h' H' G2 o2 s2) v r2
  | un => exact rv.elim
end

/-! ### constants, names -/
def mC (d : D) : M SD := M.ret (.va d)
section
variable {X : Cx} {κ : Ctx} {W : WX}
theorem e_c {e : Expr} {v : V} {d : D} (h : PE X e (tC v)) (r : ∀ T G, Rep κ T G d v) : PE X e (tE κ W (mC d)) := PE.imp h fun σ H Q ⟨B, ρ, G, o, q⟩ => Pst.ret q o v (r _ _)
theorem e_int {i : Int} {j : Nat} {pos : Pos} : PE X (.Constant (.int i) j pos) (tE κ W (mC (.int i))) := e_c pe_int fun _ _ => rfl
theorem e_bl {b : Bool} {j : Nat} {pos : Pos} : PE X (.Constant (.bool b) j pos) (tE κ W (mC (.bl b))) := e_c pe_bl fun _ _ => rfl
theorem e_non {j : Nat} {pos : Pos} : PE X (.Constant .none j pos) (tE κ W (mC .non)) := e_c pe_non fun _ _ => rfl
theorem e_str {x : Str} {j : Nat} {pos : Pos} : PE X (.Constant (.str x) j pos) (tE κ W (mC (.str x))) := e_c pe_str fun _ _ => rfl
/-- a name: what it owns is frozen -/
def mVar (i : Nat) : M SD := fun ρ => match ρ[i]? with
  | some (.va d) => .ok (.va d) ρ
  | some (.ow d) => .ok (.va d.fz) (ρ.set i (.va d.fz))
  | _ => .no
/-- a name, the last time: what it owns goes on to the taker -/
def mMov (i : Nat) : M SD := fun ρ => match ρ[i]? with
  | some (.va d) => .ok (.va d) ρ
  | some (.ow d) => .ok (.ow d) (ρ.set i .un)
  | _ => .no
theorem getOk {B : Bas} {ρ : List SD} {σ : L2.St} {H G : Hp} (o : Ok κ B ρ σ H G) {i : Nat} {d : D} (e : ρ[i]? = some (SD.va d)) : ∃ v, σ[i]? = some (some v) ∧ Rep κ B.T G d v := o.val i d e
theorem var_ok {i : Nat} {σ : L2.St} {H : Hp} {Q : VK} (h : tE κ W (mVar i) σ H Q) : tVar i σ H Q := by
  obtain ⟨B, ρ, G, o, q⟩ := h
  unfold mVar at q
  cases e : ρ[i]? with
  | none =>
    rw [e] at q
    exact q.elim
  | some x =>
    rw [e] at q
    cases x with
    | un => exact q.elim
    | va d =>
      obtain ⟨v, h1, h2⟩ := o.val i d e
      exact ⟨v, h1, q H G o (Same.refl G) v h2⟩
    | ow d =>
      obtain ⟨p, G', h1, s, o', r⟩ := o.frzS e
      exact ⟨_, h1, q H G' o' s _ r⟩
theorem Ok.drop {B : Bas} {ρ : List SD} {σ : L2.St} {H G : Hp} (o : Ok κ B ρ σ H G) (i : Nat) : Ok κ B (ρ.set i .un) σ H G := by
  have back : ∀ {j : Nat} {x : SD}, (ρ.set i .un)[j]? = some x → x ≠ .un → j ≠ i ∧ ρ[j]? = some x := fun {j x} z n => by
    by_cases hj : j = i
    · subst hj
      have hl : j < ρ.length := by
        have y := (List.getElem?_eq_some_iff.mp z).1
        rw [List.length_set] at y
        exact y
      rw [List.getElem?_set_self hl] at z
      exact absurd (Option.some.inj z).symm n
    · rw [List.getElem?_set_ne (Ne.symm hj)] at z
      exact ⟨hj, z⟩
  exact ⟨o.fr, by rw [List.length_set]; exact o.len, fun j d z => o.val j d (back z (by simp)).2, fun j d z => o.own j d (back z (by simp)).2, fun j l p d e hjl z1 z2 => o.sep j l p d e hjl (back z1 (by simp)).2 (back z2 (by simp)).2, o.anch⟩
theorem mov_ok {i : Nat} {σ : L2.St} {H : Hp} {Q : VK} (h : tE κ W (mMov i) σ H Q) : tVar i σ H Q := by
  obtain ⟨B, ρ, G, o, q⟩ := h
  unfold mMov at q
  cases e : ρ[i]? with
  | none =>
    rw [e] at q
    exact q.elim
  | some x =>
    rw [e] at q
    cases x with
    | un => exact q.elim
    | va d =>
      obtain ⟨v, h1, h2⟩ := o.val i d e
      exact ⟨v, h1, q H G o (Same.refl G) v h2⟩
    | ow d =>
      obtain ⟨p, h1, h2, h3, h4⟩ := o.own i d e
      refine ⟨_, h1, q H G (o.drop i) (Same.refl G) _ ⟨p, rfl, h2, h3, h4, fun j e' z1 z2 => ?_⟩⟩
      have hj : j ≠ i := fun y => by
        subst y
        rw [List.getElem?_set_self ((List.getElem?_eq_some_iff.mp e).1)] at z1
        cases z1
      rw [List.getElem?_set_ne (Ne.symm hj)] at z1
      exact o.sep j i p e' d hj z1 e z2 h1
theorem e_var {i : Nat} {x : Str} {pos : Pos} (h : PE X (.Name x pos) (tVar i)) : PE X (.Name x pos) (tE κ W (mVar i)) := PE.imp h fun _ _ _ => var_ok
theorem e_mov {i : Nat} {x : Str} {pos : Pos} (h : PE X (.Name x pos) (tVar i)) : PE X (.Name x pos) (tE κ W (mMov i)) := PE.imp h fun _ _ _ => mov_ok
end

/-! ### operators -/
/-- an operation of two values is g of their data -/
def OpD (κ : Ctx) (r : R2) (g : D → D → Option SD) : Prop := ∀ (B : Bas) (ρ : List SD) (σ : L2.St) (H G : Hp) (d e : D) (x y : V) (z : SD) (Q : VK), Ok κ B ρ σ H G → Rep κ B.T G d x → Rep κ B.T G e y → g d e = some z →
  (∀ v H' G', Ok κ B ρ σ H' G' → Same G G' → RepR κ B ρ σ H' G' z v → Q v H') → r x y H Q
def UnD (κ : Ctx) (r : V → Hp → VK → Prop) (g : D → Option SD) : Prop := ∀ (B : Bas) (ρ : List SD) (σ : L2.St) (H G : Hp) (d : D) (x : V) (z : SD) (Q : VK), Ok κ B ρ σ H G → Rep κ B.T G d x → g d = some z →
  (∀ v H' G', Ok κ B ρ σ H' G' → Same G G' → RepR κ B ρ σ H' G' z v → Q v H') → r x H Q
def CallD (κ : Ctx) (r : List V → Hp → VK → Prop) (g : List D → Option SD) : Prop := ∀ (B : Bas) (ρ : List SD) (σ : L2.St) (H G : Hp) (ds : List D) (xs : List V) (z : SD) (Q : VK), Ok κ B ρ σ H G → RepL κ B.T G ds xs → g ds = some z →
  (∀ v H' G', Ok κ B ρ σ H' G' → Same G G' → RepR κ B ρ σ H' G' z v → Q v H') → r xs H Q
def mOp (g : D → D → Option SD) (ma mb : M SD) : M SD := (fE ma).bind fun d => (fE mb).bind fun e => M.opt (g d e)
def mUn (g : D → Option SD) (ma : M SD) : M SD := (fE ma).bind fun d => M.opt (g d)
section
variable {κ : Ctx} {W : WX} {σ : L2.St} {H : Hp} {Q : VK}
theorem Pst.opt {α : Type} {B : Bas} {G : Hp} {ρ : List SD} {a : Option α} {k : α → List SD → Hp → Hp → Prop} (h : Pst κ W B σ G (M.opt a ρ) k) : ∃ z, a = some z ∧ ∀ H' G', Ok κ B ρ σ H' G' → Same G G' → k z ρ H' G' := by
  cases a with
  | none => exact h.elim
  | some z => exact ⟨z, rfl, h⟩
theorem op_ok {r : R2} {g : D → D → Option SD} {ma mb : M SD} (hr : OpD κ r g) (h : tE κ W (mOp g ma mb) σ H Q) : tOp r (tE κ W ma) (tE κ W mb) σ H Q := by
  obtain ⟨B, ρ, G, o, q⟩ := h
  refine tE_fz o (Pst.bind q) fun d ρ1 H1 G1 o1 s1 q1 v1 r1 => ?_
  refine tE_fz o1 (Pst.bind q1) fun e ρ2 H2 G2 o2 s2 q2 v2 r2 => ?_
  obtain ⟨z, hz, q3⟩ := Pst.opt q2
  exact hr B ρ2 σ H2 G2 d e v1 v2 z Q o2 (Rep.mono (.of s2) d r1) r2 hz fun v H' G' o' s' rv => q3 H' G' o' s' v rv
theorem un_ok {r : V → Hp → VK → Prop} {g : D → Option SD} {ma : M SD} (hr : UnD κ r g) (h : tE κ W (mUn g ma) σ H Q) : tUn r (tE κ W ma) σ H Q := by
  obtain ⟨B, ρ, G, o, q⟩ := h
  refine tE_fz o (Pst.bind q) fun d ρ1 H1 G1 o1 s1 q1 v1 r1 => ?_
  obtain ⟨z, hz, q3⟩ := Pst.opt q1
  exact hr B ρ1 σ H1 G1 d v1 z Q o1 r1 hz fun v H' G' o' s' rv => q3 H' G' o' s' v rv
end
section
variable {X : Cx} {κ : Ctx} {W : WX} {a b : Expr} {ma mb : M SD} {pos : Pos}
theorem e_op {op : Operator} {r : R2} {g : D → D → Option SD} (ho : OpR X (binaryOp op) r) (hr : OpD κ r g) (ha : PE X a (tE κ W ma)) (hb : PE X b (tE κ W mb)) : PE X (.BinOp a op b pos) (tE κ W (mOp g ma mb)) :=
  PE.imp (pe_op ho ha hb) fun _ _ _ => op_ok hr
theorem e_un {op : UnaryOp} {r : V → Hp → VK → Prop} {g : D → Option SD} (ho : UnR X (unaryOp op) r) (hr : UnD κ r g) (ha : PE X a (tE κ W ma)) : PE X (.UnaryOp op a pos) (tE κ W (mUn g ma)) :=
  PE.imp (pe_un ho ha) fun _ _ _ => un_ok hr
theorem e_cmp {op : CmpOp} {r : R2} {g : D → D → Option SD} (ho : OpR X (compareOp op) r) (hr : OpD κ r g) (ha : PE X a (tE κ W ma)) (hb : PE X b (tE κ W mb)) (hm : behindInMarks op b = false) : PE X (.Compare a [op] [b] pos) (tE κ W (mOp g ma mb)) :=
  PE.imp (pe_cmpR ho ha hb hm) fun _ _ _ => op_ok hr
end

/-! ### tests -/
/-- a value that must be True or False -/
def boolM : D → M Bool
  | .bl b => M.ret b
  | _ => M.no
def mTst (m : M SD) : M Bool := (fE m).bind boolM
section
variable {X : Cx} {κ : Ctx} {W : WX} {a b : Expr} {pos : Pos} {σ : L2.St} {H : Hp}
theorem tst_ok {m : M SD} {Q : Bool → Hp → Prop} (h : tT κ W (mTst m) σ H Q) : tTest (tE κ W m) σ H Q := by
  obtain ⟨B, ρ, G, o, q⟩ := h
  refine tE_fz o (Pst.bind q) fun d ρ1 H1 G1 o1 s1 q1 v1 r1 => ?_
  cases d with
  | bl b => exact ⟨b, r1, Pst.ret q1 o1⟩
  | _ => exact q1.elim
theorem t_val {m : M SD} (h : PE X a (tE κ W m)) (he : ∀ whole, isTrue a X.env whole = (do let v ← whole; standAt a.pos; holding [v] (truthy v)) := by intro _; rfl) : PT X a (tT κ W (mTst m)) :=
  PT.imp (pt_val h he) fun _ _ _ q => tst_ok q
theorem t_cmp {op : CmpOp} {r : R2} {g : D → D → Option SD} {ma mb : M SD} (ho : OpR X (compareOp op) r) (hr : OpD κ r g) (ha : PE X a (tE κ W ma)) (hb : PE X b (tE κ W mb)) (hm : behindInMarks op b = false) : PT X (.Compare a [op] [b] pos) (tT κ W (mTst (mOp g ma mb))) := by
  refine PT.imp (pt_cmpR ho ha hb hm) fun σ H Q q => op_ok hr ?_
  exact tst_ok q
def mNot (m : M Bool) : M Bool := m.bind fun b => M.ret (!b)
def mAnd (m n : M Bool) : M Bool := m.bind fun b => if b then n else M.ret false
def mOr (m n : M Bool) : M Bool := m.bind fun b => if b then M.ret true else n
theorem tT_of {m : M Bool} {B : Bas} {ρ : List SD} {G : Hp} {Q : Bool → Hp → Prop} (o : Ok κ B ρ σ H G) (h : Pst κ W B σ G (m ρ) fun b _ H' _ => Q b H') : tT κ W m σ H Q := ⟨B, ρ, G, o, h⟩
theorem t_not {m : M Bool} (h : PT X a (tT κ W m)) : PT X (.UnaryOp .Not a pos) (tT κ W (mNot m)) := by
  refine PT.imp (pt_not h) fun σ H Q ⟨B, ρ, G, o, q⟩ => ⟨B, ρ, G, o, Pst.mono (Pst.bind q) fun b ρ' H' G' o' s q' => ?_⟩
  exact Pst.ret q' o'
theorem w_one {m : M Bool} {op : BoolOp} (h : PT X a (tT κ W m)) : PW X (.BoolOp op [a] pos) (tT κ W m) := by
  cases op with
  | And => exact pw_and1 h
  | Or => exact pw_or1 h
theorem w_and {m n : M Bool} {rest : List Expr} (h : PT X a (tT κ W m)) (h2 : PW X (.BoolOp .And (b :: rest) pos) (tT κ W n)) : PW X (.BoolOp .And (a :: b :: rest) pos) (tT κ W (mAnd m n)) := by
  refine PW.imp (pw_and h h2) fun σ H Q ⟨B, ρ, G, o, q⟩ => ⟨B, ρ, G, o, Pst.mono (Pst.bind q) fun c ρ' H' G' o' s q' => ?_⟩
  cases c with
  | true => exact iteT ⟨B, ρ', G', o', q'⟩
  | false => exact iteF (Pst.ret q' o')
theorem w_or {m n : M Bool} {rest : List Expr} (h : PT X a (tT κ W m)) (h2 : PW X (.BoolOp .Or (b :: rest) pos) (tT κ W n)) : PW X (.BoolOp .Or (a :: b :: rest) pos) (tT κ W (mOr m n)) := by
  refine PW.imp (pw_or h h2) fun σ H Q ⟨B, ρ, G, o, q⟩ => ⟨B, ρ, G, o, Pst.mono (Pst.bind q) fun c ρ' H' G' o' s q' => ?_⟩
  cases c with
  | true => exact iteT (Pst.ret q' o')
  | false => exact iteF ⟨B, ρ', G', o', q'⟩
/-- and, or, not as values (all but the last True or False) -/
def mAndV (m n : M SD) : M SD := (mTst m).bind fun b => if b then n else M.ret (.va (.bl false))
def mOrV (m n : M SD) : M SD := (mTst m).bind fun b => if b then M.ret (.va (.bl true)) else n
def mNotV (m : M SD) : M SD := (mTst m).bind fun b => M.ret (.va (.bl (!b)))
theorem tstV {m : M SD} {B : Bas} {ρ : List SD} {G : Hp} {Q : VK} {k : Bool → List SD → Hp → Hp → Prop} (o : Ok κ B ρ σ H G) (h : Pst κ W B σ G (mTst m ρ) k)
    (f : ∀ b ρ' H' G', Ok κ B ρ' σ H' G' → k b ρ' H' G' → Q (.bl b) H') : tE κ W m σ H Q := by
  refine tE_fz o (Pst.bind h) fun d ρ1 H1 G1 o1 s1 q1 v1 r1 => ?_
  cases d with
  | bl b =>
    cases (show v1 = V.bl b from r1)
    exact f b ρ1 H1 G1 o1 (Pst.ret q1 o1)
  | _ => exact q1.elim
theorem e_and {m n : M SD} {rest : List Expr} (h : PE X a (tE κ W m)) (h2 : PE X (.BoolOp .And (b :: rest) pos) (tE κ W n)) : PE X (.BoolOp .And (a :: b :: rest) pos) (tE κ W (mAndV m n)) := by
  refine PE.imp (pe_and h h2) fun σ H Q ⟨B, ρ, G, o, q⟩ => ?_
  refine tstV o (Pst.bind q) fun c ρ' H' G' o' q' => ⟨c, rfl, ?_⟩
  cases c with
  | true => exact iteT ⟨B, ρ', G', o', q'⟩
  | false => exact iteF (Pst.ret q' o' _ rfl)
theorem e_or {m n : M SD} {rest : List Expr} (h : PE X a (tE κ W m)) (h2 : PE X (.BoolOp .Or (b :: rest) pos) (tE κ W n)) : PE X (.BoolOp .Or (a :: b :: rest) pos) (tE κ W (mOrV m n)) := by
  refine PE.imp (pe_or h h2) fun σ H Q ⟨B, ρ, G, o, q⟩ => ?_
  refine tstV o (Pst.bind q) fun c ρ' H' G' o' q' => ⟨c, rfl, ?_⟩
  cases c with
  | true => exact iteT (Pst.ret q' o' _ rfl)
  | false => exact iteF ⟨B, ρ', G', o', q'⟩
theorem e_not {m : M SD} (h : PE X a (tE κ W m)) : PE X (.UnaryOp .Not a pos) (tE κ W (mNotV m)) := by
  refine PE.imp (pe_not h) fun σ H Q ⟨B, ρ, G, o, q⟩ => ?_
  exact tstV o (Pst.bind q) fun c ρ' H' G' o' q' => ⟨c, rfl, Pst.ret q' o' _ rfl⟩
def mIfE (c : M Bool) (m n : M SD) : M SD := c.bind fun b => if b then m else n
theorem e_ife {c : Expr} {t : M Bool} {m n : M SD} (hc : PT X c (tT κ W t)) (ha : PE X a (tE κ W m)) (hb : PE X b (tE κ W n)) : PE X (.IfExp c a b pos) (tE κ W (mIfE t m n)) := by
  refine PE.imp (pe_ifExp hc ha hb) fun σ H Q ⟨B, ρ, G, o, q⟩ => ⟨B, ρ, G, o, Pst.mono (Pst.bind q) fun c ρ' H' G' o' s q' => ?_⟩
  cases c with
  | true => exact iteT ⟨B, ρ', G', o', q'⟩
  | false => exact iteF ⟨B, ρ', G', o', q'⟩
end

/-! ### argument lists, displays -/
def mNil : M (List D) := M.ret []
def mCons (m : M SD) (n : M (List D)) : M (List D) := (fE m).bind fun d => n.bind fun ds => M.ret (d :: ds)
def aNil : M (List Ar) := M.ret []
def aVa (m : M SD) (n : M (List Ar)) : M (List Ar) := (fE m).bind fun d => n.bind fun ds => M.ret (.va d :: ds)
def isSet : Option SD → Bool
  | some (.va _) => true
  | some (.ow _) => true
  | _ => false
def aSl (i : Nat) (n : M (List Ar)) : M (List Ar) := fun ρ => if isSet ρ[i]? then (n.bind fun ds => M.ret (.sl i :: ds)) ρ else .no
section
variable {X : Cx} {κ : Ctx} {W : WX} {e : Expr} {es : List Expr} {pos : Pos}
theorem a_nil : PA X [] (tA κ W mNil) := PA.imp pa_nil fun σ H Q ⟨B, ρ, G, o, q⟩ => Pst.ret q o [] rfl
theorem a_cons {m : M SD} {n : M (List D)} (h : PE X e (tE κ W m)) (h2 : PA X es (tA κ W n)) (hs : starEach (e :: es) X.env = (false, eval e X.env) :: starEach es X.env := by rfl) : PA X (e :: es) (tA κ W (mCons m n)) := by
  refine PA.imp (pa_cons h h2 hs) fun σ H Q ⟨B, ρ, G, o, q⟩ => ?_
  refine tE_fz o (Pst.bind q) fun d ρ1 H1 G1 o1 s1 q1 v1 r1 => ?_
  refine ⟨B, ρ1, G1, o1, Pst.mono (Pst.bind q1) fun ds ρ2 H2 G2 o2 s2 q2 vs rs => ?_⟩
  exact Pst.ret q2 o2 _ ⟨v1, vs, rfl, Rep.mono (.of s2) d r1, rs⟩
theorem ar_nil : PA X [] (tAr κ W aNil) := PA.imp pa_nil fun σ H Q ⟨B, ρ, G, o, q⟩ => Pst.ret q o [] rfl
theorem ar_va {m : M SD} {n : M (List Ar)} (h : PE X e (tE κ W m)) (h2 : PA X es (tAr κ W n)) (hs : starEach (e :: es) X.env = (false, eval e X.env) :: starEach es X.env := by rfl) : PA X (e :: es) (tAr κ W (aVa m n)) := by
  refine PA.imp (pa_cons h h2 hs) fun σ H Q ⟨B, ρ, G, o, q⟩ => ?_
  refine tE_fz o (Pst.bind q) fun d ρ1 H1 G1 o1 s1 q1 v1 r1 => ?_
  refine ⟨B, ρ1, G1, o1, Pst.mono (Pst.bind q1) fun ds ρ2 H2 G2 o2 s2 q2 vs rs => ?_⟩
  exact Pst.ret q2 o2 _ ⟨v1, vs, rfl, Rep.mono (.of s2) d r1, rs⟩
theorem Ok.there {B : Bas} {ρ : List SD} {σ : L2.St} {H G : Hp} (o : Ok κ B ρ σ H G) {i : Nat} {x : SD} (e : ρ[i]? = some x) (n : x ≠ .un) : ∃ v, σ[i]? = some (some v) := by
  cases x with
  | un => exact (n rfl).elim
  | va d =>
    obtain ⟨v, h, _⟩ := o.val i d e
    exact ⟨v, h⟩
  | ow d =>
    obtain ⟨p, h, _⟩ := o.own i d e
    exact ⟨_, h⟩
theorem ar_sl {i : Nat} {x : Str} {p : Pos} {n : M (List Ar)} (h : PE X (.Name x p) (tVar i)) (h2 : PA X es (tAr κ W n)) (hs : starEach (.Name x p :: es) X.env = (false, eval (.Name x p) X.env) :: starEach es X.env := by rfl) : PA X (.Name x p :: es) (tAr κ W (aSl i n)) := by
  refine PA.imp (pa_cons h h2 hs) fun σ H Q ⟨B, ρ, G, o, q⟩ => ?_
  unfold aSl at q
  cases hi : isSet ρ[i]? with
  | false =>
    rw [hi, if_neg Bool.false_ne_true] at q
    exact q.elim
  | true =>
    rw [hi, if_pos rfl] at q
    obtain ⟨v, hv⟩ : ∃ v, σ[i]? = some (some v) := by
      cases e : ρ[i]? with
      | none =>
        rw [e] at hi
        cases hi
      | some x =>
        refine o.there e fun z => ?_
        rw [e, z] at hi
        cases hi
    refine ⟨v, hv, B, ρ, G, o, Pst.mono (Pst.bind q) fun ds ρ2 H2 G2 o2 s2 q2 vs rs => ?_⟩
    exact Pst.ret q2 o2 _ ⟨v, vs, rfl, hv, rs⟩
end
end Fm
set_option maxHeartbeats 3900000
namespace Fm
open L2 PySem PySem.Spec PyProof.Rows

/-! ### statements -/
inductive Fl where
  | nx | rt (r : SD) | bk | ct
abbrev S := M Fl
def PstS (κ : Ctx) (W : WX) (B : Bas) (G : Hp) (r : Rs Fl) (D : Ends) : Prop := match r with
  | .ok .nx ρ' => ∀ σ' H' G', Ok κ B ρ' σ' H' G' → Same G G' → D.nx σ' H'
  | .ok (.rt r) ρ' => ∀ v σ' H' G', Ok κ B ρ' σ' H' G' → Same G G' → RepR κ B ρ' σ' H' G' r v → D.rt v H'
  | .ok .bk ρ' => ∀ σ' H' G', Ok κ B ρ' σ' H' G' → Same G G' → D.bk σ' H'
  | .ok .ct ρ' => ∀ σ' H' G', Ok κ B ρ' σ' H' G' → Same G G' → D.ct σ' H'
  | .ex x ρ' => ∀ cls d σ' H' G', Ok κ B ρ' σ' H' G' → Same G G' → RepX κ B.T H' G' x cls d → W cls d σ' H'
  | .no => False
/-- the slots whose object stood at the def's entry -/
def InA (B : Bas) (A : List Nat) : Prop := ∀ q ∈ B.an, q.1 ∈ A
/-- A: the slots whose object stands at the def's entry already (they are not stored to) -/
def tS (κ : Ctx) (A : List Nat) (W : WX) (s : S) : TS := fun D σ H => ∃ B ρ G, InA B A ∧ Ok κ B ρ σ H G ∧ PstS κ W B G (s ρ) D
def sSeq (s t : S) : S := fun ρ => match s ρ with
  | .ok .nx ρ' => t ρ'
  | r => r
def sNx : S := M.ret .nx
def sRet (m : M SD) : S := m.bind fun r => M.ret (.rt r)
def sRetN : S := M.ret (.rt (.va .non))
def sSet (i : Nat) (m : M SD) : S := m.bind fun r => fun ρ => .ok .nx (ρ.set i r)
def sDrop (m : M SD) : S := m.bind fun _ => M.ret .nx
def sIf (c : M Bool) (s t : S) : S := c.bind fun b => if b then s else t
theorem PstS.mono {κ : Ctx} {W : WX} {B : Bas} {G G1 : Hp} {r : Rs Fl} {D D' : Ends} (h : PstS κ W B G r D) (s : Same G G1) (hn : ∀ σ H, D.nx σ H → D'.nx σ H) (hr : D.rt = D'.rt) (hb : D.bk = D'.bk) (hc : D.ct = D'.ct) : PstS κ W B G1 r D' := by
  cases r with
  | ok f ρ' =>
    cases f with
    | nx => exact fun σ' H' G' o e => hn _ _ (h σ' H' G' o (s.trans e))
    | rt r => exact fun v σ' H' G' o e q => hr ▸ h v σ' H' G' o (s.trans e) q
    | bk => exact fun σ' H' G' o e => hb ▸ h σ' H' G' o (s.trans e)
    | ct => exact fun σ' H' G' o e => hc ▸ h σ' H' G' o (s.trans e)
  | ex x ρ' => exact fun cls d σ' H' G' o e q => h cls d σ' H' G' o (s.trans e) q
  | no => exact h
/-- an expression's part of a statement -/
theorem PstS.bind {α : Type} {κ : Ctx} {W : WX} {B : Bas} {σ : L2.St} {G : Hp} {m : M α} {f : α → S} {ρ : List SD} {D : Ends} (h : PstS κ W B G (m.bind f ρ) D) :
    Pst κ W B σ G (m ρ) fun a ρ' H' G' => PstS κ W B G' (f a ρ') D := by
  unfold M.bind at h
  cases e : m ρ with
  | ok a ρ' =>
    rw [e] at h
    exact fun H' G' o s => PstS.mono h s (fun _ _ q => q) rfl rfl rfl
  | ex x ρ' =>
    rw [e] at h
    exact fun cls d H' G' o s r => h cls d σ H' G' o s r
  | no =>
    rw [e] at h
    exact h
section
variable {X : Cx} {κ : Ctx} {A : List Nat} {W : WX} {pos : Pos}
theorem s_nil : PSs X [] (tS κ A W sNx) := PSs.imp pss_nil fun D σ H ⟨B, ρ, G, _, o, q⟩ => q σ H G o (Same.refl G)
theorem s_cons {st : Stmt} {rest : List Stmt} {s t : S} (h : PS X st (tS κ A W s)) (h2 : PSs X rest (tS κ A W t)) : PSs X (st :: rest) (tS κ A W (sSeq s t)) := by
  refine PSs.imp (pss_cons h h2) fun D σ H ⟨B, ρ, G, a, o, q⟩ => ⟨B, ρ, G, a, o, ?_⟩
  have q' : PstS κ W B G (match s ρ with | .ok .nx ρ' => t ρ' | r => r) D := q
  cases e : s ρ with
  | ok f ρ' =>
    rw [e] at q'
    cases f with
    | nx => exact fun σ' H' G' o' s' => ⟨B, ρ', G', a, o', PstS.mono q' s' (fun _ _ z => z) rfl rfl rfl⟩
    | rt r => exact q'
    | bk => exact q'
    | ct => exact q'
  | ex x ρ' =>
    rw [e] at q'
    exact q'
  | no =>
    rw [e] at q'
    exact q'
theorem s_one {st : Stmt} {s : S} (h : PS X st (tS κ A W s)) : PSs X [st] (tS κ A W s) := pss_one h
theorem s_ret {e : Expr} {m : M SD} (h : PE X e (tE κ W m)) : PS X (.Return (some e) pos) (tS κ A W (sRet m)) :=
  PS.imp (ps_ret h) fun D σ H ⟨B, ρ, G, a, o, q⟩ => ⟨B, ρ, G, o, Pst.mono (PstS.bind q) fun r ρ' H' G' o' s q' v rv => q' v σ H' G' o' (Same.refl G') rv⟩
theorem s_retN : PS X (.Return none pos) (tS κ A W sRetN) := PS.imp ps_retN fun D σ H ⟨B, ρ, G, a, o, q⟩ => q .non σ H G o (Same.refl G) rfl
theorem s_pass : PS X (.Pass pos) (tS κ A W sNx) := PS.imp ps_pass fun D σ H ⟨B, ρ, G, _, o, q⟩ => q σ H G o (Same.refl G)
theorem s_brk : PS X (.Break pos) (tS κ A W (M.ret .bk)) := PS.imp ps_break fun D σ H ⟨B, ρ, G, _, o, q⟩ => q σ H G o (Same.refl G)
theorem s_cnt : PS X (.Continue pos) (tS κ A W (M.ret .ct)) := PS.imp ps_continue fun D σ H ⟨B, ρ, G, _, o, q⟩ => q σ H G o (Same.refl G)
theorem s_doc {x : Str} {j : Nat} {pos' : Pos} : PS X (.Expr (.Constant (.str x) j pos) pos') (tS κ A W sNx) := PS.imp ps_doc fun D σ H ⟨B, ρ, G, _, o, q⟩ => q σ H G o (Same.refl G)
theorem s_expr {e : Expr} {m : M SD} (h : PE X e (tE κ W m)) (hs : swapsWith e none pos.line X.env = pure false := by rfl) : PS X (.Expr e pos) (tS κ A W (sDrop m)) :=
  PS.imp (ps_expr h hs) fun D σ H ⟨B, ρ, G, a, o, q⟩ => ⟨B, ρ, G, o, Pst.mono (PstS.bind q) fun r ρ' H' G' o' s q' v rv => q' σ H' G' o' (Same.refl G')⟩
theorem s_if {c : Expr} {b1 b2 : List Stmt} {t : M Bool} {s1 s2 : S} (hc : PT X c (tT κ W t)) (h1 : PSs X b1 (tS κ A W s1)) (h2 : PSs X b2 (tS κ A W s2)) : PS X (.If c b1 b2 pos) (tS κ A W (sIf t s1 s2)) := by
  refine PS.imp (ps_if hc h1 h2) fun D σ H ⟨B, ρ, G, a, o, q⟩ => ⟨B, ρ, G, o, Pst.mono (PstS.bind q) fun b ρ' H' G' o' s q' => ?_⟩
  cases b with
  | true => exact iteT ⟨B, ρ', G', a, o', q'⟩
  | false => exact iteF ⟨B, ρ', G', a, o', q'⟩
theorem not_anch {B : Bas} {A : List Nat} {i : Nat} (h : InA B A) (n : (A.contains i) = false) : ∀ p, (i, p) ∉ B.an := fun p hp => by
  have z2 : A.contains i = true := List.contains_iff_mem.mpr (h _ hp)
  rw [n] at z2
  cases z2
/-- a target: where a value goes (data alone) -/
def tG (κ : Ctx) (A : List Nat) (vs : List Nat) (tg : D → List SD → Option (List SD)) : TG := fun v σ H Q => ∃ B ρ G d ρ', InA B A ∧ Ok κ B ρ σ H G ∧ Rep κ B.T G d v ∧ tg d ρ = some ρ' ∧
  ∀ σ' H' G', Ok κ B ρ' σ' H' G' → Same G G' → wipe σ' vs = wipe σ vs → Q σ' H'
/-- name = e, what is new goes along -/
theorem s_set {i : Nat} {x : Str} {e : Expr} {m : M SD} {p' : Pos} (hN : X.N.Nodup) (hi : X.N[i]? = some x) (hx : Loc X.env.scope x) (h : PE X e (tE κ W m)) (n : A.contains i = false := by rfl) (hs : swapsWith e (some (.Name x p')) pos.line X.env = pure false := by rfl)
    (hf : X.fn x = true ∨ X.env.scope.names.lookup x = some .local := by first | exact .inl rfl | exact .inr rfl | assumption) : PS X (.Assign [.Name x p'] e pos) (tS κ A W (sSet i m)) := by
  refine PS.imp (ps_set hN hi hx h hs hf) fun D σ H ⟨B, ρ, G, a, o, q⟩ => ⟨B, ρ, G, o, Pst.mono (PstS.bind q) fun r ρ' H' G' o' s q' v rv => ?_⟩
  exact q' _ H' G' (o'.set i rv (not_anch a n)) (Same.refl G')
end

/-! ### targets -/
def gN (i : Nat) : D → List SD → Option (List SD) := fun d ρ => some (ρ.set i (.va d))
def gNi : List D → List SD → Option (List SD)
  | [], ρ => some ρ
  | _ :: _, _ => none
def gCo (g : D → List SD → Option (List SD)) (r : List D → List SD → Option (List SD)) : List D → List SD → Option (List SD)
  | d :: l, ρ => (g d ρ).bind fun ρ' => r l ρ'
  | [], _ => none
/-- a tuple of n -/
def gTu (n : Nat) (r : List D → List SD → Option (List SD)) : D → List SD → Option (List SD)
  | .tup l, ρ => if l.length = n then r l ρ else none
  | _, _ => none
def tGs (κ : Ctx) (A : List Nat) (vs : List Nat) (tg : List D → List SD → Option (List SD)) : TGs := fun ws σ H Q => ∃ B ρ G ds ρ', InA B A ∧ Ok κ B ρ σ H G ∧ RepL κ B.T G ds ws ∧ tg ds ρ = some ρ' ∧
  ∀ σ' H' G', Ok κ B ρ' σ' H' G' → Same G G' → wipe σ' vs = wipe σ vs → Q σ' H'
theorem PG.imp {X : Cx} {e : Expr} {t t' : TG} (h : PG X e t) (f : ∀ v σ H Q, t' v σ H Q → t v σ H Q) : PG X e t' := ⟨fun pins s σ H v u Q I r q => h.run pins s σ H v u Q I r (f _ _ _ _ q)⟩
theorem PGs.imp {X : Cx} {e : List Expr} {t t' : TGs} (h : PGs X e t) (f : ∀ v σ H Q, t' v σ H Q → t v σ H Q) : PGs X e t' := ⟨fun pins s σ H v u Q I r q => h.run pins s σ H v u Q I r (f _ _ _ _ q)⟩
theorem wipe_set {σ : L2.St} {i : Nat} {w : Option V} : ∀ {vs : List Nat}, i ∈ vs → wipe (σ.set i w) vs = wipe σ vs
  | v :: vs, h => by
    unfold wipe
    by_cases hv : i ∈ vs
    · rw [wipe_set hv]
    · have e : v = i := by
        have in_or := List.mem_cons.mp h; rcases in_or with z | z
        · exact z.symm
        · exact (hv z).elim
      subst e
      have go : ∀ us : List Nat, v ∉ us → (wipe (σ.set v w) us).set v none = (wipe σ us).set v none := by
        intro us
        induction us with
        | nil => intro _; exact List.set_set ..
        | cons u us ih =>
          intro hu
          have n1 : v ≠ u := fun z => hu (by rw [z]; exact List.mem_cons_self ..)
          have n2 : v ∉ us := fun z => hu (List.mem_cons_of_mem _ z)
          show ((wipe (σ.set v w) us).set u none).set v none = ((wipe σ us).set u none).set v none
          rw [List.set_comm _ _ (Ne.symm n1), ih n2, List.set_comm _ _ n1]
      exact go vs hv
section
variable {X : Cx} {κ : Ctx} {A vs : List Nat}
theorem g_name {i : Nat} {x : Str} {pos : Pos} (h : PG X (.Name x pos) (gName i)) (n : A.contains i = false := by rfl) (hv : vs.contains i = true := by rfl) : PG X (.Name x pos) (tG κ A vs (gN i)) := by
  refine PG.imp h fun v σ H Q ⟨B, ρ, G, d, ρ', a, o, r, e, q⟩ => ?_
  cases e
  exact q _ H G (o.set i (show RepR κ B ρ σ H G (.va d) v from r) (not_anch a n)) (Same.refl G) (wipe_set (List.contains_iff_mem.mp hv))
theorem gs_nil : PGs X [] (tGs κ A vs gNi) := by
  refine PGs.imp pgs_nil fun ws σ H Q ⟨B, ρ, G, ds, ρ', a, o, r, e, q⟩ => ?_
  cases ds with
  | nil =>
    cases e
    exact ⟨r, q σ H G o (Same.refl G) rfl⟩
  | cons d l => cases e
theorem gs_cons {e : Expr} {es : List Expr} {g : D → List SD → Option (List SD)} {gr : List D → List SD → Option (List SD)} (h : PG X e (tG κ A vs g)) (h2 : PGs X es (tGs κ A vs gr))
    (hs : (assignEach (e :: es) X.env).map (·.2) = assign e X.env :: (assignEach es X.env).map (·.2) := by rfl) : PGs X (e :: es) (tGs κ A vs (gCo g gr)) := by
  refine PGs.imp (pgs_cons h h2 hs) fun ws σ H Q ⟨B, ρ, G, ds, ρ', a, o, r, e, q⟩ => ?_
  cases ds with
  | nil => cases e
  | cons d l =>
    obtain ⟨v, us, rfl, r1, r2⟩ := r
    obtain ⟨ρ1, e1, e2⟩ := Option.bind_eq_some_iff.mp e
    refine ⟨v, us, rfl, B, ρ, G, d, ρ1, a, o, r1, e1, fun σ1 H1 G1 o1 s1 w1 => ?_⟩
    exact ⟨B, ρ1, G1, l, ρ', a, o1, RepL.mono (.of s1) l r2, e2, fun σ2 H2 G2 o2 s2 w2 => q σ2 H2 G2 o2 (s1.trans s2) (w2.trans w1)⟩
theorem g_tup {es : List Expr} {k n : Nat} {pos : Pos} {gr : List D → List SD → Option (List SD)} (hK : X.K = κ.K) (hc : X.calm = true) (h : PGs X es (tGs κ A vs gr)) (hn : (assignEach es X.env).length = n := by rfl) (hst : (assignEach es X.env).findIdx? (·.1) = none := by rfl) :
    PG X (.Tuple es k pos) (tG κ A vs (gTu n gr)) := by
  refine PG.imp (pg_tup hc h hn hst) fun v σ H Q ⟨B, ρ, G, d, ρ', a, o, r, e, q⟩ => ?_
  cases d with
  | tup l =>
    unfold gTu at e
    dsimp only at e
    by_cases hl : l.length = n
    · rw [if_pos hl] at e
      obtain ⟨p, ws, rfl, r1, r2⟩ := r
      refine ⟨p, ws, rfl, by rw [hK]; exact r1.sq o.fr.gh, by rw [r2.length]; exact hl, B, ρ, G, l, ρ', a, o, r2, e, q⟩
    · rw [if_neg hl] at e
      cases e
  | _ => cases e
/-- target = e, e's value frozen -/
def sAsg (tg : D → List SD → Option (List SD)) (m : M SD) : S := (fE m).bind fun d => fun ρ => match tg d ρ with
  | some ρ' => .ok .nx ρ'
  | none => .no
theorem s_asg {W : WX} {tg e : Expr} {m : M SD} {g : D → List SD → Option (List SD)} {pos : Pos} (h : PE X e (tE κ W m)) (hg : PG X tg (tG κ A vs g)) (hs : swapsWithSole [tg] e pos.line X.env = pure false := by rfl) (hw : swappedStores [tg] e X.env = pure none := by rfl)
    (h1 : (assignEach [tg] X.env).map (·.2) = [assign tg X.env] := by rfl) : PS X (.Assign [tg] e pos) (tS κ A W (sAsg g m)) := by
  refine PS.imp (ps_asg h hg hs hw h1) fun D σ H ⟨B, ρ, G, a, o, q⟩ => ?_
  refine tE_fz o (PstS.bind q) fun d ρ1 H1 G1 o1 s1 q1 v1 r1 => ?_
  cases e2 : g d ρ1 with
  | none =>
    rw [e2] at q1
    exact q1.elim
  | some ρ2 =>
    rw [e2] at q1
    exact ⟨B, ρ1, G1, d, ρ2, a, o1, r1, e2, fun σ2 H2 G2 o2 s2 _ => q1 σ2 H2 G2 o2 s2⟩
/-- a, b = e1, e2, plain local names -/
def sPar (i j : Nat) (m n : M SD) : S := (fE m).bind fun d => (fE n).bind fun e => fun ρ => .ok .nx ((ρ.set i (.va d)).set j (.va e))
theorem s_par {W : WX} {i j : Nat} {x y : Str} {a b : Expr} {m n : M SD} {px py pt pos : Pos} {kt k2 pt2} (hc : X.calm = true) (hN : X.N.Nodup) (hi : X.N[i]? = some x) (hj : X.N[j]? = some y) (hij : i ≠ j)
    (hx : X.env.scope.names.lookup x = some .local) (hy : X.env.scope.names.lookup y = some .local) (ha : PE X a (tE κ W m)) (hb : PE X b (tE κ W n))
    (hw : swappedStores [.Tuple [.Name x px, .Name y py] kt pt] (.Tuple [a, b] k2 pt2) X.env = pure (some [x, y])) (n1 : A.contains i = false := by rfl) (n2 : A.contains j = false := by rfl)
    (hs : swapsWithSole [.Tuple [.Name x px, .Name y py] kt pt] (.Tuple [a, b] k2 pt2) pos.line X.env = pure false := by rfl)
    (s1 : starEach [a, b] X.env = (false, eval a X.env) :: starEach [b] X.env := by rfl) (s2 : starEach [b] X.env = (false, eval b X.env) :: starEach [] X.env := by rfl) :
    PS X (.Assign [.Tuple [.Name x px, .Name y py] kt pt] (.Tuple [a, b] k2 pt2) pos) (tS κ A W (sPar i j m n)) := by
  refine PS.imp (ps_par hc hN hi hj hij hx hy (pa_cons ha (pa_cons hb pa_nil s2) s1) hw hs) fun D σ H ⟨B, ρ, G, an, o, q⟩ => ?_
  refine tE_fz o (PstS.bind q) fun d ρ1 H1 G1 o1 s1 q1 v1 r1 => ?_
  refine tE_fz o1 (PstS.bind q1) fun e ρ2 H2 G2 o2 s2 q2 v2 r2 => ⟨v1, v2, rfl, ?_⟩
  refine q2 _ H2 G2 ((o2.set i (show RepR κ B ρ2 σ H2 G2 (.va d) v1 from Rep.mono (.of s2) d r1) (not_anch an n1)).set j (show RepR κ B _ _ H2 G2 (.va e) v2 from r2) (not_anch an n2)) (Same.refl G2)
end

/-! ### displays -/
def mTup (n : M (List D)) : M SD := n.bind fun ds => if ds.length ≤ 1000 then M.ret (.va (.tup ds)) else M.no
def mLst (n : M (List D)) : M SD := n.bind fun ds => if ds.length ≤ 1000 then M.ret (.ow (.lst false ds)) else M.no
theorem le_line {n : Nat} (h : n ≤ 1000) : n ≤ sizeLine := Nat.le_of_lt (small1000 h)
section
variable {X : Cx} {κ : Ctx} {W : WX} {es : List Expr} {n : M (List D)} {pos : Pos}
theorem e_tup {k : Nat} (h : PA X es (tA κ W n)) : PE X (.Tuple es k pos) (tE κ W (mTup n)) := by
  refine PE.imp (pe_tup h) fun σ H Q ⟨B, ρ, G, o, q⟩ => ⟨B, ρ, G, o, Pst.mono (Pst.bind q) fun ds ρ' H' G' o' s q' vs rs => ?_⟩
  by_cases hl : ds.length ≤ 1000
  · rw [if_pos hl] at q'
    refine ⟨by rw [rs.length]; exact le_line hl, fun p hp => ?_⟩
    have hg := o'.gnone hp
    exact q' _ _ (o'.alloc (o := .tup vs) hp fun _ z => by cases z) (Same.upd hg) _ ⟨p, vs, rfl, .inl upd_same, RepL.mono (.of (Same.upd hg)) ds rs⟩
  · rw [if_neg hl] at q'
    exact q'.elim
theorem Ok.newOwn {B : Bas} {ρ : List SD} {σ : L2.St} {H G : Hp} (o : Ok κ B ρ σ H G) {p : Addr} {u : HO} {d : D} (hp : H p = none) (h : OwnAt κ B.T G (upd H p u) p d) : RepR κ B ρ σ (upd H p u) G (.ow d) (.ref p) :=
  ⟨p, rfl, o.gnone hp, o.bnone hp, h, fun j e hj => o.apart hp j e hj⟩
theorem e_lst (h : PA X es (tA κ W n)) : PE X (.List es pos) (tE κ W (mLst n)) := by
  refine PE.imp (pe_lst h) fun σ H Q ⟨B, ρ, G, o, q⟩ => ⟨B, ρ, G, o, Pst.mono (Pst.bind q) fun ds ρ' H' G' o' s q' vs rs => ?_⟩
  by_cases hl : ds.length ≤ 1000
  · rw [if_pos hl] at q'
    refine ⟨by rw [rs.length]; exact le_line hl, fun p hp => ?_⟩
    exact q' _ _ (o'.allocOwn hp) (Same.refl _) _ (o'.newOwn hp ⟨vs, upd_same, rs⟩)
  · rw [if_neg hl] at q'
    exact q'.elim
end

/-! ### calls of built-ins -/
def mCB (g : List D → Option SD) (n : M (List D)) : M SD := n.bind fun ds => M.opt (g ds)
section
variable {X : Cx} {κ : Ctx} {W : WX} {e : Expr} {es : List Expr} {n : M (List D)} {pos p : Pos} {x : Str}
theorem cb_ok {r : List V → Hp → VK → Prop} {g : List D → Option SD} {σ : L2.St} {H : Hp} {Q : VK} (hr : CallD κ r g) (h : tE κ W (mCB g n) σ H Q) : tCB r (tA κ W n) σ H Q := by
  obtain ⟨B, ρ, G, o, q⟩ := h
  refine ⟨B, ρ, G, o, Pst.mono (Pst.bind q) fun ds ρ' H' G' o' s q' vs rs => ?_⟩
  obtain ⟨z, hz, q3⟩ := Pst.opt q'
  exact hr B ρ' σ H' G' ds vs z Q o' rs hz fun v H2 G2 o2 s2 rv => q3 H2 G2 o2 s2 v rv
theorem e_callB {id : String} {r : List V → Hp → VK → Prop} {g : List D → Option SD} (hc : CallR X (.builtin id) r) (hr : CallD κ r g) (hg : Gl X x) (hm : X.mg x = none) (hv : bootBuiltins x = some (.builtin id)) (ha : PA X (e :: es) (tA κ W n)) (hn : x ≠ "__name__" := by decide) (hdb : (x == ("__debug__" : Str)) = false := by decide)
    (he : starEach (e :: es) X.env = (false, eval e X.env) :: starEach es X.env := by rfl) (hpl : (backTo pos (starEach es X.env)).any (·.1) = false := by rfl) : PE X (.Call (.Name x p) (e :: es) [] pos) (tE κ W (mCB g n)) :=
  PE.imp (pe_callB hc hg hm hv ha hn hdb he hpl) fun _ _ _ => cb_ok hr
theorem e_callTy {T : String} {r : List V → Hp → VK → Prop} {g : List D → Option SD} (hc : CallR X (.type T) r) (hr : CallD κ r g) (hg : Gl X x) (hm : X.mg x = none) (hv : bootBuiltins x = some (.type T)) (ha : PA X (e :: es) (tA κ W n)) (hn : x ≠ "__name__" := by decide) (hdb : (x == ("__debug__" : Str)) = false := by decide)
    (he : starEach (e :: es) X.env = (false, eval e X.env) :: starEach es X.env := by rfl) (hpl : (backTo pos (starEach es X.env)).any (·.1) = false := by rfl) : PE X (.Call (.Name x p) (e :: es) [] pos) (tE κ W (mCB g n)) :=
  PE.imp (pe_callTy hc hg hm hv ha hn hdb he hpl) fun _ _ _ => cb_ok hr
/-- a built-in class's name as a value -/
theorem e_ty {T : String} (hg : Gl X x) (hm : X.mg x = none) (hv : bootBuiltins x = some (.type T)) (hn : x ≠ "__name__" := by decide) (hdb : (x == ("__debug__" : Str)) = false := by decide) : PE X (.Name x pos) (tE κ W (mC (.ty T))) :=
  e_c (pe_bltn (v := .ty T) hg hm hv rfl hn hdb) fun _ _ => rfl
/-- a global name as a value -/
theorem e_glob {v : V} {u : Value} {d : D} (hg : Gl X x) (hm : X.mg x = some u) (r : RelV v u) (rd : ∀ T G, Rep κ T G d v) (hd : (x == ("__debug__" : Str)) = false := by decide) : PE X (.Name x pos) (tE κ W (mC d)) :=
  e_c (pe_glob hg hm r hd) rd
end
end Fm
set_option maxHeartbeats 3900000
namespace Fm
open L2 PySem PySem.Spec PyProof.Rows

/-! ### what a def does -/
inductive FR where
  | ok (r : SD) (outs : List SD) | ex (x : Exn) (outs : List SD) | no
/-- the places of the arguments that are objects of the caller's own -/
def ownP : List SD → List V → List Addr
  | .ow _ :: l, .ref p :: ws => p :: ownP l ws
  | _ :: l, _ :: ws => ownP l ws
  | _, _ => []
def ArgsOk (κ : Ctx) (T : Pd) (G H : Hp) : List SD → List V → Prop
  | [], vs => vs = []
  | .va d :: l, vs => ∃ v ws, vs = v :: ws ∧ Rep κ T G d v ∧ ArgsOk κ T G H l ws
  | .ow d :: l, vs => ∃ p ws, vs = .ref p :: ws ∧ G p = none ∧ OwnAt κ T G H p d ∧ ArgsOk κ T G H l ws
  | .un :: _, _ => False
structure Pre (κ : Ctx) (T : Pd) (G H : Hp) (as : List SD) (vs : List V) : Prop where
  args : ArgsOk κ T G H as vs
  nd : (ownP as vs).Nodup
  gh : Same G H
  notb : ∀ a ps, G a ≠ some (.tbl ps)
  tabs : LamX.Tabs κ.tabs H
  lent : ∀ a, T a → noT H a ≠ none ∧ a ∉ ownP as vs
def OutAt (κ : Ctx) (T : Pd) (G H : Hp) (p : Addr) : Option SD → Prop
  | some (.ow d) => G p = none ∧ OwnAt κ T G H p d
  | some (.va d) => Rep κ T G d (.ref p)
  | _ => True
structure After (κ : Ctx) (T : Pd) (G H : Hp) (as : List SD) (vs : List V) (outs : List SD) (H' G' : Hp) : Prop where
  keep : ∀ a o, H a = some o → a ∉ ownP as vs → (∀ ps, o ≠ .tbl ps) → H' a = some o
  frz : ∀ a, noT H a ≠ none → a ∉ ownP as vs → G' a = G a
  sub : Same G G'
  gh : Same G' H'
  notb : ∀ a ps, G' a ≠ some (.tbl ps)
  tabs : LamX.Tabs κ.tabs H'
  outs : ∀ (i : Nat) d p, as[i]? = some (SD.ow d) → vs[i]? = some (V.ref p) → OutAt κ T G' H' p outs[i]?
def ResOk (κ : Ctx) (T : Pd) (H : Hp) (as : List SD) (vs : List V) (outs : List SD) (H' G' : Hp) : SD → V → Prop
  | .va d, v => Rep κ T G' d v
  | .ow d, v => ∃ q, v = .ref q ∧ G' q = none ∧ OwnAt κ T G' H' q d ∧ (noT H q = none ∨ q ∈ ownP as vs) ∧
      ∀ (i : Nat) c p c', as[i]? = some (SD.ow c) → vs[i]? = some (V.ref p) → outs[i]? = some (SD.ow c') → p ≠ q
  | .un, _ => False
/-- a def that does f -/
def spF (κ : Ctx) (n : Nat) (f : List SD → FR) : Sp := fun vs H Q E => ∃ T G as, as.length = n ∧ Pre κ T G H as vs ∧ match f as with
  | .ok r outs => ∀ v H' G', After κ T G H as vs outs H' G' → ResOk κ T H as vs outs H' G' r v → Q v H'
  | .ex x outs => ∀ cls d H' G', After κ T G H as vs outs H' G' → RepX κ T H' G' x cls d → E cls d H'
  | .no => False
theorem ArgsOk.length {κ : Ctx} {T : Pd} {G H : Hp} : ∀ {as : List SD} {vs : List V}, ArgsOk κ T G H as vs → vs.length = as.length
  | [], vs, h => by rw [show vs = [] from h] <;> rfl
  | .va d :: l, vs, h => by
    obtain ⟨v, ws, rfl, _, h2⟩ := h
    rw [List.length_cons, List.length_cons, h2.length]
  | .ow d :: l, vs, h => by
    obtain ⟨p, ws, rfl, _, _, h2⟩ := h
    rw [List.length_cons, List.length_cons, h2.length]
  | .un :: l, vs, h => h.elim
theorem ArgsOk.val {κ : Ctx} {T : Pd} {G H : Hp} : ∀ {as : List SD} {vs : List V} {i : Nat} {d : D}, ArgsOk κ T G H as vs → as[i]? = some (SD.va d) → ∃ v, vs[i]? = some v ∧ Rep κ T G d v
  | [], vs, i, d, h, e => by simp at e
  | .va c :: l, vs, 0, d, h, e => by
    obtain ⟨v, ws, rfl, h1, h2⟩ := h
    cases e
    exact ⟨v, rfl, h1⟩
  | .va c :: l, vs, i + 1, d, h, e => by
    obtain ⟨v, ws, rfl, h1, h2⟩ := h
    exact ArgsOk.val (i := i) h2 e
  | .ow c :: l, vs, 0, d, h, e => by cases e
  | .ow c :: l, vs, i + 1, d, h, e => by
    obtain ⟨p, ws, rfl, _, _, h2⟩ := h
    exact ArgsOk.val (i := i) h2 e
  | .un :: l, vs, i, d, h, e => h.elim
theorem ArgsOk.own {κ : Ctx} {T : Pd} {G H : Hp} : ∀ {as : List SD} {vs : List V} {i : Nat} {d : D}, ArgsOk κ T G H as vs → as[i]? = some (SD.ow d) → ∃ p, vs[i]? = some (V.ref p) ∧ G p = none ∧ OwnAt κ T G H p d ∧ p ∈ ownP as vs
  | [], vs, i, d, h, e => by simp at e
  | .va c :: l, vs, 0, d, h, e => by cases e
  | .va c :: l, vs, i + 1, d, h, e => by
    obtain ⟨v, ws, rfl, h1, h2⟩ := h
    obtain ⟨p, e1, e2, e3, e4⟩ := ArgsOk.own (i := i) h2 e
    exact ⟨p, e1, e2, e3, by simpa only [ownP] using e4⟩
  | .ow c :: l, vs, 0, d, h, e => by
    obtain ⟨p, ws, rfl, h1, h3, h2⟩ := h
    cases e
    exact ⟨p, rfl, h1, h3, List.mem_cons_self ..⟩
  | .ow c :: l, vs, i + 1, d, h, e => by
    obtain ⟨p, ws, rfl, h1, h3, h2⟩ := h
    obtain ⟨q, e1, e2, e3, e4⟩ := ArgsOk.own (i := i) h2 e
    exact ⟨q, e1, e2, e3, List.mem_cons_of_mem _ e4⟩
  | .un :: l, vs, i, d, h, e => h.elim
theorem ownP_mem : ∀ {as : List SD} {vs : List V} {p : Addr}, p ∈ ownP as vs → ∃ (i : Nat) (d : D), as[i]? = some (SD.ow d) ∧ vs[i]? = some (V.ref p)
  | [], _, _, h => by cases h
  | _ :: _, [], _, h => by
    simp [ownP] at h
  | .ow d :: l, .ref q :: ws, p, h => by
    have in_or := List.mem_cons.mp h; rcases in_or with rfl | h
    · exact ⟨0, d, rfl, rfl⟩
    · obtain ⟨i, d, e1, e2⟩ := ownP_mem h
      exact ⟨i + 1, d, e1, e2⟩
  | .va d :: l, v :: ws, p, h => by
    obtain ⟨i, d, e1, e2⟩ := ownP_mem (as := l) (vs := ws) (by simpa only [ownP] using h)
    exact ⟨i + 1, d, e1, e2⟩
  | .un :: l, v :: ws, p, h => by
    obtain ⟨i, d, e1, e2⟩ := ownP_mem (as := l) (vs := ws) (by simpa only [ownP] using h)
    exact ⟨i + 1, d, e1, e2⟩
  | .ow d :: l, .non :: ws, p, h => by
    obtain ⟨i, d, e1, e2⟩ := ownP_mem (as := l) (vs := ws) (by simpa only [ownP] using h)
    exact ⟨i + 1, d, e1, e2⟩
  | .ow d :: l, .bl _ :: ws, p, h => by
    obtain ⟨i, d, e1, e2⟩ := ownP_mem (as := l) (vs := ws) (by simpa only [ownP] using h)
    exact ⟨i + 1, d, e1, e2⟩
  | .ow d :: l, .int _ :: ws, p, h => by
    obtain ⟨i, d, e1, e2⟩ := ownP_mem (as := l) (vs := ws) (by simpa only [ownP] using h)
    exact ⟨i + 1, d, e1, e2⟩
  | .ow d :: l, .str _ :: ws, p, h => by
    obtain ⟨i, d, e1, e2⟩ := ownP_mem (as := l) (vs := ws) (by simpa only [ownP] using h)
    exact ⟨i + 1, d, e1, e2⟩
  | .ow d :: l, .byt _ :: ws, p, h => by
    obtain ⟨i, d, e1, e2⟩ := ownP_mem (as := l) (vs := ws) (by simpa only [ownP] using h)
    exact ⟨i + 1, d, e1, e2⟩
  | .ow d :: l, .flt _ :: ws, p, h => by
    obtain ⟨i, d, e1, e2⟩ := ownP_mem (as := l) (vs := ws) (by simpa only [ownP] using h)
    exact ⟨i + 1, d, e1, e2⟩
  | .ow d :: l, .ty _ :: ws, p, h => by
    obtain ⟨i, d, e1, e2⟩ := ownP_mem (as := l) (vs := ws) (by simpa only [ownP] using h)
    exact ⟨i + 1, d, e1, e2⟩
theorem own_inj : ∀ {as : List SD} {vs : List V} {i j : Nat} {d e : D} {p : Addr}, (ownP as vs).Nodup → as[i]? = some (SD.ow d) → as[j]? = some (SD.ow e) → vs[i]? = some (V.ref p) → vs[j]? = some (V.ref p) → i = j := by
  have mem : ∀ {as : List SD} {vs : List V} {i : Nat} {d : D} {p : Addr}, as[i]? = some (SD.ow d) → vs[i]? = some (V.ref p) → p ∈ ownP as vs := by
    intro as
    induction as with
    | nil => intro vs i d p h; simp at h
    | cons a l ih =>
      intro vs i d p h1 h2
      cases vs with
      | nil => simp at h2
      | cons v ws =>
        cases i with
        | zero =>
          cases h1
          cases h2
          exact List.mem_cons_self ..
        | succ i =>
          have q := ih (vs := ws) (i := i) h1 h2
          cases a with
          | ow c => cases v <;> first | exact q | exact List.mem_cons_of_mem _ q
          | va c => exact (by simpa only [ownP] using q)
          | un => exact (by simpa only [ownP] using q)
  intro as
  induction as with
  | nil => intro vs i j d e p _ h; simp at h
  | cons a l ih =>
    intro vs i j d e p nd h1 h2 h3 h4
    cases vs with
    | nil => simp at h3
    | cons v ws =>
      have nd' : (ownP l ws).Nodup := by
        cases a with
        | ow c => cases v <;> first | exact nd | exact (List.nodup_cons.mp nd).2
        | va c => simpa only [ownP] using nd
        | un => simpa only [ownP] using nd
      cases i with
      | zero =>
        cases j with
        | zero => rfl
        | succ j =>
          cases h1
          cases h3
          exact absurd (mem (as := l) (vs := ws) (i := j) h2 h4) (List.nodup_cons.mp nd).1
      | succ i =>
        cases j with
        | zero =>
          cases h2
          cases h4
          exact absurd (mem (as := l) (vs := ws) (i := i) h1 h3) (List.nodup_cons.mp nd).1
        | succ j => rw [ih (vs := ws) (i := i) (j := j) nd' h1 h2 h3 h4]

/-! ### a def by its body -/
/-- the places of the own arguments, from n on -/
def ownIx : Nat → List SD → List Nat
  | _, [] => []
  | n, .ow _ :: l => n :: ownIx (n + 1) l
  | n, _ :: l => ownIx (n + 1) l
/-- the def's body s run: N slots, the own arguments at places of A -/
def runF (A : List Nat) (N : Nat) (s : S) (as : List SD) : FR :=
  if (ownIx 0 as).all (A.contains ·) then match s (as ++ List.replicate (N - as.length) SD.un) with
    | .ok (.rt r) ρ' => .ok r (ρ'.take as.length)
    | .ok .nx ρ' => .ok (.va .non) (ρ'.take as.length)
    | .ex x ρ' => .ex x (ρ'.take as.length)
    | _ => .no
  else .no
theorem ownIx_mem : ∀ {as : List SD} {n i : Nat} {d : D}, as[i]? = some (SD.ow d) → n + i ∈ ownIx n as
  | [], _, _, _, h => absurd h (by simp)
  | .ow c :: l, n, 0, d, h => by rw [Nat.add_zero]; exact List.mem_cons_self ..
  | .ow c :: l, n, i + 1, d, h => by
    have q := ownIx_mem (as := l) (n := n + 1) (i := i) h
    rw [show n + (i + 1) = n + 1 + i from by omega]
    exact List.mem_cons_of_mem _ q
  | .va c :: l, n, 0, d, h => by cases h
  | .va c :: l, n, i + 1, d, h => by
    have q := ownIx_mem (as := l) (n := n + 1) (i := i) h
    rw [show n + (i + 1) = n + 1 + i from by omega]
    exact q
  | .un :: l, n, 0, d, h => by cases h
  | .un :: l, n, i + 1, d, h => by
    have q := ownIx_mem (as := l) (n := n + 1) (i := i) h
    rw [show n + (i + 1) = n + 1 + i from by omega]
    exact q
/-- the places and addresses of the own arguments -/
def anOf : Nat → List SD → List V → List (Nat × Addr)
  | n, .ow _ :: l, .ref p :: ws => (n, p) :: anOf (n + 1) l ws
  | n, _ :: l, _ :: ws => anOf (n + 1) l ws
  | _, _, _ => []
theorem anOf_mem : ∀ {as : List SD} {vs : List V} {n i : Nat} {p : Addr}, (i, p) ∈ anOf n as vs → ∃ j d, i = n + j ∧ as[j]? = some (SD.ow d) ∧ vs[j]? = some (V.ref p) := by
  intro as
  induction as with
  | nil => intro vs n i p h; cases h
  | cons a l ih =>
    intro vs n i p h
    cases vs with
    | nil =>
      cases a <;> cases h
    | cons v ws =>
      have next : (i, p) ∈ anOf (n + 1) l ws → ∃ j d, i = n + j ∧ (a :: l)[j]? = some (SD.ow d) ∧ (v :: ws)[j]? = some (V.ref p) := fun q => by
        obtain ⟨j, d, e1, e2, e3⟩ := ih q
        exact ⟨j + 1, d, by omega, e2, e3⟩
      cases a with
      | ow c =>
        cases v with
        | ref q =>
          have in_or := List.mem_cons.mp h; rcases in_or with e | h
          · cases e
            exact ⟨0, c, rfl, rfl, rfl⟩
          · exact next h
        | _ => exact next h
      | va c => exact next (by simpa only [anOf] using h)
      | un => exact next (by simpa only [anOf] using h)
theorem mem_anOf : ∀ {as : List SD} {vs : List V} {n j : Nat} {p : Addr} {d : D}, as[j]? = some (SD.ow d) → vs[j]? = some (V.ref p) → (n + j, p) ∈ anOf n as vs := by
  intro as
  induction as with
  | nil => intro vs n j p d h; simp at h
  | cons a l ih =>
    intro vs n j p d h1 h2
    cases vs with
    | nil => simp at h2
    | cons v ws =>
      cases j with
      | zero =>
        cases h1
        cases h2
        exact List.mem_cons_self ..
      | succ j =>
        have q := ih (vs := ws) (n := n + 1) (j := j) h1 h2
        rw [show n + 1 + j = n + (j + 1) from by omega] at q
        cases a with
        | ow c => cases v <;> first | exact q | exact List.mem_cons_of_mem _ q
        | va c => exact (by simpa only [anOf] using q)
        | un => exact (by simpa only [anOf] using q)

/-- where a def's body begins -/
theorem Pre.ok {κ : Ctx} {T : Pd} {G H : Hp} {as : List SD} {vs : List V} {N : List Str} (p : Pre κ T G H as vs) (hn : as.length ≤ N.length) :
    Ok κ ⟨fun a => if a ∈ ownP as vs then none else noT H a, G, T, anOf 0 as vs⟩ (as ++ List.replicate (N.length - as.length) SD.un) (L2.start N vs) H G := by
  have hl := p.args.length
  have at_ : ∀ {i : Nat} {x : SD}, (as ++ List.replicate (N.length - as.length) SD.un)[i]? = some x → x ≠ .un → as[i]? = some x ∧ i < as.length := fun {i x} e n => by
    by_cases hi : i < as.length
    · rw [List.getElem?_append_left hi] at e
      exact ⟨e, hi⟩
    · rw [List.getElem?_append_right (by omega), List.getElem?_replicate] at e
      split at e
      · exact absurd (Option.some.inj e).symm n
      · cases e
  have sl : ∀ {i : Nat} {v : V}, vs[i]? = some v → (L2.start N vs)[i]? = some (some v) := fun {i v} e => by
    have hi := (List.getElem?_eq_some_iff.mp e).1
    unfold L2.start
    rw [List.getElem?_append_left (by rw [List.length_map]; exact hi), List.getElem?_map, e]
    rfl
  have ls : ∀ {i : Nat} {v : V}, i < as.length → (L2.start N vs)[i]? = some (some v) → vs[i]? = some v := fun {i v} hi e => by
    have h2 : i < vs.length := by omega
    unfold L2.start at e
    rw [List.getElem?_append_left (by rw [List.length_map]; exact h2), List.getElem?_map, List.getElem?_eq_getElem h2] at e
    rw [List.getElem?_eq_getElem h2]
    have e' := Option.some.inj e
    rw [← Option.some.inj e']
  refine ⟨⟨fun a o e _ => ?_, fun a ps e => ?_, fun a _ => rfl, Same.refl G, p.gh, p.notb, p.tabs, fun a h => ?_⟩, ?_, fun i d e => ?_, fun i d e => ?_, fun i j q d e hij h1 h2 h3 h4 => ?_, fun i q hq => ?_⟩
  · have e' : (if a ∈ ownP as vs then none else noT H a) = some o := e
    by_cases ha : a ∈ ownP as vs
    · rw [if_pos ha] at e'
      cases e'
    · rw [if_neg ha] at e'
      exact (noT_some e').1
  · have e' : (if a ∈ ownP as vs then none else noT H a) = some (.tbl ps) := e
    by_cases ha : a ∈ ownP as vs
    · rw [if_pos ha] at e'
      cases e'
    · rw [if_neg ha] at e'
      exact noT_tbl e'
  · obtain ⟨h1, h2⟩ := p.lent a h
    show (if a ∈ ownP as vs then none else noT H a) ≠ none
    rw [if_neg h2]
    exact h1
  · unfold L2.start
    rw [List.length_append, List.length_append, List.length_map, List.length_replicate, List.length_replicate, hl]
  · obtain ⟨e1, _⟩ := at_ e (by simp)
    obtain ⟨v, e2, e3⟩ := p.args.val e1
    exact ⟨v, sl e2, e3⟩
  · obtain ⟨e1, _⟩ := at_ e (by simp)
    obtain ⟨q, e2, e3, e4, e5⟩ := p.args.own e1
    exact ⟨q, sl e2, e3, if_pos e5, e4⟩
  · obtain ⟨e1, l1⟩ := at_ h1 (by simp)
    obtain ⟨e2, l2⟩ := at_ h2 (by simp)
    exact hij (own_inj p.nd e1 e2 (ls l1 h3) (ls l2 h4))
  · obtain ⟨j, d, e1, e2, e3⟩ := anOf_mem hq
    rw [e1, Nat.zero_add]
    exact sl e3

theorem Pre.after {κ : Ctx} {T : Pd} {G H : Hp} {as : List SD} {vs : List V} {N : List Str} (p : Pre κ T G H as vs) {ρ' : List SD} {σ' : L2.St} {H' G' : Hp}
    (o : Ok κ ⟨fun a => if a ∈ ownP as vs then none else noT H a, G, T, anOf 0 as vs⟩ ρ' σ' H' G') : After κ T G H as vs (ρ'.take as.length) H' G' := by
  have hb : ∀ {a : Addr}, a ∉ ownP as vs → (if a ∈ ownP as vs then none else noT H a) = noT H a := fun {a} h => if_neg h
  refine ⟨fun a u e n nt => o.fr.keep a u ((hb n).trans (noT_of e nt)) nt, fun a e n => o.fr.frz a (by show (if a ∈ ownP as vs then none else noT H a) ≠ none; rw [hb n]; exact e), o.fr.sub, o.fr.gh, o.fr.notb, o.fr.tabs, fun i d q e1 e2 => ?_⟩
  have hi : i < as.length := (List.getElem?_eq_some_iff.mp e1).1
  have an : σ'[i]? = some (some (V.ref q)) := by
    have z := o.anch (0 + i) q (mem_anOf (n := 0) e1 e2)
    rw [Nat.zero_add] at z
    exact z
  rw [List.getElem?_take_of_lt hi]
  cases e3 : ρ'[i]? with
  | none => exact True.intro
  | some x =>
    cases x with
    | un => exact True.intro
    | va c =>
      obtain ⟨v, h1, h2⟩ := o.val i c e3
      rw [an] at h1
      cases h1
      exact h2
    | ow c =>
      obtain ⟨r, h1, h2, h3, h4⟩ := o.own i c e3
      rw [an] at h1
      cases h1
      exact ⟨h2, h4⟩
theorem Pre.res {κ : Ctx} {T : Pd} {G H : Hp} {as : List SD} {vs : List V} (p : Pre κ T G H as vs) {ρ' : List SD} {σ' : L2.St} {H' G' : Hp} {r : SD} {v : V}
    (o : Ok κ ⟨fun a => if a ∈ ownP as vs then none else noT H a, G, T, anOf 0 as vs⟩ ρ' σ' H' G') (h : RepR κ ⟨fun a => if a ∈ ownP as vs then none else noT H a, G, T, anOf 0 as vs⟩ ρ' σ' H' G' r v) : ResOk κ T H as vs (ρ'.take as.length) H' G' r v := by
  cases r with
  | un => exact h.elim
  | va d => exact h
  | ow d =>
    obtain ⟨q, rfl, h1, h2, h3, h4⟩ := h
    refine ⟨q, rfl, h1, h3, ?_, fun i c x c' e1 e2 e3 z => ?_⟩
    · by_cases hq : q ∈ ownP as vs
      · exact .inr hq
      · exact .inl ((if_neg hq).symm.trans h2)
    · have hi : i < as.length := (List.getElem?_eq_some_iff.mp e1).1
      rw [List.getElem?_take_of_lt hi] at e3
      refine h4 i c' e3 ?_
      have y := o.anch (0 + i) x (mem_anOf (n := 0) e1 e2)
      rw [Nat.zero_add] at y
      rw [y, z]
section
variable {P : Program} {w : World} {K : PySem.W.Frag} {f : Addr} {fd : FuncData} {mg : Str → Option Value} {base : Heap} {x qual : Str} {params : Arguments} {body : List Stmt} {scope : Scope} {dvs : List V} {kws : List (Str × V)}
/-- a def's promise by its body, its code told -/
theorem FunD.okC {CX : CXT} {N ps : List Str} {k : Nat} {sp : Sp} (F : FunD K x qual params body scope dvs kws f fd) (S : FnScope N ps scope) (len : ∀ vs H Q E, sp vs H Q E → vs.length = ps.length)
    (hbody : ∀ (cdv : Value) (A : Around) (outer : List Env) (s : Shared) (H : Hp) (vs : List V) (Q : VK) (E : XK), fd.code = cdv → Room k (A.deeper (envOfC qual scope s.heap.objs.size f cdv)) → sp vs H Q E →
      ∃ t, PSs (cxOf CX P w K mg base N qual scope f cdv A outer s H E) body t ∧ t { nx := fun _ H' => Q .non H', rt := Q } (L2.start N vs) H) : FnOk P w K mg base CX (k + 1) f fd ps sp := by
  obtain ⟨_, _, _, _, _, _, _, cdv, _, _, rfl, lk, cd, _⟩ := F.ex
  exact fn_of lk cd S len fun A outer s H vs Q E hr q => hbody cdv A outer s H vs Q E rfl hr q
/-- THE RULE of a def: its body does s -/
theorem def_okC {κ : Ctx} {A : List Nat} {N ps : List Str} {k : Nat} {s : S} (F : FunD K x qual params body scope dvs kws f fd) (Sc : FnScope N ps scope)
    (hbody : ∀ (cdv : Value) (Ar : Around) (outer : List Env) (s0 : Shared) (H : Hp) (E : XK), fd.code = cdv → Room k (Ar.deeper (envOfC qual scope s0.heap.objs.size f cdv)) →
      PSs (cxOf (L2.CX P w) P w K mg base N qual scope f cdv Ar outer s0 H E) body (tS κ A (fun cls d _ H => E cls d H) s)) : FnOk P w K mg base (L2.CX P w) (k + 1) f fd ps (spF κ ps.length (runF A N.length s)) := by
  refine FunD.okC F Sc (fun vs H Q E h => ?_) (fun cdv Ar outer s0 H vs Q E hcd hr h => ⟨_, hbody cdv Ar outer s0 H E hcd hr, ?_⟩)
  · obtain ⟨T, G, as, hl, p, _⟩ := h
    rw [p.args.length, hl]
  · obtain ⟨T, G, as, hl, p, q⟩ := h
    have hn : as.length ≤ N.length := by
      have z := congrArg List.length Sc.pre
      rw [List.length_take] at z
      omega
    unfold runF at q
    by_cases hA : (ownIx 0 as).all (A.contains ·) = true
    · rw [if_pos hA] at q
      refine ⟨⟨fun a => if a ∈ ownP as vs then none else noT H a, G, T, anOf 0 as vs⟩, as ++ List.replicate (N.length - as.length) SD.un, G, fun z hz => ?_, p.ok hn, ?_⟩
      · obtain ⟨i, a⟩ := z
        obtain ⟨j, d, e1, e2, e3⟩ := anOf_mem hz
        have m := ownIx_mem (n := 0) e2
        have y := List.all_eq_true.mp hA _ m
        rw [e1]
        exact List.contains_iff_mem.mp y
      · cases e : s (as ++ List.replicate (N.length - as.length) SD.un) with
        | ok fl ρ' =>
          rw [e] at q
          cases fl with
          | nx => exact fun σ' H' G' o s => q .non H' G' (p.after (N := N) o) rfl
          | rt r => exact fun v σ' H' G' o s rv => q v H' G' (p.after (N := N) o) (p.res o rv)
          | bk => exact q.elim
          | ct => exact q.elim
        | ex x ρ' =>
          rw [e] at q
          exact fun cls d σ' H' G' o s rx => q cls d H' G' (p.after (N := N) o) rx
        | no =>
          rw [e] at q
          exact q.elim
    · rw [if_neg hA] at q
      exact q.elim
theorem def_ok {κ : Ctx} {A : List Nat} {N ps : List Str} {k : Nat} {s : S} (F : FunD K x qual params body scope dvs kws f fd) (Sc : FnScope N ps scope)
    (hbody : ∀ (cdv : Value) (Ar : Around) (outer : List Env) (s0 : Shared) (H : Hp) (E : XK), Room k (Ar.deeper (envOfC qual scope s0.heap.objs.size f cdv)) →
      PSs (cxOf (L2.CX P w) P w K mg base N qual scope f cdv Ar outer s0 H E) body (tS κ A (fun cls d _ H => E cls d H) s)) : FnOk P w K mg base (L2.CX P w) (k + 1) f fd ps (spF κ ps.length (runF A N.length s)) :=
  def_okC F Sc fun cdv Ar outer s0 H E _ hr => hbody cdv Ar outer s0 H E hr
end
/-- a def that does what f does where f does something -/
theorem spF_imp {κ : Ctx} {n : Nat} {f g : List SD → FR} (h : ∀ as, as.length = n → f as ≠ .no → g as = f as) {vs : List V} {H : Hp} {Q : VK} {E : XK} (q : spF κ n f vs H Q E) : spF κ n g vs H Q E := by
  obtain ⟨T, G, as, hl, p, q⟩ := q
  refine ⟨T, G, as, hl, p, ?_⟩
  have e : g as = f as := h as hl fun z => by
    rw [z] at q
    exact q.elim
  rw [e]
  exact q
end Fm
set_option maxHeartbeats 3900000
namespace Fm
open L2 PySem PySem.Spec PyProof.Rows

/-! ### the call of a def -/
def slots : List Ar → List Nat
  | [] => []
  | .sl i :: l => i :: slots l
  | .va _ :: l => slots l
def getA (ρ : List SD) : Ar → Option SD
  | .va d => some (.va d)
  | .sl i => match ρ[i]? with
    | some (.va d) => some (.va d)
    | some (.ow d) => some (.ow d)
    | _ => none
def getAs (ρ : List SD) : List Ar → Option (List SD)
  | [] => some []
  | a :: l => (getA ρ a).bind fun x => (getAs ρ l).bind fun xs => some (x :: xs)
def isOw : Option SD → Bool
  | some (.ow _) => true
  | _ => false
def putAs : List SD → List Ar → List SD → List SD
  | ρ, .sl i :: l, os => putAs (if isOw ρ[i]? then ρ.set i (os.headD .un) else ρ) l os.tail
  | ρ, .va _ :: l, os => putAs ρ l os.tail
  | ρ, [], _ => ρ
def mCall (f : List SD → FR) (dd : List D) (n : M (List Ar)) : M SD := n.bind fun as => fun ρ => if (slots as).Nodup then match getAs ρ as with
  | none => .no
  | some xs => match f (xs ++ dd.map SD.va) with
    | .ok r outs => .ok r (putAs ρ as outs)
    | .ex x outs => .ex x (putAs ρ as outs)
    | .no => .no
  else .no
theorem slots_mem : ∀ {as : List Ar} {m i : Nat}, as[m]? = some (Ar.sl i) → i ∈ slots as
  | [], _, _, h => by simp at h
  | .sl j :: l, 0, i, h => by cases h; exact List.mem_cons_self ..
  | .sl j :: l, m + 1, i, h => List.mem_cons_of_mem _ (slots_mem (as := l) (m := m) h)
  | .va d :: l, 0, i, h => by cases h
  | .va d :: l, m + 1, i, h => slots_mem (as := l) (m := m) h
/-- what stands in a slot behind the call -/
theorem put_at : ∀ {as : List Ar} {ρ outs : List SD} {j : Nat} {x : SD}, (slots as).Nodup → (putAs ρ as outs)[j]? = some x →
    (∃ (m : Nat) (c : D), as[m]? = some (Ar.sl j) ∧ ρ[j]? = some (SD.ow c) ∧ x = outs[m]?.getD .un) ∨ ((∀ (m : Nat) (c : D), as[m]? = some (Ar.sl j) → ρ[j]? ≠ some (SD.ow c)) ∧ ρ[j]? = some x) := by
  intro as
  induction as with
  | nil => intro ρ outs j x _ h; exact .inr ⟨fun m c h => by simp at h, h⟩
  | cons a l ih =>
    intro ρ outs j x nd h
    have tl : ∀ (m : Nat), outs.tail[m]? = outs[m + 1]? := fun m => by cases outs <;> simp
    cases a with
    | va d =>
      rcases ih (ρ := ρ) (outs := outs.tail) nd h with ⟨m, c, e1, e2, e3⟩ | ⟨e1, e2⟩
      · exact .inl ⟨m + 1, c, e1, e2, by rw [e3, tl]⟩
      · refine .inr ⟨fun m c h => ?_, e2⟩
        cases m with
        | zero => cases h
        | succ m => exact e1 m c h
    | sl i =>
      have nd' := List.nodup_cons.mp (show (i :: slots l).Nodup from nd)
      have h' : (putAs (if isOw ρ[i]? = true then ρ.set i (outs.headD .un) else ρ) l outs.tail)[j]? = some x := h
      by_cases hj : j = i
      · subst hj
        have noj : ∀ (m : Nat), l[m]? ≠ some (Ar.sl j) := fun m z => nd'.1 (slots_mem z)
        rcases ih nd'.2 h' with ⟨m, c, e1, _, _⟩ | ⟨_, e2⟩
        · exact absurd e1 (noj m)
        · by_cases ho : isOw ρ[j]? = true
          · rw [if_pos ho] at e2
            obtain ⟨c, hc⟩ : ∃ c, ρ[j]? = some (SD.ow c) := by
              cases e : ρ[j]? with
              | none => rw [e] at ho; cases ho
              | some y =>
                cases y with
                | ow c => exact ⟨c, rfl⟩
                | va c => rw [e] at ho; cases ho
                | un => rw [e] at ho; cases ho
            rw [List.getElem?_set_self ((List.getElem?_eq_some_iff.mp hc).1)] at e2
            refine .inl ⟨0, c, rfl, hc, ?_⟩
            rw [← Option.some.inj e2]
            cases outs <;> rfl
          · rw [if_neg ho] at e2
            refine .inr ⟨fun m c _ z => ho (by rw [z]; rfl), e2⟩
      · have same : (if isOw ρ[i]? = true then ρ.set i (outs.headD .un) else ρ)[j]? = ρ[j]? := by
          by_cases ho : isOw ρ[i]? = true
          · rw [if_pos ho, List.getElem?_set_ne (Ne.symm hj)]
          · rw [if_neg ho]
        rcases ih nd'.2 h' with ⟨m, c, e1, e2, e3⟩ | ⟨e1, e2⟩
        · exact .inl ⟨m + 1, c, e1, same.symm.trans e2, by rw [e3, tl]⟩
        · refine .inr ⟨fun m c hm => ?_, same.symm.trans e2⟩
          cases m with
          | zero =>
            cases hm
            exact (hj rfl).elim
          | succ m => rw [← same]; exact e1 m c hm
theorem put_len : ∀ {as : List Ar} {ρ outs : List SD}, (putAs ρ as outs).length = ρ.length := by
  intro as
  induction as with
  | nil => intros; rfl
  | cons a l ih =>
    intro ρ outs
    cases a with
    | va d => exact ih
    | sl i =>
      refine (ih (ρ := if isOw ρ[i]? = true then ρ.set i (outs.headD .un) else ρ)).trans ?_
      by_cases ho : isOw ρ[i]? = true
      · rw [if_pos ho, List.length_set]
      · rw [if_neg ho]
section
variable {κ : Ctx} {B : Bas} {ρ : List SD} {σ : L2.St} {H G : Hp}
theorem getAs_args (o : Ok κ B ρ σ H G) : ∀ {as : List Ar} {xs : List SD} {vs : List V}, getAs ρ as = some xs → RepAs κ B.T σ G as vs → ArgsOk κ B.T G H xs vs
  | [], xs, vs, h, r => by
    cases h
    exact r
  | a :: l, xs, vs, h, r => by
    obtain ⟨x, e1, h2⟩ := Option.bind_eq_some_iff.mp h
    obtain ⟨ys, e2, e3⟩ := Option.bind_eq_some_iff.mp h2
    cases e3
    obtain ⟨v, ws, rfl, r1, r2⟩ := r
    have ih := getAs_args o e2 r2
    cases a with
    | va d =>
      cases e1
      exact ⟨v, ws, rfl, r1, ih⟩
    | sl i =>
      have r1 : σ[i]? = some (some v) := r1
      dsimp only [getA] at e1
      cases e : ρ[i]? with
      | none => rw [e] at e1; cases e1
      | some y =>
        rw [e] at e1
        cases y with
        | un => cases e1
        | va d =>
          cases e1
          obtain ⟨w', h1, h2⟩ := o.val i d e
          rw [r1] at h1
          cases h1
          exact ⟨v, ws, rfl, h2, ih⟩
        | ow d =>
          cases e1
          obtain ⟨p, h1, h2, h3, h4⟩ := o.own i d e
          rw [r1] at h1
          cases h1
          exact ⟨p, ws, rfl, h2, h4, ih⟩
theorem getAs_own : ∀ {as : List Ar} {xs : List SD} {m : Nat} {d : D}, getAs ρ as = some xs → xs[m]? = some (SD.ow d) → ∃ i, as[m]? = some (Ar.sl i) ∧ ρ[i]? = some (SD.ow d)
  | [], xs, m, d, h, e => by
    cases h
    simp at e
  | a :: l, xs, m, d, h, e => by
    obtain ⟨x, e1, h2⟩ := Option.bind_eq_some_iff.mp h
    obtain ⟨ys, e2, e3⟩ := Option.bind_eq_some_iff.mp h2
    cases e3
    cases m with
    | succ m => exact getAs_own (as := l) (m := m) e2 e
    | zero =>
      cases e
      cases a with
      | va c => cases e1
      | sl i =>
        refine ⟨i, rfl, ?_⟩
        dsimp only [getA] at e1
        cases e : ρ[i]? with
        | none => rw [e] at e1; cases e1
        | some y =>
          rw [e] at e1
          cases y with
          | un => cases e1
          | va c => cases e1
          | ow c => cases e1; rfl
theorem getAs_at : ∀ {as : List Ar} {xs : List SD} {m i : Nat} {d : D}, getAs ρ as = some xs → as[m]? = some (Ar.sl i) → ρ[i]? = some (SD.ow d) → xs[m]? = some (SD.ow d)
  | [], xs, m, i, d, h, e, _ => by simp at e
  | a :: l, xs, m, i, d, h, e, q => by
    obtain ⟨x, e1, h2⟩ := Option.bind_eq_some_iff.mp h
    obtain ⟨ys, e2, e3⟩ := Option.bind_eq_some_iff.mp h2
    cases e3
    cases m with
    | succ m => exact getAs_at (as := l) (m := m) e2 e q
    | zero =>
      cases e
      dsimp only [getA] at e1
      rw [q] at e1
      cases e1
      rfl
theorem repAs_at : ∀ {as : List Ar} {vs : List V} {m i : Nat} {v : V}, RepAs κ B.T σ G as vs → as[m]? = some (Ar.sl i) → vs[m]? = some v → σ[i]? = some (some v)
  | [], vs, m, i, v, r, e, _ => by simp at e
  | a :: l, vs, m, i, v, r, e, q => by
    obtain ⟨u, ws, rfl, r1, r2⟩ := r
    cases m with
    | succ m => exact repAs_at (as := l) (m := m) r2 e q
    | zero =>
      cases e
      cases q
      exact r1
theorem repAs_len : ∀ {as : List Ar} {vs : List V}, RepAs κ B.T σ G as vs → vs.length = as.length
  | [], vs, r => by rw [show vs = [] from r] <;> rfl
  | a :: l, vs, r => by
    obtain ⟨u, ws, rfl, r1, r2⟩ := r
    rw [List.length_cons, List.length_cons, repAs_len r2]
theorem getAs_len : ∀ {as : List Ar} {xs : List SD}, getAs ρ as = some xs → xs.length = as.length
  | [], xs, h => by cases h; rfl
  | a :: l, xs, h => by
    obtain ⟨x, e1, h2⟩ := Option.bind_eq_some_iff.mp h
    obtain ⟨ys, e2, e3⟩ := Option.bind_eq_some_iff.mp h2
    cases e3
    rw [List.length_cons, List.length_cons, getAs_len e2]
theorem slots_inj {as : List Ar} (nd : (slots as).Nodup) : ∀ {m m' i : Nat}, as[m]? = some (Ar.sl i) → as[m']? = some (Ar.sl i) → m = m' := by
  induction as with
  | nil => intro m m' i h; simp at h
  | cons a l ih =>
    intro m m' i h h'
    have nd2 : (slots l).Nodup := by
      cases a with
      | va d => exact nd
      | sl j => exact (List.nodup_cons.mp (show (j :: slots l).Nodup from nd)).2
    cases m with
    | zero =>
      cases m' with
      | zero => rfl
      | succ m' =>
        cases h
        exact absurd (slots_mem (as := l) (m := m') h') (List.nodup_cons.mp (show (i :: slots l).Nodup from nd)).1
    | succ m =>
      cases m' with
      | zero =>
        cases h'
        exact absurd (slots_mem (as := l) (m := m) h) (List.nodup_cons.mp (show (i :: slots l).Nodup from nd)).1
      | succ m' => rw [ih nd2 (m := m) (m' := m') h h']
/-- the own arguments' addresses differ -/
theorem ownP_nodup : ∀ {as : List SD} {vs : List V}, (∀ (i j : Nat) d e p, i ≠ j → as[i]? = some (SD.ow d) → as[j]? = some (SD.ow e) → vs[i]? = some (V.ref p) → vs[j]? = some (V.ref p) → False) → (ownP as vs).Nodup := by
  intro as
  induction as with
  | nil => intro vs _; exact List.nodup_nil
  | cons a l ih =>
    intro vs h
    cases vs with
    | nil => cases a <;> exact List.nodup_nil
    | cons v ws =>
      have ih' := ih (vs := ws) fun i j d e p hij h1 h2 h3 h4 => h (i + 1) (j + 1) d e p (by omega) h1 h2 h3 h4
      cases a with
      | va c => simpa only [ownP] using ih'
      | un => simpa only [ownP] using ih'
      | ow c =>
        cases v with
        | ref p =>
          refine List.nodup_cons.mpr ⟨fun hm => ?_, ih'⟩
          obtain ⟨i, d, e1, e2⟩ := ownP_mem hm
          exact h 0 (i + 1) c d p (by omega) rfl e1 rfl e2
        | _ => exact ih'
theorem ArgsOk.append {T : Pd} {dd : List D} {dvs : List V} (hd : RepL κ T G dd dvs) : ∀ {as : List SD} {vs : List V}, ArgsOk κ T G H as vs → ArgsOk κ T G H (as ++ dd.map SD.va) (vs ++ dvs)
  | [], vs, h => by
    rw [show vs = [] from h]
    have go : ∀ {dd : List D} {dvs : List V}, RepL κ T G dd dvs → ArgsOk κ T G H (dd.map SD.va) dvs := by
      intro dd
      induction dd with
      | nil => intro dvs r; exact r
      | cons d l ih =>
        intro dvs r
        obtain ⟨v, ws, e, r1, r2⟩ := r
        exact ⟨v, ws, e, r1, ih r2⟩
    exact go hd
  | .va d :: l, vs, h => by
    obtain ⟨v, ws, rfl, h1, h2⟩ := h
    exact ⟨v, ws ++ dvs, rfl, h1, ArgsOk.append hd h2⟩
  | .ow d :: l, vs, h => by
    obtain ⟨p, ws, rfl, h1, h3, h2⟩ := h
    exact ⟨p, ws ++ dvs, rfl, h1, h3, ArgsOk.append hd h2⟩
  | .un :: l, vs, h => h.elim
/-- behind a call -/
theorem call_back (o : Ok κ B ρ σ H G) {as : List Ar} {xs : List SD} {vs dvs : List V} {dd : List D} (nd : (slots as).Nodup) (hx : getAs ρ as = some xs) (r : RepAs κ B.T σ G as vs) (hd : RepL κ B.T G dd dvs) :
    Pre κ B.T G H (xs ++ dd.map SD.va) (vs ++ dvs) ∧ (∀ {outs : List SD} {H' G' : Hp}, After κ B.T G H (xs ++ dd.map SD.va) (vs ++ dvs) outs H' G' → Ok κ B (putAs ρ as outs) σ H' G' ∧
      ∀ {z : SD} {v : V}, ResOk κ B.T H (xs ++ dd.map SD.va) (vs ++ dvs) outs H' G' z v → RepR κ B (putAs ρ as outs) σ H' G' z v) := by
  have a0 := getAs_args o hx r
  have lx := getAs_len hx
  have lv := repAs_len r
  have noD : ∀ {m : Nat} {d : D}, (xs ++ dd.map SD.va)[m]? = some (SD.ow d) → xs[m]? = some (SD.ow d) ∧ m < xs.length := fun {m d} e => by
    by_cases hm : m < xs.length
    · rw [List.getElem?_append_left hm] at e
      exact ⟨e, hm⟩
    · rw [List.getElem?_append_right (by omega), List.getElem?_map] at e
      cases e2 : dd[m - xs.length]? with
      | none => rw [e2] at e; cases e
      | some y => rw [e2] at e; cases e
  have vat : ∀ {m : Nat} {v : V}, m < xs.length → (vs ++ dvs)[m]? = some v → vs[m]? = some v := fun {m v} hm e => by
    rw [List.getElem?_append_left (by omega)] at e
    exact e
  -- an own argument is a slot's
  have arg : ∀ {m : Nat} {d : D} {p : Addr}, (xs ++ dd.map SD.va)[m]? = some (SD.ow d) → (vs ++ dvs)[m]? = some (V.ref p) → ∃ i, as[m]? = some (Ar.sl i) ∧ ρ[i]? = some (SD.ow d) ∧ σ[i]? = some (some (V.ref p)) := fun {m d p} e1 e2 => by
    obtain ⟨e3, hm⟩ := noD e1
    obtain ⟨i, e4, e5⟩ := getAs_own hx e3
    exact ⟨i, e4, e5, repAs_at r e4 (vat hm e2)⟩
  have slot : ∀ {p : Addr}, p ∈ ownP (xs ++ dd.map SD.va) (vs ++ dvs) → ∃ (m i : Nat) (d : D), as[m]? = some (Ar.sl i) ∧ ρ[i]? = some (SD.ow d) ∧ σ[i]? = some (some (V.ref p)) := fun {p} hp => by
    obtain ⟨m, d, e1, e2⟩ := ownP_mem hp
    obtain ⟨i, h1, h2, h3⟩ := arg e1 e2
    exact ⟨m, i, d, h1, h2, h3⟩
  have pb : ∀ {p : Addr}, p ∈ ownP (xs ++ dd.map SD.va) (vs ++ dvs) → B.H p = none := fun {p} hp => by
    obtain ⟨m, i, d, h1, h2, h3⟩ := slot hp
    obtain ⟨q, e1, _, e3, _⟩ := o.own i d h2
    rw [h3] at e1
    cases e1
    exact e3
  have nb : ∀ {a : Addr}, B.H a ≠ none → a ∉ ownP (xs ++ dd.map SD.va) (vs ++ dvs) := fun {a} h z => h (pb z)
  have seen : ∀ {a : Addr}, B.H a ≠ none → noT H a ≠ none := fun {a} h => by
    obtain ⟨u, _, n, e⟩ := o.fr.obj h
    rw [noT_of e n]
    exact fun z => nomatch z
  refine ⟨⟨a0.append hd, ownP_nodup fun i j d e p hij h1 h2 h3 h4 => ?_, o.fr.gh, o.fr.notb, o.fr.tabs, fun a h => ⟨seen (o.fr.lent a h), nb (o.fr.lent a h)⟩⟩, fun {outs H' G'} af => ⟨?_, fun {z v} rz => ?_⟩⟩
  · obtain ⟨i', q1, q2, q3⟩ := arg h1 h3
    obtain ⟨j', w1, w2, w3⟩ := arg h2 h4
    have ne : i' ≠ j' := fun z => by
      subst z
      exact hij (slots_inj nd q1 w1)
    exact o.sep i' j' p d e ne q2 w2 q3 w3
  · -- the state behind it
    have own_in : ∀ {j : Nat} {d : D} {q : Addr}, ρ[j]? = some (SD.ow d) → σ[j]? = some (some (V.ref q)) → (∀ (m : Nat), as[m]? ≠ some (Ar.sl j)) → q ∉ ownP (xs ++ dd.map SD.va) (vs ++ dvs) := fun {j d q} h1 h2 h3 hq => by
      obtain ⟨m, i, c, e1, e2, e3⟩ := slot hq
      have ne : j ≠ i := fun z => h3 m (by rw [z]; exact e1)
      exact o.sep j i q d c ne h1 e2 h2 e3
    have vj : ∀ {m j : Nat} {c : D} {p : Addr}, as[m]? = some (Ar.sl j) → ρ[j]? = some (SD.ow c) → σ[j]? = some (some (V.ref p)) → (xs ++ dd.map SD.va)[m]? = some (SD.ow c) ∧ (vs ++ dvs)[m]? = some (V.ref p) := fun {m j c p} e1 e2 e3 => by
      have h1 := getAs_at hx e1 e2
      have hm := (List.getElem?_eq_some_iff.mp h1).1
      refine ⟨by rw [List.getElem?_append_left hm]; exact h1, ?_⟩
      rw [List.getElem?_append_left (by omega)]
      have hv : m < vs.length := by omega
      have y := repAs_at r e1 (List.getElem?_eq_getElem hv)
      rw [e3] at y
      rw [List.getElem?_eq_getElem hv, ← Option.some.inj (Option.some.inj y)]
    refine ⟨⟨fun a u e n => af.keep a u (o.fr.keep a u e n) (nb (by rw [e]; simp)) n, o.fr.nt, fun a e => (af.frz a (seen e) (nb e)).trans (o.fr.frz a e), o.fr.sub.trans af.sub, af.gh, af.notb, af.tabs, o.fr.lent⟩, by rw [put_len]; exact o.len, fun j d e => ?_, fun j d e => ?_, fun i j p d e hij h1 h2 h3 h4 => ?_, o.anch⟩
    · rcases put_at nd e with ⟨m, c, e1, e2, e3⟩ | ⟨_, e2⟩
      · obtain ⟨p, q1, _, _, _⟩ := o.own j c e2
        obtain ⟨h1, h2⟩ := vj e1 e2 q1
        have y := af.outs m c p h1 h2
        cases e4 : outs[m]? with
        | none => simp only [e4] at e3; cases e3
        | some x =>
          rw [e4] at e3 y
          cases (show SD.va d = x from e3)
          exact ⟨_, q1, y⟩
      · obtain ⟨v, h1, h2⟩ := o.val j d e2
        exact ⟨v, h1, Rep.mono (.of af.sub) d h2⟩
    · rcases put_at nd e with ⟨m, c, e1, e2, e3⟩ | ⟨e1, e2⟩
      · obtain ⟨p, q1, _, q3, _⟩ := o.own j c e2
        obtain ⟨h1, h2⟩ := vj e1 e2 q1
        have y := af.outs m c p h1 h2
        cases e4 : outs[m]? with
        | none => simp only [e4] at e3; cases e3
        | some x =>
          rw [e4] at e3 y
          cases (show SD.ow d = x from e3)
          exact ⟨p, q1, y.1, q3, y.2⟩
      · obtain ⟨q, q1, q2, q3, q4⟩ := o.own j d e2
        have hn := own_in e2 q1 fun m z => e1 m d z e2
        obtain ⟨u, u1, u2, _⟩ := q4.obj
        exact ⟨q, q1, (af.frz q (by rw [noT_of u1 u2]; simp) hn).trans q2, q3, q4.mono af.sub ((af.keep q u u1 hn u2).trans u1.symm)⟩
    · have old : ∀ {m : Nat} {x : D}, (putAs ρ as outs)[m]? = some (SD.ow x) → ∃ y, ρ[m]? = some (SD.ow y) := fun {m x} z => by
        rcases put_at nd z with ⟨_, c, _, e2, _⟩ | ⟨_, e2⟩
        · exact ⟨c, e2⟩
        · exact ⟨x, e2⟩
      obtain ⟨y1, w1⟩ := old h1
      obtain ⟨y2, w2⟩ := old h2
      exact o.sep i j p y1 y2 hij w1 w2 h3 h4
  · cases z with
    | un => exact rz.elim
    | va d => exact rz
    | ow d =>
      obtain ⟨q, rfl, h1, h2, h3, h4⟩ := rz
      refine ⟨q, rfl, h1, ?_, h2, fun j e hj hs => ?_⟩
      · rcases h3 with h3 | h3
        · cases eb : B.H q with
          | none => rfl
          | some u => exact absurd h3 (seen (by rw [eb]; simp))
        · exact pb h3
      · rcases put_at nd hj with ⟨m, c, e1, e2, e3⟩ | ⟨e1, e2⟩
        · have h5 := getAs_at hx e1 e2
          have hm := (List.getElem?_eq_some_iff.mp h5).1
          have hv : m < vs.length := by omega
          have y := repAs_at r e1 (List.getElem?_eq_getElem hv)
          rw [hs] at y
          have e6 : (vs ++ dvs)[m]? = some (V.ref q) := by
            rw [List.getElem?_append_left hv, List.getElem?_eq_getElem hv, ← Option.some.inj (Option.some.inj y)]
          have e5 : (xs ++ dd.map SD.va)[m]? = some (SD.ow c) := by
            rw [List.getElem?_append_left hm]
            exact h5
          cases e4 : outs[m]? with
          | none => simp only [e4] at e3; cases e3
          | some x =>
            rw [e4] at e3
            cases (show SD.ow e = x from e3)
            exact h4 m c q e e5 e6 e4 rfl
        · obtain ⟨p, q1, q2, q3, q4⟩ := o.own j e e2
          rw [hs] at q1
          cases q1
          rcases h3 with h3 | h3
          · obtain ⟨u, u1, u2, _⟩ := q4.obj
            rw [noT_of u1 u2] at h3
            cases h3
          · obtain ⟨m, i, c, w1, w2, w3⟩ := slot h3
            have ne : j ≠ i := fun z => e1 m e (by rw [z]; exact w1) e2
            exact o.sep j i q e c ne e2 w2 hs w3
end
/-- what a call may let out is taken -/
def PassW (X : Cx) (W : WX) : Prop := ∀ σ, PassesAt (L2.CX X.prog X.w) X σ (fun cls d H => W cls d σ H)
theorem passW_of {X : Cx} {W : WX} (tk : Takes X W) : PassW X W := fun σ => passAt tk σ
theorem passW_no {X : Cx} : PassW X (fun _ _ _ _ => False) := fun σ _ _ _ _ _ _ c => by
  obtain ⟨_, _, _, _, _, _, _, _, _, _, _, _, z⟩ := c
  exact z.elim
section
variable {X : Cx} {κ : Ctx} {W : WX} {k N : Nat} {f : Addr} {fd : FuncData} {ps : List Str} {fn : List SD → FR} {dvs : List V} {dd : List D} {ds : List Value} {x : Str} {p pos : Pos} {e : Expr} {es : List Expr} {n : M (List Ar)} {σ : L2.St} {H : Hp} {Q : VK}
theorem call_ok (hN : ps.length = N) (hd : ∀ T G, RepL κ T G dd dvs) (hl : ∀ ρ as ρ' xs, n ρ = .ok as ρ' → getAs ρ' as = some xs → xs.length + dd.length = N) (h : tE κ W (mCall fn dd n) σ H Q) :
    tCallSD (spF κ N fn) dvs (fun σ cls d H => W cls d σ H) (tAr κ W n) σ H Q := by
  obtain ⟨B, ρ, G, o, q⟩ := h
  refine ⟨B, ρ, G, o, ?_⟩
  have q1 := Pst.bind q
  cases en : n ρ with
  | ex x ρ' =>
    rw [en] at q1
    exact q1
  | no =>
    rw [en] at q1
    exact q1
  | ok as ρ' =>
    rw [en] at q1
    refine fun H1 G1 o1 s1 vs rs => ?_
    have q2 := q1 H1 G1 o1 s1
    dsimp only at q2
    by_cases nd : (slots as).Nodup
    · rw [if_pos nd] at q2
      cases hx : getAs ρ' as with
      | none =>
        rw [hx] at q2
        exact q2.elim
      | some xs =>
        rw [hx] at q2
        dsimp only at q2
        obtain ⟨pre, back⟩ := call_back o1 nd hx rs (hd B.T G1)
        refine ⟨B.T, G1, xs ++ dd.map SD.va, ?_, pre, ?_⟩
        · rw [List.length_append, List.length_map]
          exact hl ρ as ρ' xs en hx
        · cases ef : fn (xs ++ dd.map SD.va) with
          | ok r outs =>
            rw [ef] at q2
            exact fun v H2 G2 af rv => q2 H2 G2 (back af).1 af.sub v ((back af).2 rv)
          | ex x outs =>
            rw [ef] at q2
            exact fun cls d H2 G2 af rx => q2 cls d H2 G2 (back af).1 af.sub rx
          | no =>
            rw [ef] at q2
            exact q2.elim
    · rw [if_neg nd] at q2
      exact q2.elim
/-- f(e, ..) -/
theorem e_call (F : FnOk X.prog X.w X.K X.mg X.base (L2.CX X.prog X.w) k f fd ps (spF κ N fn)) (hN : ps.length = N) (hr : Room k X.A) (hg : Gl X x) (hm : X.mg x = some (.ref f)) (hk : PySem.W.keepIn X.K (.ref f) = true) (hb : Binds X.K fd ps ds) (hv : Vals dvs ds) (hd : ∀ T G, RepL κ T G dd dvs)
    (hx : PassW X W) (ha : PA X (e :: es) (tAr κ W n)) (hl : ∀ ρ as ρ' xs, n ρ = .ok as ρ' → getAs ρ' as = some xs → xs.length + dd.length = N) (hdb : (x == ("__debug__" : Str)) = false := by decide) (he : starEach (e :: es) X.env = (false, eval e X.env) :: starEach es X.env := by rfl) (hpl : (backTo pos (starEach es X.env)).any (·.1) = false := by rfl) :
    PE X (.Call (.Name x p) (e :: es) [] pos) (tE κ W (mCall fn dd n)) := PE.imp (pe_callSD F hr hg hm hk hb hv hx ha hdb he hpl) fun _ _ _ => call_ok hN hd hl
end
/-- how many arguments an argument list gives -/
def ALen (n : M (List Ar)) (k : Nat) : Prop := ∀ ρ as ρ', n ρ = .ok as ρ' → as.length = k
theorem alen_nil : ALen aNil 0 := fun ρ as ρ' h => by cases h; rfl
theorem alen_va {m : M SD} {n : M (List Ar)} {k : Nat} (h : ALen n k) : ALen (aVa m n) (k + 1) := fun ρ as ρ' e => by
  unfold aVa M.bind at e
  cases e1 : fE m ρ with
  | ok d ρ1 =>
    rw [e1] at e
    cases e2 : n ρ1 with
    | ok ds ρ2 =>
      simp only [e2] at e
      cases e
      rw [List.length_cons, h _ _ _ e2]
    | ex x ρ2 => simp only [e2] at e; cases e
    | no => simp only [e2] at e; cases e
  | ex x ρ1 => rw [e1] at e; cases e
  | no => rw [e1] at e; cases e
theorem alen_sl {i : Nat} {n : M (List Ar)} {k : Nat} (h : ALen n k) : ALen (aSl i n) (k + 1) := fun ρ as ρ' e => by
  unfold aSl at e
  by_cases hi : isSet ρ[i]? = true
  · rw [if_pos hi] at e
    unfold M.bind at e
    cases e2 : n ρ with
    | ok ds ρ2 =>
      simp only [e2] at e
      cases e
      rw [List.length_cons, h _ _ _ e2]
    | ex x ρ2 => simp only [e2] at e; cases e
    | no => simp only [e2] at e; cases e
  · rw [if_neg hi] at e
    cases e
theorem alen_ok {n : M (List Ar)} {k N : Nat} {dd : List D} (h : ALen n k) (hk : k + dd.length = N) : ∀ ρ as ρ' xs, n ρ = .ok as ρ' → getAs ρ' as = some xs → xs.length + dd.length = N := fun ρ as ρ' xs e hx => by
  rw [getAs_len hx, h _ _ _ e]
  exact hk
end Fm
set_option maxHeartbeats 3900000
namespace Fm
open L2 PySem PySem.Spec PyProof.Rows

/-! ### what is walked -/
def ItD (κ : Ctx) (T : Pd) (G0 : Hp) (J : It) (l : List D) : Prop := ∀ (i : Nat) (B : Bas) (ρ : List SD) (σ : L2.St) (H G : Hp), B.T = T → Ok κ B ρ σ H G → Same G0 G →
  (i < l.length → J.go i H) ∧ (l.length ≤ i → J.stop i H) ∧ ∀ d, l[i]? = some d → ∀ x H', J.yld i H x H' → ∃ G', Ok κ B ρ σ H' G' ∧ Same G G' ∧ Same H H' ∧ Rep κ T G' d x
def tI (κ : Ctx) (W : WX) (m : M (List D)) : TI := fun σ H R => ∃ B ρ G, Ok κ B ρ σ H G ∧ Pst κ W B σ G (m ρ) fun l ρ' H' G' => ∀ J, ItD κ B.T G' J l → R J H'
theorem PI.imp {X : Cx} {tg e : Expr} {t t' : TI} (h : PI X tg e t) (f : ∀ σ H R, t' σ H R → t σ H R) : PI X tg e t' := ⟨fun pins s σ H R I q => h.run pins s σ H R I (f _ _ _ q)⟩
theorem PI.or {X : Cx} {tg e : Expr} {t t' : TI} (h : PI X tg e t) (h' : PI X tg e t') : PI X tg e (fun σ H R => t σ H R ∨ t' σ H R) := ⟨fun pins s σ H R I q => by
  rcases q with q | q
  · exact h.run pins s σ H R I q
  · exact h'.run pins s σ H R I q⟩
/-- a list or a tuple -/
def seqM : D → M (List D)
  | .lst _ l => M.ret l
  | .tup l => M.ret l
  | .str s => M.ret (s.cps.toList.map fun c => D.str ⟨#[c]⟩)
  | _ => M.no
def iSeq (m : M SD) : M (List D) := (fE m).bind seqM
theorem Rep.seqL {κ : Ctx} {T : Pd} {G H : Hp} {b : Bool} {l : List D} {v : V} (s : Same G H) (h : Rep κ T G (.lst b l) v) : ∃ a vs, v = .ref a ∧ SqL κ.K G a vs ∧ SqL κ.K H a vs ∧ RepL κ T G l vs := by
  obtain ⟨a, vs, rfl, ⟨h1, _⟩, h2⟩ := h
  exact ⟨a, vs, rfl, SqL.of h1, SqL.of (s _ _ h1), h2⟩
theorem itd_list {κ : Ctx} {T : Pd} {G0 : Hp} {a : Addr} {l : List D} {vs : List V} (hs : SqL κ.K G0 a vs) (r : RepL κ T G0 l vs) : ItD κ T G0 (Itl κ.K a) l := by
  intro i B ρ σ H G hT o s
  have hH : SqL κ.K H a vs := sqL_mono (s.trans o.fr.gh) hs
  refine ⟨fun hi => ?_, fun hi => ⟨vs, hH, by rw [r.length]; exact hi⟩, fun d hd x H' y => ?_⟩
  · obtain ⟨v, h1, h2⟩ := r.get (List.getElem?_eq_getElem hi)
    exact ⟨vs, v, hH, h1⟩
  · obtain ⟨rfl, y⟩ := y
    obtain ⟨v, h1, h2⟩ := r.get hd
    have z := y vs hH
    rw [h1] at z
    cases z
    exact ⟨G, o, Same.refl G, Same.refl _, Rep.mono (.of s) d h2⟩
theorem itd_tup {κ : Ctx} {T : Pd} {G0 : Hp} {a : Addr} {l : List D} {vs : List V} (hs : TupAt κ.K G0 a vs) (r : RepL κ T G0 l vs) : ItD κ T G0 (Itt κ.K a) l := by
  intro i B ρ σ H G hT o s
  have hH : SqT κ.K H a vs := hs.sq (s.trans o.fr.gh)
  refine ⟨fun hi => ?_, fun hi => ⟨vs, hH, by rw [r.length]; exact hi⟩, fun d hd x H' y => ?_⟩
  · obtain ⟨v, h1, h2⟩ := r.get (List.getElem?_eq_getElem hi)
    exact ⟨vs, v, hH, h1⟩
  · obtain ⟨rfl, y⟩ := y
    obtain ⟨v, h1, h2⟩ := r.get hd
    have z := y vs hH
    rw [h1] at z
    cases z
    exact ⟨G, o, Same.refl G, Same.refl _, Rep.mono (.of s) d h2⟩
/-- 0, 1, .. below n -/
def rngD (lo : Int) (n : Nat) : List D := (List.range n).map fun i => .int (lo + (i : Nat))
theorem itd_rng {κ : Ctx} {T : Pd} {G0 : Hp} {lo : Int} {n : Nat} : ItD κ T G0 (Itr lo n) (rngD lo n) := by
  intro i B ρ σ H G hT o s
  have hl : (rngD lo n).length = n := by simp [rngD]
  refine ⟨fun hi => by rw [hl] at hi; exact hi, fun hi => by rw [hl] at hi; exact hi, fun d hd x H' y => ?_⟩
  obtain ⟨rfl, rfl⟩ := y
  unfold rngD at hd
  rw [List.getElem?_map] at hd
  obtain ⟨j, e1, e2⟩ := Option.map_eq_some_iff.mp hd
  have hj : j = i := by
    have q := List.getElem?_eq_some_iff.mp e1
    obtain ⟨q1, q2⟩ := q
    rw [List.getElem_range] at q2
    exact q2.symm
  subst hj
  subst e2
  exact ⟨G, o, Same.refl G, Same.refl _, rfl⟩
section
variable {X : Cx} {κ : Ctx} {W : WX} {e : Expr} {m : M SD} {tg : Expr}
theorem itd_str {T : Pd} {G0 : Hp} {s : Str} : ItD κ T G0 (Its s) (s.cps.toList.map fun c => D.str ⟨#[c]⟩) := by
  intro i B ρ σ H G hT o k
  have len : (s.cps.toList.map fun c => D.str ⟨#[c]⟩).length = s.cps.size := by simp
  refine ⟨fun hi => by rw [len] at hi; exact hi, fun hi => by rw [len] at hi; exact hi, fun d hd x H' y => ?_⟩
  obtain ⟨rfl, c, hc, rfl⟩ := y
  rw [List.getElem?_map, Array.getElem?_toList, hc] at hd
  cases hd
  exact ⟨G, o, Same.refl G, Same.refl _, rfl⟩
theorem i_seq (hK : X.K = κ.K) (h : PE X e (tE κ W m)) : PI X tg e (tI κ W (iSeq m)) := by
  refine PI.imp (PI.or (pi_list h) (PI.or (pi_tup h) (pi_str h))) fun σ H R ⟨B, ρ, G, o, q⟩ => ?_
  have q1 := Pst.bind q
  -- which of both: by the data
  cases em : fE m ρ with
  | ex x ρ' =>
    refine .inl (tE_fz (k := fun _ _ _ _ => False) o ?_ fun _ _ _ _ _ _ z => z.elim)
    rw [em]
    rw [em] at q1
    exact q1
  | no =>
    rw [em] at q1
    exact q1.elim
  | ok d ρ' =>
    cases d with
    | lst b l =>
      refine .inl (tE_fz (k := fun d ρ' H' G' => d = .lst b l ∧ Pst κ W B σ G' (seqM d ρ') fun l ρ' H' G' => ∀ J, ItD κ B.T G' J l → R J H') o ?_ fun d ρ1 H1 G1 o1 s1 z v r => ?_)
      · rw [em] at q1 ⊢
        exact fun H' G' o' s' => ⟨rfl, q1 H' G' o' s'⟩
      · obtain ⟨rfl, z⟩ := z
        obtain ⟨a, vs, rfl, h1, h2, h3⟩ := r.seqL o1.fr.gh
        refine ⟨a, rfl, ⟨vs, hK ▸ h2⟩, ?_⟩
        rw [hK]
        exact Pst.ret z o1 _ (itd_list h1 h3)
    | tup l =>
      refine .inr (.inl (tE_fz (k := fun d ρ' H' G' => d = .tup l ∧ Pst κ W B σ G' (seqM d ρ') fun l ρ' H' G' => ∀ J, ItD κ B.T G' J l → R J H') o ?_ fun d ρ1 H1 G1 o1 s1 z v r => ?_))
      · rw [em] at q1 ⊢
        exact fun H' G' o' s' => ⟨rfl, q1 H' G' o' s'⟩
      · obtain ⟨rfl, z⟩ := z
        obtain ⟨a, vs, rfl, h1, h3⟩ := r
        refine ⟨a, rfl, ⟨vs, hK ▸ h1.sq o1.fr.gh⟩, ?_⟩
        rw [hK]
        exact Pst.ret z o1 _ (itd_tup h1 h3)
    | str x =>
      refine .inr (.inr (tE_fz (k := fun d ρ' H' G' => d = .str x ∧ Pst κ W B σ G' (seqM d ρ') fun l ρ' H' G' => ∀ J, ItD κ B.T G' J l → R J H') o ?_ fun d ρ1 H1 G1 o1 s1 z v r => ?_))
      · rw [em] at q1 ⊢
        exact fun H' G' o' s' => ⟨rfl, q1 H' G' o' s'⟩
      · obtain ⟨rfl, z⟩ := z
        cases (show v = V.str x from r)
        exact ⟨x, rfl, Pst.ret z o1 _ itd_str⟩
    | _ =>
      refine .inl (tE_fz (k := fun _ _ _ _ => False) o ?_ fun _ _ _ _ _ _ z => z.elim)
      rw [em] at q1 ⊢
      exact fun H' G' o' s' => q1 H' G' o' s'
/-- range(n) -/
def rng1M : List D → M (List D)
  | [.int j] => if -(2 ^ 62) ≤ j ∧ j < 2 ^ 62 then M.ret (rngD 0 j.toNat) else M.no
  | _ => M.no
def rng2M : List D → M (List D)
  | [.int i, .int j] => if -(2 ^ 62) ≤ i ∧ i < 2 ^ 62 ∧ -(2 ^ 62) ≤ j ∧ j < 2 ^ 62 then M.ret (rngD i (j - i).toNat) else M.no
  | _ => M.no
def iRg1 (n : M (List D)) : M (List D) := n.bind rng1M
def iRg2 (n : M (List D)) : M (List D) := n.bind rng2M
theorem i_rng1 {a : Expr} {n : M (List D)} {p pos : Pos} (hg : Gl X "range") (hm : X.mg "range" = none) (ha : PA X [a] (tA κ W n)) (hs : starEach [a] X.env = [(false, eval a X.env)] := by rfl) : PI X tg (.Call (.Name "range" p) [a] [] pos) (tI κ W (iRg1 n)) := by
  refine PI.imp (pi_range1 hg hm ha hs) fun σ H R ⟨B, ρ, G, o, q⟩ => ⟨B, ρ, G, o, Pst.mono (Pst.bind q) fun ds ρ' H' G' o' s q' vs rs => ?_⟩
  match ds, q', rs with
  | [.int j], q', rs =>
    obtain ⟨v, ws, rfl, rfl, rfl⟩ := rs
    have q2 : Pst κ W B σ G' ((if -(2 ^ 62) ≤ j ∧ j < 2 ^ 62 then M.ret (rngD 0 j.toNat) else M.no) ρ') fun l ρ' H' G' => ∀ J, ItD κ B.T G' J l → R J H' := q'
    by_cases hj : -(2 ^ 62) ≤ j ∧ j < 2 ^ 62
    · rw [if_pos hj] at q2
      exact ⟨j, rfl, hj.1, hj.2, Pst.ret q2 o' _ itd_rng⟩
    · rw [if_neg hj] at q2
      exact q2.elim
theorem i_rng2 {a b : Expr} {n : M (List D)} {p pos : Pos} (hg : Gl X "range") (hm : X.mg "range" = none) (ha : PA X [a, b] (tA κ W n)) (hs : starEach [a, b] X.env = [(false, eval a X.env), (false, eval b X.env)] := by rfl)
    (hsw : PI X tg (.Call (.Name "range" p) [a, b] [] pos) (iRng2 (tA κ W n))) : PI X tg (.Call (.Name "range" p) [a, b] [] pos) (tI κ W (iRg2 n)) := by
  refine PI.imp hsw fun σ H R ⟨B, ρ, G, o, q⟩ => ⟨B, ρ, G, o, Pst.mono (Pst.bind q) fun ds ρ' H' G' o' s q' vs rs => ?_⟩
  match ds, q', rs with
  | [.int i, .int j], q', rs =>
    obtain ⟨v, ws, rfl, rfl, w', us, rfl, rfl, rfl⟩ := rs
    have q2 : Pst κ W B σ G' ((if -(2 ^ 62) ≤ i ∧ i < 2 ^ 62 ∧ -(2 ^ 62) ≤ j ∧ j < 2 ^ 62 then M.ret (rngD i (j - i).toNat) else M.no) ρ') fun l ρ' H' G' => ∀ J, ItD κ B.T G' J l → R J H' := q'
    by_cases hj : -(2 ^ 62) ≤ i ∧ i < 2 ^ 62 ∧ -(2 ^ 62) ≤ j ∧ j < 2 ^ 62
    · rw [if_pos hj] at q2
      exact ⟨i, j, rfl, hj, Pst.ret q2 o' _ itd_rng⟩
    · rw [if_neg hj] at q2
      exact q2.elim
end

/-! ### for -/
def forL (tg : D → List SD → Option (List SD)) (b : S) : List D → S
  | [], ρ => .ok .nx ρ
  | d :: l, ρ => match tg d ρ with
    | none => .no
    | some ρ1 => match b ρ1 with
      | .ok .nx ρ2 => forL tg b l ρ2
      | .ok .ct ρ2 => forL tg b l ρ2
      | .ok .bk ρ2 => .ok .nx ρ2
      | r => r
def sFor (m : M (List D)) (tg : D → List SD → Option (List SD)) (b : S) : S := m.bind fun l => forL tg b l
section
variable {X : Cx} {κ : Ctx} {A vs : List Nat} {W : WX} {e : Expr} {tg : Expr} {pos : Pos}
theorem s_for {m : M (List D)} {g : D → List SD → Option (List SD)} {b : S} {body : List Stmt} (hp : PassesOwn (model X.prog X.w) X.A X.env X.xe) (hc : X.calm = true) (hi : PI X tg e (tI κ W m)) (hg : PG X tg (tG κ A vs g)) (hb : PSs X body (tS κ A W b))
    (hs : ∀ x, foldedSetIterable e X.env x = pure x := by intro _; rfl) : PS X (.For tg e body [] pos) (tS κ A W (sFor m g b)) := by
  refine PS.imp (ps_for hp hc hi hg hb hs) fun D σ H ⟨B, ρ, G, a, o, q⟩ => ⟨B, ρ, G, o, Pst.mono (PstS.bind q) fun l ρ0 H0 G0 o0 s0 q0 J hJ => ?_⟩
  refine ⟨fun i n σ' H' => n = l.length - i ∧ i ≤ l.length ∧ ∃ ρ' G', Ok κ B ρ' σ' H' G' ∧ Same G0 G' ∧ PstS κ W B G' (forL g b (l.drop i) ρ') D, ⟨l.length, by simp, Nat.zero_le _, ρ0, G0, o0, Same.refl _, q0⟩, ?_⟩
  rintro i n σ1 H1 ⟨rfl, hi, ρ1, G1, o1, s1, q1⟩
  obtain ⟨j1, j2, j3⟩ := hJ i B ρ1 σ1 H1 G1 rfl o1 s1
  by_cases hlt : i < l.length
  · refine .inr ⟨j1 hlt, fun σ' H' => i + 1 ≤ l.length ∧ ∃ ρ' G', Ok κ B ρ' σ' H' G' ∧ Same G0 G' ∧ PstS κ W B G' (forL g b (l.drop (i + 1)) ρ') D, fun σ' H' ⟨h1, h2⟩ => ⟨l.length - (i + 1), by omega, rfl, h1, h2⟩, fun x H2 y => ?_⟩
    obtain ⟨G2, o2, s2, _, r2⟩ := j3 l[i] (List.getElem?_eq_getElem hlt) x H2 y
    rw [List.drop_eq_getElem_cons hlt] at q1
    have q1' : PstS κ W B G1 (match g l[i] ρ1 with
      | none => .no
      | some ρ1 => match b ρ1 with
        | .ok .nx ρ2 => forL g b (l.drop (i + 1)) ρ2
        | .ok .ct ρ2 => forL g b (l.drop (i + 1)) ρ2
        | .ok .bk ρ2 => .ok .nx ρ2
        | r => r) D := q1
    cases eg : g l[i] ρ1 with
    | none =>
      rw [eg] at q1'
      exact q1'.elim
    | some ρ2 =>
      rw [eg] at q1'
      dsimp only at q1'
      refine ⟨B, ρ1, G2, l[i], ρ2, a, o2, r2, eg, fun σ3 H3 G3 o3 s3 _ => ⟨B, ρ2, G3, a, o3, ?_⟩⟩
      have s13 := s2.trans s3
      cases eb : b ρ2 with
      | ok f ρ3 =>
        rw [eb] at q1'
        cases f with
        | nx => exact fun σ4 H4 G4 o4 s4 => ⟨hlt, ρ3, G4, o4, (s1.trans s13).trans s4, PstS.mono q1' (s13.trans s4) (fun _ _ z => z) rfl rfl rfl⟩
        | ct => exact fun σ4 H4 G4 o4 s4 => ⟨hlt, ρ3, G4, o4, (s1.trans s13).trans s4, PstS.mono q1' (s13.trans s4) (fun _ _ z => z) rfl rfl rfl⟩
        | bk => exact fun σ4 H4 G4 o4 s4 => q1' σ4 H4 G4 o4 (s13.trans s4)
        | rt r => exact fun v σ4 H4 G4 o4 s4 rv => q1' v σ4 H4 G4 o4 (s13.trans s4) rv
      | ex x ρ3 =>
        rw [eb] at q1'
        exact fun cls d σ4 H4 G4 o4 s4 rx => q1' cls d σ4 H4 G4 o4 (s13.trans s4) rx
      | no =>
        rw [eb] at q1'
        exact q1'.elim
  · have ei : l.drop i = [] := List.drop_eq_nil_iff.mpr (by omega)
    rw [ei] at q1
    exact .inl ⟨j2 (by omega), q1 σ1 H1 G1 o1 (Same.refl _)⟩

/-! ### while, so many turns at most -/
def whileF (c : M Bool) (b : S) : Nat → S
  | 0, _ => .no
  | n + 1, ρ => match c ρ with
    | .ok true ρ1 => match b ρ1 with
      | .ok .nx ρ2 => whileF c b n ρ2
      | .ok .ct ρ2 => whileF c b n ρ2
      | .ok .bk ρ2 => .ok .nx ρ2
      | r => r
    | .ok false ρ1 => .ok .nx ρ1
    | .ex x ρ1 => .ex x ρ1
    | .no => .no
def sWhile (fuel : List SD → Nat) (c : M Bool) (b : S) : S := fun ρ => whileF c b (fuel ρ) ρ
theorem s_while {c : Expr} {t : M Bool} {b : S} {body : List Stmt} (fuel : List SD → Nat) (hp : PassesOwn (model X.prog X.w) X.A X.env X.xe) (hc : PT X c (tT κ W t)) (hb : PSs X body (tS κ A W b)) : PS X (.While c body [] pos) (tS κ A W (sWhile fuel t b)) := by
  refine PS.imp (ps_while hp hc hb) fun D σ H ⟨B, ρ, G, a, o, q⟩ => ?_
  refine ⟨fun n σ' H' => ∃ ρ' G', Ok κ B ρ' σ' H' G' ∧ PstS κ W B G' (whileF t b n ρ') D, ⟨fuel ρ, ρ, G, o, q⟩, ?_⟩
  rintro n σ1 H1 ⟨ρ1, G1, o1, q1⟩
  cases n with
  | zero => exact q1.elim
  | succ n =>
    have q1' : PstS κ W B G1 (match t ρ1 with
      | .ok true ρ1 => match b ρ1 with
        | .ok .nx ρ2 => whileF t b n ρ2
        | .ok .ct ρ2 => whileF t b n ρ2
        | .ok .bk ρ2 => .ok .nx ρ2
        | r => r
      | .ok false ρ1 => .ok .nx ρ1
      | .ex x ρ1 => .ex x ρ1
      | .no => .no) D := q1
    refine ⟨B, ρ1, G1, o1, ?_⟩
    cases et : t ρ1 with
    | ok k ρ2 =>
      rw [et] at q1'
      intro H2 G2 o2 s2
      cases k with
      | false =>
        refine iteF ?_
        exact q1' σ1 H2 G2 o2 s2
      | true =>
        refine iteT ⟨fun σ' H' => ∃ ρ' G', Ok κ B ρ' σ' H' G' ∧ PstS κ W B G' (whileF t b n ρ') D, fun σ' H' h => ⟨n, Nat.lt_succ_self n, h⟩, B, ρ2, G2, a, o2, ?_⟩
        dsimp only at q1'
        cases eb : b ρ2 with
        | ok f ρ3 =>
          rw [eb] at q1'
          cases f with
          | nx => exact fun σ4 H4 G4 o4 s4 => ⟨ρ3, G4, o4, PstS.mono q1' (s2.trans s4) (fun _ _ z => z) rfl rfl rfl⟩
          | ct => exact fun σ4 H4 G4 o4 s4 => ⟨ρ3, G4, o4, PstS.mono q1' (s2.trans s4) (fun _ _ z => z) rfl rfl rfl⟩
          | bk => exact fun σ4 H4 G4 o4 s4 => q1' σ4 H4 G4 o4 (s2.trans s4)
          | rt r => exact fun v σ4 H4 G4 o4 s4 rv => q1' v σ4 H4 G4 o4 (s2.trans s4) rv
        | ex x ρ3 =>
          rw [eb] at q1'
          exact fun cls d σ4 H4 G4 o4 s4 rx => q1' cls d σ4 H4 G4 o4 (s2.trans s4) rx
        | no =>
          rw [eb] at q1'
          exact q1'.elim
    | ex x ρ2 =>
      rw [et] at q1'
      exact fun cls d H' G' o' s' rx => q1' cls d σ1 H' G' o' s' rx
    | no =>
      rw [et] at q1'
      exact q1'.elim
end
end Fm
set_option maxHeartbeats 3900000
namespace Fm
open L2 PySem PySem.Spec PyProof.Rows

/-! ### comprehensions -/
def wipeR (ρ : List SD) : List Nat → List SD
  | [] => ρ
  | v :: vs => (wipeR ρ vs).set v .un
/-- ρ' with the slots vs as in ρ -/
def unw (ρ ρ' : List SD) : List Nat → List SD
  | [] => ρ'
  | v :: vs => (unw ρ ρ' vs).set v (ρ.getD v .un)
theorem wipeR_len (ρ : List SD) : ∀ vs : List Nat, (wipeR ρ vs).length = ρ.length
  | [] => rfl
  | v :: vs => by
    show ((wipeR ρ vs).set v .un).length = ρ.length
    rw [List.length_set, wipeR_len ρ vs]
theorem unw_len (ρ ρ' : List SD) : ∀ vs : List Nat, (unw ρ ρ' vs).length = ρ'.length
  | [] => rfl
  | v :: vs => by
    show ((unw ρ ρ' vs).set v _).length = ρ'.length
    rw [List.length_set, unw_len ρ ρ' vs]
theorem wipeR_at {ρ : List SD} {j : Nat} {x : SD} : ∀ {vs : List Nat}, (wipeR ρ vs)[j]? = some x → x ≠ .un → j ∉ vs ∧ ρ[j]? = some x
  | [], h, _ => ⟨by simp, h⟩
  | v :: vs, h, n => by
    have h' : ((wipeR ρ vs).set v .un)[j]? = some x := h
    by_cases hj : v = j
    · subst hj
      have hl : v < (wipeR ρ vs).length := by
        have y := (List.getElem?_eq_some_iff.mp h').1
        rw [List.length_set] at y
        exact y
      rw [List.getElem?_set_self hl] at h'
      exact absurd (Option.some.inj h').symm n
    · rw [List.getElem?_set_ne hj] at h'
      obtain ⟨a, b⟩ := wipeR_at h' n
      refine ⟨fun z => ?_, b⟩
      have in_or := List.mem_cons.mp z; rcases in_or with z | z
      · exact hj z.symm
      · exact a z
theorem wipeR_out {ρ : List SD} {j : Nat} : ∀ {vs : List Nat}, j ∉ vs → (wipeR ρ vs)[j]? = ρ[j]?
  | [], _ => rfl
  | v :: vs, h => by
    show ((wipeR ρ vs).set v .un)[j]? = ρ[j]?
    rw [List.getElem?_set_ne (fun z => h (by rw [z]; exact List.mem_cons_self ..)), wipeR_out fun z => h (List.mem_cons_of_mem _ z)]
theorem unw_in {ρ ρ' : List SD} {j : Nat} (hl : ρ'.length = ρ.length) : ∀ {vs : List Nat}, j ∈ vs → (unw ρ ρ' vs)[j]? = ρ[j]?
  | v :: vs, h => by
    show ((unw ρ ρ' vs).set v (ρ.getD v .un))[j]? = ρ[j]?
    by_cases hj : v = j
    · subst hj
      by_cases hv : v < ρ.length
      · rw [List.getElem?_set_self (by rw [unw_len, hl]; exact hv), List.getD_eq_getElem?_getD, List.getElem?_eq_getElem hv]
        rfl
      · rw [List.getElem?_eq_none_iff.mpr (by rw [List.length_set, unw_len, hl]; omega), List.getElem?_eq_none_iff.mpr (by omega)]
    · rw [List.getElem?_set_ne hj]
      refine unw_in hl ?_
      have in_or := List.mem_cons.mp h; rcases in_or with z | z
      · exact absurd z.symm hj
      · exact z
theorem unw_out {ρ ρ' : List SD} {j : Nat} : ∀ {vs : List Nat}, j ∉ vs → (unw ρ ρ' vs)[j]? = ρ'[j]?
  | [], _ => rfl
  | v :: vs, h => by
    show ((unw ρ ρ' vs).set v _)[j]? = ρ'[j]?
    rw [List.getElem?_set_ne (fun z => h (by rw [z]; exact List.mem_cons_self ..)), unw_out fun z => h (List.mem_cons_of_mem _ z)]
def lcL (vs : List Nat) (tg : D → List SD → Option (List SD)) (tt : M Bool) (te : M SD) : List D → List D → M (List D)
  | [], acc, ρ => .ok acc ρ
  | d :: l, acc, ρ => match tg d (wipeR ρ vs) with
    | none => .no
    | some ρ1 => match tt ρ1 with
      | .ok false ρ2 => lcL vs tg tt te l acc (unw ρ ρ2 vs)
      | .ok true ρ2 => match fE te ρ2 with
        | .ok y ρ3 => if acc.length < 1000000 then lcL vs tg tt te l (acc ++ [y]) (unw ρ ρ3 vs) else .no
        | _ => .no
      | _ => .no
def mLc (it : M (List D)) (vs : List Nat) (tg : D → List SD → Option (List SD)) (tt : M Bool) (te : M SD) : M SD := it.bind fun l => (lcL vs tg tt te l []).bind fun acc => M.ret (.ow (.lst false acc))

open Classical in
/-- the heap without the objects of the slots -/
noncomputable def hidS (ρ : List SD) (σ : L2.St) (H : Hp) : Hp := fun a => if ∃ (j : Nat) (d : D), ρ[j]? = some (SD.ow d) ∧ σ[j]? = some (some (V.ref a)) then none else noT H a
section
variable {κ : Ctx} {B : Bas} {ρ ρ' : List SD} {σ σ' : L2.St} {H G H' G' : Hp}
theorem hidS_in {a : Addr} {j : Nat} {d : D} (h1 : ρ[j]? = some (SD.ow d)) (h2 : σ[j]? = some (some (V.ref a))) : hidS ρ σ H a = none := if_pos ⟨j, d, h1, h2⟩
theorem hidS_out {a : Addr} (h : ∀ (j : Nat) (d : D), ρ[j]? = some (SD.ow d) → σ[j]? ≠ some (some (V.ref a))) : hidS ρ σ H a = noT H a := if_neg fun ⟨j, d, h1, h2⟩ => h j d h1 h2
theorem hidS_none {a : Addr} (h : hidS ρ σ H a = none) : (∃ (j : Nat) (d : D), ρ[j]? = some (SD.ow d) ∧ σ[j]? = some (some (V.ref a))) ∨ noT H a = none := by
  by_cases z : ∃ (j : Nat) (d : D), ρ[j]? = some (SD.ow d) ∧ σ[j]? = some (some (V.ref a))
  · exact .inl z
  · refine .inr ?_
    have e : hidS ρ σ H a = noT H a := if_neg z
    rw [← e, h]
theorem hidS_some {a : Addr} {u : HO} (h : hidS ρ σ H a = some u) : H a = some u ∧ ∀ ps, u ≠ .tbl ps := by
  unfold hidS at h
  split at h
  · cases h
  · exact noT_some h
/-- a base laid anew: what the slots vs hold is out of sight -/
noncomputable def Bas.at_ (B : Bas) (ρ : List SD) (σ : L2.St) (H G : Hp) (vs : List Nat) : Bas := ⟨hidS (wipeR ρ vs) σ H, G, B.T, []⟩
theorem seen_noT {B : Bas} {H G : Hp} (k : Frame κ B H G) {a : Addr} (h : B.H a ≠ none) : noT H a ≠ none := by
  obtain ⟨u, _, n, e⟩ := k.obj h
  rw [noT_of e n]
  exact fun z => nomatch z
theorem seen_eq {B : Bas} {H G : Hp} (k : Frame κ B H G) {a : Addr} (h : B.H a ≠ none) : noT H a = H a := by
  obtain ⟨u, _, n, e⟩ := k.obj h
  rw [noT_of e n, e]
theorem Ok.rebase (o : Ok κ B ρ σ H G) (vs : List Nat) : Ok κ (B.at_ ρ σ H G vs) (wipeR ρ vs) (wipe σ vs) H G := by
  have sl : ∀ {j : Nat}, j ∉ vs → (wipe σ vs)[j]? = σ[j]? := fun h => wipe_out h
  refine ⟨⟨fun a u e _ => (hidS_some e).1, fun a ps e => (hidS_some e).2 ps rfl, fun a _ => rfl, Same.refl G, o.fr.gh, o.fr.notb, o.fr.tabs, fun a h => ?_⟩, by rw [wipe_length, wipeR_len]; exact o.len, fun j d e => ?_, fun j d e => ?_, fun i j p d e hij h1 h2 h3 h4 => ?_, fun i p h => nomatch h⟩
  · show hidS (wipeR ρ vs) σ H a ≠ none
    have hb := o.fr.lent a h
    rw [hidS_out fun j d e1 e2 => ?_]
    · exact seen_noT o.fr hb
    · obtain ⟨_, e3⟩ := wipeR_at e1 (by simp)
      obtain ⟨q, q1, _, q3, _⟩ := o.own j d e3
      rw [e2] at q1
      cases q1
      exact hb q3
  · obtain ⟨n, e1⟩ := wipeR_at e (by simp)
    rw [sl n]
    exact o.val j d e1
  · obtain ⟨n, e1⟩ := wipeR_at e (by simp)
    obtain ⟨p, h1, h2, h3, h4⟩ := o.own j d e1
    exact ⟨p, (sl n).trans h1, h2, hidS_in (by rw [wipeR_out n]; exact e1) h1, h4⟩
  · obtain ⟨n1, e1⟩ := wipeR_at h1 (by simp)
    obtain ⟨n2, e2⟩ := wipeR_at h2 (by simp)
    rw [sl n1] at h3
    rw [sl n2] at h4
    exact o.sep i j p d e hij e1 e2 h3 h4
theorem Ok.back (o : Ok κ B ρ σ H G) {vs : List Nat} (o2 : Ok κ (B.at_ ρ σ H G vs) ρ' σ' H' G') (hw : wipe σ' vs = wipe σ vs) : Ok κ B (unw ρ ρ' vs) σ H' G' := by
  have sl : ∀ {j : Nat}, j ∉ vs → σ'[j]? = σ[j]? := fun {j} h => by
    have z : (wipe σ' vs)[j]? = (wipe σ vs)[j]? := by rw [hw]
    rwa [wipe_out h, wipe_out h] at z
  have hlen : ρ'.length = ρ.length := by
    have a := congrArg List.length hw
    rw [wipe_length, wipe_length] at a
    rw [← o2.len, ← o.len, a]
  -- what is not a slot's own is seen
  have seen : ∀ {a : Addr}, B.H a ≠ none → hidS (wipeR ρ vs) σ H a = H a := fun {a} h => (seen_eq o.fr h) ▸ hidS_out fun j d e1 e2 => by
    obtain ⟨_, e3⟩ := wipeR_at e1 (by simp)
    obtain ⟨q, q1, _, q3, _⟩ := o.own j d e3
    rw [e2] at q1
    cases q1
    exact h q3
  have bnone : ∀ {a : Addr}, hidS (wipeR ρ vs) σ H a = none → B.H a = none := fun {a} h => by
    rcases hidS_none h with ⟨j, d, e1, e2⟩ | h
    · obtain ⟨_, e3⟩ := wipeR_at e1 (by simp)
      obtain ⟨q, q1, _, q3, _⟩ := o.own j d e3
      rw [e2] at q1
      cases q1
      exact q3
    · exact Classical.byContradiction fun z => seen_noT o.fr z h
  -- a slot of vs that owns: its object is seen
  have hid : ∀ {j : Nat} {d : D} {p : Addr}, j ∈ vs → ρ[j]? = some (SD.ow d) → σ[j]? = some (some (V.ref p)) → hidS (wipeR ρ vs) σ H p = H p := fun {j d p} hj e1 e2 => by
    have z : hidS (wipeR ρ vs) σ H p = noT H p := hidS_out fun i c z1 z2 => by
      obtain ⟨n, z3⟩ := wipeR_at z1 (by simp)
      have ne : i ≠ j := fun q => n (by rw [q]; exact hj)
      exact o.sep i j p c d ne z3 e1 z2 e2
    obtain ⟨q, q1, _, _, q4⟩ := o.own j d e1
    rw [e2] at q1
    cases q1
    obtain ⟨u, u1, u2, _⟩ := q4.obj
    rw [z, noT_of u1 u2, u1]
  refine ⟨⟨fun a u e n => ?_, o.fr.nt, fun a e => ?_, o.fr.sub.trans o2.fr.sub, o2.fr.gh, o2.fr.notb, o2.fr.tabs, o.fr.lent⟩, by rw [unw_len, hlen]; exact o.len, fun j d e => ?_, fun j d e => ?_, fun i j p d e hij h1 h2 h3 h4 => ?_, o.anch⟩
  · have h1 := o.fr.keep a u e n
    exact o2.fr.keep a u ((seen (by rw [e]; simp)).trans h1) n
  · refine (o2.fr.frz a ?_).trans (o.fr.frz a e)
    show hidS (wipeR ρ vs) σ H a ≠ none
    rw [seen e]
    exact o.fr.there a e
  · by_cases hj : j ∈ vs
    · rw [unw_in hlen hj] at e
      obtain ⟨v, h1, h2⟩ := o.val j d e
      exact ⟨v, h1, Rep.mono (.of o2.fr.sub) d h2⟩
    · rw [unw_out hj] at e
      obtain ⟨v, h1, h2⟩ := o2.val j d e
      exact ⟨v, (sl hj).symm.trans h1, h2⟩
  · by_cases hj : j ∈ vs
    · rw [unw_in hlen hj] at e
      obtain ⟨p, h1, h2, h3, h4⟩ := o.own j d e
      obtain ⟨u, u1, u2, _⟩ := h4.obj
      have hs := hid hj e h1
      have k := o2.fr.keep p u (hs.trans u1) u2
      have g := o2.fr.frz p (by show hidS (wipeR ρ vs) σ H p ≠ none; rw [hs, u1]; simp)
      exact ⟨p, h1, g.trans h2, h3, h4.mono o2.fr.sub (k.trans u1.symm)⟩
    · rw [unw_out hj] at e
      obtain ⟨p, h1, h2, h3, h4⟩ := o2.own j d e
      exact ⟨p, (sl hj).symm.trans h1, h2, bnone h3, h4⟩
  · have cross : ∀ {i j : Nat} {d e : D} {p : Addr}, i ∈ vs → j ∉ vs → ρ[i]? = some (SD.ow d) → ρ'[j]? = some (SD.ow e) → σ[i]? = some (some (V.ref p)) → σ[j]? = some (some (V.ref p)) → False := fun {i j d e p} hi hj e1 e2 e3 e4 => by
      obtain ⟨q, q1, _, q3, _⟩ := o2.own j e e2
      rw [sl hj, e4] at q1
      cases q1
      have hs := hid hi e1 e3
      obtain ⟨q', w1, _, _, w4⟩ := o.own i d e1
      rw [e3] at w1
      cases w1
      obtain ⟨u, u1, _⟩ := w4.obj
      have q3 : hidS (wipeR ρ vs) σ H p = none := q3
      rw [hs, u1] at q3
      cases q3
    by_cases hi : i ∈ vs <;> by_cases hj : j ∈ vs
    · rw [unw_in hlen hi] at h1
      rw [unw_in hlen hj] at h2
      exact o.sep i j p d e hij h1 h2 h3 h4
    · rw [unw_in hlen hi] at h1
      rw [unw_out hj] at h2
      exact cross hi hj h1 h2 h3 h4
    · rw [unw_out hi] at h1
      rw [unw_in hlen hj] at h2
      exact cross hj hi h2 h1 h4 h3
    · rw [unw_out hi] at h1
      rw [unw_out hj] at h2
      exact o2.sep i j p d e hij h1 h2 ((sl hi).trans h3) ((sl hj).trans h4)
/-- a list that no slot holds grows -/
theorem Ok.grow (o : Ok κ B ρ σ H G) {p : Addr} {xs ys : List V} (hp : H p = some (.lst xs)) (hg : G p = none) (hb : B.H p = none) (na : ∀ (j : Nat) (d : D), ρ[j]? = some (SD.ow d) → σ[j]? ≠ some (some (V.ref p))) : Ok κ B ρ σ (upd H p (.lst ys)) G := by
  have nb : ∀ a, B.H a ≠ none → a ≠ p := fun a z y => z (by rw [y]; exact hb)
  refine ⟨⟨fun a u e n => by rw [upd_ne (nb a (by rw [e]; simp))]; exact o.fr.keep a u e n, o.fr.nt, o.fr.frz, o.fr.sub, fun a u e => ?_, o.fr.notb, fun t ht => ?_, o.fr.lent⟩, o.len, o.val, fun j d e => ?_, o.sep, o.anch⟩
  · have n : a ≠ p := fun y => by
      rw [y, hg] at e
      cases e
    rw [upd_ne n]
    exact o.fr.gh a u e
  · obtain ⟨ps, t1, t2, t3⟩ := o.fr.tabs t ht
    have n1 : t.1 ≠ p := fun y => by
      rw [y, hp] at t1
      cases t1
    refine ⟨ps, by rw [upd_ne n1]; exact t1, t2, fun pos cv hc => ?_⟩
    obtain ⟨c, c1, c2⟩ := t3 pos cv hc
    have n2 : c ≠ p := fun y => by
      rw [y, hp] at c2
      unfold LamX.CodeO at c2
      cases c2
    exact ⟨c, c1, by rw [upd_ne n2]; exact c2⟩
  · obtain ⟨q, q1, q2, q3, q4⟩ := o.own j d e
    have nq : q ≠ p := fun y => na j d e (by rw [q1, y])
    exact ⟨q, q1, q2, q3, q4.mono (Same.refl _) (upd_ne nq)⟩
theorem Pst.sub {α : Type} {W : WX} {B : Bas} {σ : L2.St} {G G2 : Hp} {r : Rs α} {k : α → List SD → Hp → Hp → Prop} (h : Pst κ W B σ G r k) (s : Same G G2) : Pst κ W B σ G2 r k := by
  cases r with
  | ok a ρ' => exact fun H' G' o e => h H' G' o (s.trans e)
  | ex x ρ' => exact fun cls d H' G' o e q => h cls d H' G' o (s.trans e) q
  | no => exact h
theorem wipe_in {τ : L2.St} {j : Nat} : ∀ {us : List Nat}, j ∈ us → (wipe τ us)[j]? = if j < τ.length then some none else none
  | u :: us, hm => by
    show ((wipe τ us).set u none)[j]? = _
    by_cases hu : u = j
    · subst hu
      by_cases hl : u < τ.length
      · rw [List.getElem?_set_self (by rw [wipe_length]; exact hl), if_pos hl]
      · rw [List.getElem?_eq_none_iff.mpr (by rw [List.length_set, wipe_length]; omega), if_neg hl]
    · rw [List.getElem?_set_ne hu]
      refine wipe_in ?_
      have in_or := List.mem_cons.mp hm; rcases in_or with q | q
      · exact absurd q.symm hu
      · exact q
theorem wipe_wipe (τ : L2.St) (vs : List Nat) : wipe (wipe τ vs) vs = wipe τ vs := by
  apply List.ext_getElem?
  intro j
  by_cases hj : j ∈ vs
  · rw [wipe_in hj, wipe_in hj, wipe_length]
  · rw [wipe_out hj]
def lcE (acc : List D) : M SD := M.ret (SD.ow (.lst false acc))
/-- what stands between the turns of a comprehension whose list is at p -/
structure LcI (κ : Ctx) (W : WX) (B : Bas) (σ : L2.St) (G0 : Hp) (p : Addr) (vs : List Nat) (g : D → List SD → Option (List SD)) (tt : M Bool) (te : M SD) (Q : VK) (l acc : List D) (ρ : List SD) (H G : Hp) (ws : List V) : Prop where
  ok : Ok κ B ρ σ H G
  sub : Same G0 G
  gn : G p = none
  bn : B.H p = none
  at_ : H p = some (.lst ws)
  rep : RepL κ B.T G acc ws
  na : ∀ (j : Nat) (d : D), ρ[j]? = some (SD.ow d) → σ[j]? ≠ some (some (V.ref p))
  go : Pst κ W B σ G ((lcL vs g tt te l acc).bind lcE ρ) fun r ρ' H' G' => ∀ v, RepR κ B ρ' σ H' G' r v → Q v H'
section
variable {W : WX} {G0 : Hp} {p : Addr} {vs : List Nat} {g : D → List SD → Option (List SD)} {tt : M Bool} {te : M SD} {Q : VK} {l acc : List D} {ws : List V}
theorem LcI.seen (I : LcI κ W B σ G0 p vs g tt te Q l acc ρ H G ws) : hidS (wipeR ρ vs) σ H p = some (.lst ws) := by
  rw [hidS_out fun j d e1 e2 => I.na j d (wipeR_at e1 (by simp)).2 e2]
  exact noT_of I.at_ fun ps z => by cases z
/-- behind a turn's element or test -/
theorem LcI.turned (I : LcI κ W B σ G0 p vs g tt te Q l acc ρ H G ws) {ρ3 : List SD} {σ3 : L2.St} {H4 G4 : Hp} (o4 : Ok κ (B.at_ ρ σ H G vs) ρ3 σ3 H4 G4) (hw : wipe σ3 vs = wipe σ vs) :
    Ok κ B (unw ρ ρ3 vs) σ H4 G4 ∧ Same G G4 ∧ G4 p = none ∧ H4 p = some (.lst ws) ∧ ∀ (j : Nat) (d : D), (unw ρ ρ3 vs)[j]? = some (SD.ow d) → σ[j]? ≠ some (some (V.ref p)) := by
  have hD := I.seen
  have hlen : ρ3.length = ρ.length := by
    have a := congrArg List.length hw
    rw [wipe_length, wipe_length] at a
    rw [← o4.len, ← I.ok.len, a]
  refine ⟨I.ok.back o4 hw, o4.fr.sub, (o4.fr.frz p (by show hidS (wipeR ρ vs) σ H p ≠ none; rw [hD]; simp)).trans I.gn, o4.fr.keep p _ hD (fun ps z => by cases z), fun j d e1 e2 => ?_⟩
  by_cases hj : j ∈ vs
  · rw [unw_in hlen hj] at e1
    exact I.na j d e1 e2
  · rw [unw_out hj] at e1
    obtain ⟨p', w1, w2, w3, w4⟩ := o4.own j d e1
    have sl : σ3[j]? = σ[j]? := by
      have a : (wipe σ3 vs)[j]? = (wipe σ vs)[j]? := by rw [hw]
      rwa [wipe_out hj, wipe_out hj] at a
    rw [sl, e2] at w1
    cases w1
    have w3 : hidS (wipeR ρ vs) σ H p = none := w3
    rw [hD] at w3
    cases w3
end
/-- the reading of a comprehension -/
theorem lc_ok {W W0 : WX} {A vs : List Nat} {it : M (List D)} {g : D → List SD → Option (List SD)} {tt : M Bool} {te : M SD} {Q : VK} (h : tE κ W (mLc it vs g tt te) σ H Q) : tLc (tI κ W it) (tG κ A vs g) (tT κ W0 tt) (tE κ W0 te) vs σ H Q := by
  obtain ⟨B, ρ, G, o, q⟩ := h
  refine ⟨B, ρ, G, o, Pst.mono (Pst.bind q) fun l ρ0 H0 G0 o0 s0 q0 J hJ p hp => ?_⟩
  refine ⟨fun i n H1 => n = l.length - i ∧ i ≤ l.length ∧ ∃ acc ρ1 G1 ws, LcI κ W B σ G0 p vs g tt te Q (l.drop i) acc ρ1 H1 G1 ws,
    ⟨l.length, by simp, Nat.zero_le _, [], ρ0, G0, [], ⟨o0.allocOwn hp, Same.refl _, o0.gnone hp, o0.bnone hp, upd_same, rfl, fun j d e => o0.apart hp j d e, q0⟩⟩, ?_⟩
  rintro i n H1 ⟨rfl, hi, acc, ρ1, G1, ws, I⟩
  obtain ⟨j1, j2, _⟩ := hJ i B ρ1 σ H1 G1 rfl I.ok I.sub
  by_cases hlt : i < l.length
  · refine .inr ⟨j1 hlt, fun H' => i + 1 ≤ l.length ∧ ∃ acc ρ1 G1 ws, LcI κ W B σ G0 p vs g tt te Q (l.drop (i + 1)) acc ρ1 H' G1 ws, fun H' ⟨h1, h2⟩ => ⟨l.length - (i + 1), by omega, rfl, h1, h2⟩, fun x H2 y => ?_⟩
    have ob := I.ok.rebase vs
    obtain ⟨_, _, jb⟩ := hJ i _ _ _ H1 G1 (show (B.at_ ρ1 σ H1 G1 vs).T = B.T from rfl) ob I.sub
    obtain ⟨G2, o2, s2, sH, r2⟩ := jb l[i] (List.getElem?_eq_getElem hlt) x H2 y
    have q1 := I.go
    rw [List.drop_eq_getElem_cons hlt] at q1
    have fail : lcL vs g tt te (l[i] :: l.drop (i + 1)) acc ρ1 = .no → False := fun z => by
      unfold M.bind at q1
      rw [z] at q1
      exact q1.elim
    cases eg : g l[i] (wipeR ρ1 vs) with
    | none => exact (fail (by rw [lcL]; simp only [eg])).elim
    | some ρ2 =>
      refine ⟨B.at_ ρ1 σ H1 G1 vs, wipeR ρ1 vs, G2, l[i], ρ2, (fun z (hz : z ∈ ([] : List (Nat × Addr))) => by cases hz), o2, r2, eg, fun σ3 H3 G3 o3 s3 hw => ?_⟩
      refine ⟨hw.trans (wipe_wipe σ vs), ?_⟩
      have hw' : wipe σ3 vs = wipe σ vs := hw.trans (wipe_wipe σ vs)
      cases et : tt ρ2 with
      | ex x0 ρ3 => exact (fail (by rw [lcL]; simp only [eg, et])).elim
      | no => exact (fail (by rw [lcL]; simp only [eg, et])).elim
      | ok k ρ3 =>
        refine ⟨_, ρ2, G3, o3, ?_⟩
        rw [et]
        intro H4 G4 o4 s4
        cases k with
        | false =>
          obtain ⟨t1, t2, t3, t4, t5⟩ := I.turned o4 hw'
          refine iteF ⟨hlt, acc, unw ρ1 ρ3 vs, G4, ws, ⟨t1, I.sub.trans t2, t3, I.bn, t4, RepL.mono (.of t2) acc I.rep, t5, Pst.sub ?_ t2⟩⟩
          have z : lcL vs g tt te (l[i] :: l.drop (i + 1)) acc ρ1 = lcL vs g tt te (l.drop (i + 1)) acc (unw ρ1 ρ3 vs) := by
            rw [lcL]
            simp only [eg, et]
          unfold M.bind at q1 ⊢
          rw [z] at q1
          exact q1
        | true =>
          refine iteT ?_
          cases ee : fE te ρ3 with
          | ex x0 ρ5 => exact (fail (by rw [lcL]; simp only [eg, et, ee])).elim
          | no => exact (fail (by rw [lcL]; simp only [eg, et, ee])).elim
          | ok d ρ5 =>
            by_cases hl : acc.length < 1000000
            · refine tE_fz (k := fun d' ρ' _ _ => d' = d ∧ ρ' = ρ5) o4 (by rw [ee]; exact fun _ _ _ _ => ⟨rfl, rfl⟩) fun d' ρ' H6 G6 o6 s6 e6 v rv => ?_
              obtain ⟨rfl, rfl⟩ := e6
              obtain ⟨t1, t2, t3, t4, t5⟩ := I.turned o6 hw'
              have rA := RepL.mono (.of t2) acc I.rep
              refine ⟨ws, t4, by rw [rA.length]; exact Nat.lt_of_lt_of_le hl (by rw [sizeLine_eq]; decide), hlt, acc ++ [d'], unw ρ1 ρ' vs, G6, ws ++ [v], ⟨t1.grow t4 t3 I.bn t5, I.sub.trans t2, t3, I.bn, upd_same, rA.append (RepL.one rv), t5, Pst.sub ?_ t2⟩⟩
              have z : lcL vs g tt te (l[i] :: l.drop (i + 1)) acc ρ1 = lcL vs g tt te (l.drop (i + 1)) (acc ++ [d']) (unw ρ1 ρ' vs) := by
                rw [lcL]
                simp only [eg, et, ee, if_pos hl]
              unfold M.bind at q1 ⊢
              rw [z] at q1
              exact q1
            · exact (fail (by rw [lcL]; simp only [eg, et, ee, if_neg hl])).elim
  · have ei : l.drop i = [] := List.drop_eq_nil_iff.mpr (by omega)
    refine .inl ⟨j2 (by omega), ?_⟩
    have q1 := I.go
    rw [ei] at q1
    have q2 : Pst κ W B σ G1 (Rs.ok (SD.ow (.lst false acc)) ρ1) fun r ρ' H' G' => ∀ v, RepR κ B ρ' σ H' G' r v → Q v H' := q1
    exact q2 H1 G1 I.ok (Same.refl _) _ ⟨p, rfl, I.gn, I.bn, ⟨ws, I.at_, I.rep⟩, I.na⟩
end
/-- no exception leaves a comprehension -/
abbrev Wno : WX := fun _ _ _ _ => False
section
variable {X : Cx} {κ : Ctx} {A : List Nat} {W : WX} {iter elt tg : Expr} {ifs : List Expr} {scope : Scope} {own : List (Str × Nat)} {pos : Pos} {it : M (List D)} {g : D → List SD → Option (List SD)} {tt : M Bool} {te : M SD}
theorem ts_nil : PTs X [] (tT κ W (M.ret true)) := ⟨fun pins s σ H Q I ⟨B, ρ, G, o, q⟩ => pts_nil.run pins s σ H Q I (Pst.ret q o)⟩
theorem ts_one {c : Expr} {t : M Bool} (h : PT X c (tT κ W t)) : PTs X [c] (tT κ W t) := pts_one h
theorem e_lc (hc : X.calm = true) (hN : X.N.Nodup) (hi : PI X tg iter (tI κ W it)) (ok : BlkOk X.N X.env.scope scope own)
    (hg : ∀ (s : Shared) (H : Hp) (C : Addr) (cl : List (Str × Addr)) (fp : List Addr), PG (X.blk s H scope (compEnvC scope cl C X.env) fp) tg (tG κ A (own.map (·.2)) g))
    (ht : ∀ (s : Shared) (H : Hp) (C : Addr) (cl : List (Str × Addr)) (fp : List Addr), PTs (X.blk s H scope (compEnvC scope cl C X.env) fp) ifs (tT κ Wno tt))
    (he : ∀ (s : Shared) (H : Hp) (C : Addr) (cl : List (Str × Addr)) (fp : List Addr), PE (X.blk s H scope (compEnvC scope cl C X.env) fp) elt (tE κ Wno te)) (hs : ∀ x, foldedSetIterable iter X.env x = pure x := by intro _; rfl) :
    PE X (.ListComp elt [⟨tg, iter, ifs, 0⟩] scope pos) (tE κ W (mLc it (own.map (·.2)) g tt te)) := PE.imp (pe_lc hc hN hi ok hg ht he hs) fun _ _ _ => lc_ok
theorem s_setLc {i : Nat} {y : Str} {py spos : Pos} (hc : X.calm = true) (hN : X.N.Nodup) (hy : X.N[i]? = some y) (hyl : X.env.scope.names.lookup y = some .local)
    (hsw : swapsWith (.ListComp elt [⟨tg, iter, ifs, 0⟩] scope pos) (some (.Name y py)) spos.line X.env = pure true) (hi : PI X tg iter (tI κ W it)) (ok : BlkOk X.N X.env.scope scope own)
    (hg : ∀ (s : Shared) (H : Hp) (C : Addr) (cl : List (Str × Addr)) (fp : List Addr), PG (X.blk s H scope (compEnvC scope cl C X.env) fp) tg (tG κ A (own.map (·.2)) g))
    (ht : ∀ (s : Shared) (H : Hp) (C : Addr) (cl : List (Str × Addr)) (fp : List Addr), PTs (X.blk s H scope (compEnvC scope cl C X.env) fp) ifs (tT κ Wno tt))
    (he : ∀ (s : Shared) (H : Hp) (C : Addr) (cl : List (Str × Addr)) (fp : List Addr), PE (X.blk s H scope (compEnvC scope cl C X.env) fp) elt (tE κ Wno te)) (n : A.contains i = false := by rfl) (hs : ∀ x, foldedSetIterable iter X.env x = pure x := by intro _; rfl) :
    PS X (.Assign [.Name y py] (.ListComp elt [⟨tg, iter, ifs, 0⟩] scope pos) spos) (tS κ A W (sSet i (mLc it (own.map (·.2)) g tt te))) := by
  refine PS.imp (ps_setLc hc hN hy hyl hsw hi ok hg ht he hs) fun D σ H ⟨B, ρ, G, a, o, q⟩ => ?_
  refine lc_ok ⟨B, ρ, G, o, Pst.mono (PstS.bind q) fun r ρ' H' G' o' s q' v rv => ?_⟩
  exact q' _ H' G' (o'.set i rv (not_anch a n)) (Same.refl G')
end
end Fm
set_option maxHeartbeats 3900000
namespace Fm
open L2 PySem PySem.Spec PyProof.Rows

/-! ### numbers -/
def mulG (i j : Int) : Prop := i.natAbs.log2 + j.natAbs.log2 < 1000000
instance (i j : Int) : Decidable (mulG i j) := by unfold mulG; exact inferInstance
def divG (i j : Int) : Prop := j ≠ 0 ∧ (j.natAbs.log2 < 9000 ∨ i.natAbs.log2 ≤ j.natAbs.log2 + 4000)
instance (i j : Int) : Decidable (divG i j) := by unfold divG; exact inferInstance
def powG (i j : Int) : Prop := 0 ≤ j ∧ j ≤ 1000000 ∧ i.natAbs < 2 ^ 64
instance (i j : Int) : Decidable (powG i j) := by unfold powG; exact inferInstance
theorem divG.slow {i j : Int} (h : divG i j) : Builtin.divisionGoesByPylong i j = false := by
  rcases h.2 with h2 | h2
  · exact PyProof.noPylong_of_log2 h2
  · show (decide ((if j == 0 then 0 else j.natAbs.log2 / 30 + 1) > 300) && decide ((if i == 0 then 0 else i.natAbs.log2 / 30 + 1) > (if j == 0 then 0 else j.natAbs.log2 / 30 + 1) + 150)) = false
    have hj : (j == 0) = false := by simpa using h.1
    rw [hj]
    have z : (if i == 0 then 0 else i.natAbs.log2 / 30 + 1) ≤ i.natAbs.log2 / 30 + 1 := by split <;> omega
    have y : (if false = true then 0 else j.natAbs.log2 / 30 + 1) = j.natAbs.log2 / 30 + 1 := rfl
    rw [y, Bool.and_eq_false_iff]
    right
    refine decide_eq_false ?_
    have : i.natAbs.log2 / 30 ≤ (j.natAbs.log2 + 4000) / 30 := Nat.div_le_div_right h2
    omega
def subD : D → D → Option SD
  | .int i, .int j => some (.va (.int (i - j)))
  | _, _ => none
def mulD : D → D → Option SD
  | .int i, .int j => if mulG i j then some (.va (.int (i * j))) else none
  | _, _ => none
def modD : D → D → Option SD
  | .int i, .int j => if j = 0 then none else some (.va (.int (i.fmod j)))
  | _, _ => none
def divD : D → D → Option SD
  | .int i, .int j => if divG i j then some (.va (.int (i.fdiv j))) else none
  | _, _ => none
def powD : D → D → Option SD
  | .int i, .int j => if powG i j then some (.va (.int (i ^ j.toNat))) else none
  | _, _ => none
def ltD : D → D → Option SD
  | .int i, .int j => some (.va (.bl (decide (i < j))))
  | _, _ => none
def leD : D → D → Option SD
  | .int i, .int j => some (.va (.bl (decide (i ≤ j))))
  | _, _ => none
def gtD : D → D → Option SD
  | .int i, .int j => some (.va (.bl (decide (j < i))))
  | _, _ => none
def geD : D → D → Option SD
  | .int i, .int j => some (.va (.bl (decide (j ≤ i))))
  | _, _ => none
section
variable {κ : Ctx} {X : Cx}
/-- two ints, a value out -/
theorem opd_I {C : Int → Int → Prop} {gv : Int → Int → V} {g : D → D → Option SD} {gd : Int → Int → D} (hc : ∀ d e z, g d e = some z → ∃ i j, d = .int i ∧ e = .int j ∧ C i j ∧ z = .va (gd i j)) (hr : ∀ i j T G, Rep κ T G (gd i j) (gv i j)) : OpD κ (rI C gv) g := by
  intro B ρ σ H G d e x y z Q o r1 r2 hz q
  obtain ⟨i, j, rfl, rfl, c, rfl⟩ := hc d e z hz
  exact ⟨i, j, r1, r2, c, q _ H G o (Same.refl G) (hr i j _ _)⟩
theorem opd_I0 {gv : Int → Int → V} {g : D → D → Option SD} {gd : Int → Int → D} (hc : ∀ d e z, g d e = some z → ∃ i j, d = .int i ∧ e = .int j ∧ z = .va (gd i j)) (hr : ∀ i j T G, Rep κ T G (gd i j) (gv i j)) : OpD κ (rI0 gv) g := by
  intro B ρ σ H G d e x y z Q o r1 r2 hz q
  obtain ⟨i, j, rfl, rfl, rfl⟩ := hc d e z hz
  exact ⟨i, j, r1, r2, q _ H G o (Same.refl G) (hr i j _ _)⟩
theorem od_sub : OpD κ (rI0 fun i j => .int (i - j)) subD := opd_I0 (gd := fun i j => .int (i - j)) (fun d e z h => by
  cases d <;> cases e <;> first | (cases h; exact ⟨_, _, rfl, rfl, rfl⟩) | cases h) fun _ _ _ _ => rfl
theorem od_lt : OpD κ (rI0 fun i j => .bl (decide (i < j))) ltD := opd_I0 (gd := fun i j => .bl (decide (i < j))) (fun d e z h => by
  cases d <;> cases e <;> first | (cases h; exact ⟨_, _, rfl, rfl, rfl⟩) | cases h) fun _ _ _ _ => rfl
theorem od_le : OpD κ (rI0 fun i j => .bl (decide (i ≤ j))) leD := opd_I0 (gd := fun i j => .bl (decide (i ≤ j))) (fun d e z h => by
  cases d <;> cases e <;> first | (cases h; exact ⟨_, _, rfl, rfl, rfl⟩) | cases h) fun _ _ _ _ => rfl
theorem od_gt : OpD κ (rI0 fun i j => .bl (decide (j < i))) gtD := opd_I0 (gd := fun i j => .bl (decide (j < i))) (fun d e z h => by
  cases d <;> cases e <;> first | (cases h; exact ⟨_, _, rfl, rfl, rfl⟩) | cases h) fun _ _ _ _ => rfl
theorem od_ge : OpD κ (rI0 fun i j => .bl (decide (j ≤ i))) geD := opd_I0 (gd := fun i j => .bl (decide (j ≤ i))) (fun d e z h => by
  cases d <;> cases e <;> first | (cases h; exact ⟨_, _, rfl, rfl, rfl⟩) | cases h) fun _ _ _ _ => rfl
theorem od_mul : OpD κ (rI CMulW fun i j => .int (i * j)) mulD := opd_I (gd := fun i j => .int (i * j)) (fun d e z h => by
  cases d <;> cases e <;> first | (unfold mulD at h; dsimp only at h; split at h; (cases h; exact ⟨_, _, rfl, rfl, by assumption, rfl⟩); cases h) | cases h) fun _ _ _ _ => rfl
theorem od_mod : OpD κ (rI (fun _ j => j ≠ 0) fun i j => .int (i.fmod j)) modD := opd_I (gd := fun i j => .int (i.fmod j)) (fun d e z h => by
  cases d <;> cases e <;> first | (unfold modD at h; dsimp only at h; split at h; cases h; (cases h; exact ⟨_, _, rfl, rfl, by assumption, rfl⟩)) | cases h) fun _ _ _ _ => rfl
theorem op_divX : OpR X (binaryOp .FloorDiv) (rI divG fun i j => .int (i.fdiv j)) := opI fun _ _ _ _ _ _ _ hc q => floordiv_int hc.1 q (.inl hc.slow)
theorem od_div : OpD κ (rI divG fun i j => .int (i.fdiv j)) divD := opd_I (gd := fun i j => .int (i.fdiv j)) (fun d e z h => by
  cases d <;> cases e <;> first | (unfold divD at h; dsimp only at h; split at h; (cases h; exact ⟨_, _, rfl, rfl, by assumption, rfl⟩); cases h) | cases h) fun _ _ _ _ => rfl
theorem od_pow : OpD κ (rI CPow fun i j => .int (i ^ j.toNat)) powD := opd_I (gd := fun i j => .int (i ^ j.toNat)) (fun d e z h => by
  cases d <;> cases e <;> first | (unfold powD at h; dsimp only at h; split at h; (cases h; exact ⟨_, _, rfl, rfl, by assumption, rfl⟩); cases h) | cases h) fun _ _ _ _ => rfl
def negD : D → Option SD
  | .int i => some (.va (.int (-i)))
  | _ => none
theorem ud_neg : UnD κ (rU fun i => .int (-i)) negD := by
  intro B ρ σ H G d x z Q o r hz q
  cases d with
  | int i =>
    cases hz
    exact ⟨i, r, q _ H G o (Same.refl G) rfl⟩
  | _ => cases hz

/-! ### + : ints, texts, tuples, lists -/
def addD : D → D → Option SD
  | .int i, .int j => some (.va (.int (i + j)))
  | .str x, .str y => if x.length + y.length ≤ 1000000 then some (.va (.str (x ++ y))) else none
  | .tup [], .tup _ => none
  | .tup (a :: l), .tup m => if (a :: l).length + m.length ≤ 1000000 then some (.va (.tup (a :: l ++ m))) else none
  | .lst _ l, .lst _ m => if l.length + m.length ≤ 1000000 then some (.ow (.lst false (l ++ m))) else none
  | _, _ => none
theorem line_of {n : Nat} (h : n ≤ 1000000) : n ≤ sizeLine := by rw [sizeLine_eq]; omega
theorem od_add : OpD κ (fun x y H Q => rI0 (fun i j => .int (i + j)) x y H Q ∨ ((fun x y H Q => ∃ i j, x = .str i ∧ y = .str j ∧ i.length + j.length ≤ sizeLine ∧ Q (.str (i ++ j)) H) x y H Q ∨ (rCatT κ.K x y H Q ∨ rCat x y H Q))) addD := by
  intro B ρ σ H G d e x y z Q o r1 r2 hz q
  cases d with
  | int i =>
    cases e with
    | int j =>
      cases hz
      exact .inl ⟨i, j, r1, r2, q _ H G o (Same.refl G) rfl⟩
    | _ => cases hz
  | str a =>
    cases e with
    | str b =>
      have hz' : (if a.length + b.length ≤ 1000000 then some (SD.va (.str (a ++ b))) else none) = some z := hz
      split at hz'
      · cases hz'
        exact .inr (.inl ⟨a, b, r1, r2, line_of (by assumption), q _ H G o (Same.refl G) rfl⟩)
      · cases hz'
    | _ => cases hz
  | tup l =>
    cases e with
    | tup m =>
      cases l with
      | nil => cases hz
      | cons a l =>
        have hz' : (if (a :: l).length + m.length ≤ 1000000 then some (SD.va (.tup (a :: l ++ m))) else none) = some z := hz
        split at hz'
        · cases hz'
          obtain ⟨p, vs, rfl, h1, h2⟩ := r1
          obtain ⟨p', ws, rfl, h3, h4⟩ := r2
          have l1 := h2.length
          have l2 := h4.length
          refine .inr (.inr (.inl ⟨p, p', vs, ws, rfl, rfl, h1.sq o.fr.gh, h3.sq o.fr.gh, (fun n => by (rw [n] at l1; cases l1)), line_of (by rw [l1, l2]; assumption), fun n => ?_, fun n t ht => ?_⟩))
          · have em : m = [] := by
              cases m with
              | nil => rfl
              | cons b m => rw [n] at l2; cases l2
            subst em
            refine q _ H G o (Same.refl G) ?_
            rw [List.append_nil]
            exact ⟨p, vs, rfl, h1, h2⟩
          · have hg := o.gnone ht
            exact q _ _ _ (o.alloc ht fun _ z => by cases z) (Same.upd hg) ⟨t, vs ++ ws, rfl, .inl upd_same, RepL.append (RepL.mono (.of (Same.upd hg)) _ h2) (RepL.mono (.of (Same.upd hg)) _ h4)⟩
        · cases hz'
    | _ => cases l <;> cases hz
  | lst b l =>
    cases e with
    | lst c m =>
      have hz' : (if l.length + m.length ≤ 1000000 then some (SD.ow (.lst false (l ++ m))) else none) = some z := hz
      split at hz'
      · cases hz'
        obtain ⟨p, vs, rfl, ⟨h1, _⟩, h2⟩ := r1
        obtain ⟨p', ws, rfl, ⟨h3, _⟩, h4⟩ := r2
        refine .inr (.inr (.inr ⟨p, p', vs, ws, rfl, rfl, o.fr.gh _ _ h1, o.fr.gh _ _ h3, line_of (by rw [h2.length, h4.length]; assumption), fun t ht => ?_⟩))
        exact q _ _ _ (o.allocOwn ht) (Same.refl G) (o.newOwn ht ⟨_, upd_same, h2.append h4⟩)
      · cases hz'
    | _ => cases hz
  | _ => cases hz
theorem op_addX : OpR X (binaryOp .Add) (fun x y H Q => rI0 (fun i j => .int (i + j)) x y H Q ∨ ((fun x y H Q => ∃ i j, x = .str i ∧ y = .str j ∧ i.length + j.length ≤ sizeLine ∧ Q (.str (i ++ j)) H) x y H Q ∨ (rCatT X.K x y H Q ∨ rCat x y H Q))) :=
  op_add.or (op_add_str.or (op_catT.or op_cat))

/-! ### == and != of plain data -/
mutual
def D.py : D → PyData
  | .bl b => .bool b
  | .int i => .int i
  | .str s => .str s
  | .tup l => .tuple (pyL l)
  | .lst _ l => .list (pyL l)
  | _ => .none
def pyL : List D → List PyData
  | [] => []
  | d :: l => D.py d :: pyL l
end
mutual
/-- plain, and nested n deep at most -/
def D.pl : Nat → D → Bool
  | _, .non => true
  | _, .bl _ => true
  | _, .int _ => true
  | _, .str s => PyData.strOk s
  | 0, .tup _ => false
  | n + 1, .tup l => plL n l
  | 0, .lst _ _ => false
  | n + 1, .lst _ l => plL n l
  | _, _ => false
def plL : Nat → List D → Bool
  | _, [] => true
  | n, d :: l => D.pl n d && plL n l
end
def peq (d e : D) : Bool := PyData.eqv d.py e.py
end
end Fm
set_option maxHeartbeats 200000
namespace Fm
open L2 PySem PySem.Spec PyProof.Rows
section
variable {κ : Ctx} {X : Cx}
mutual
theorem py_can : ∀ (d : D) {n : Nat}, d.pl n = true → d.py.canLay0 = true ∧ d.py.depth ≤ n
  | .non, n, _ => ⟨rfl, Nat.zero_le _⟩
  | .bl b, n, _ => ⟨rfl, Nat.zero_le _⟩
  | .int i, n, _ => ⟨rfl, Nat.zero_le _⟩
  | .str s, n, h => ⟨by cases n <;> exact h, Nat.zero_le _⟩
  | .tup l, 0, h => by cases h
  | .tup l, n + 1, h => by
    obtain ⟨h1, h2⟩ := pyL_can l (n := n) h
    exact ⟨h1, Nat.succ_le_succ h2⟩
  | .lst b l, 0, h => by cases h
  | .lst b l, n + 1, h => by
    obtain ⟨h1, h2⟩ := pyL_can l (n := n) h
    exact ⟨h1, Nat.succ_le_succ h2⟩
  | .dk b l, n, h => by cases n <;> cases h
  | .ins b c l, n, h => by cases n <;> cases h
  | .ty s, n, h => by cases n <;> cases h
  | .adr a, n, h => by cases n <;> cases h
  | .scr l, n, h => by cases n <;> cases h
theorem pyL_can : ∀ (l : List D) {n : Nat}, plL n l = true → PyData.canLayAll0 (pyL l) = true ∧ PyData.depthAll (pyL l) ≤ n
  | [], n, _ => ⟨rfl, Nat.zero_le _⟩
  | d :: l, n, h => by
    have h' : (D.pl n d && plL n l) = true := h
    rw [Bool.and_eq_true] at h'
    obtain ⟨a1, a2⟩ := py_can d h'.1
    obtain ⟨b1, b2⟩ := pyL_can l h'.2
    refine ⟨?_, Nat.max_le.mpr ⟨a2, b2⟩⟩
    show (d.py.canLay0 && PyData.canLayAll0 (pyL l)) = true
    rw [a1, b1] <;> rfl
end
mutual
theorem rep_dp {T : Pd} {G H : Hp} (s : Same G H) : ∀ (d : D) {n : Nat} {v : V}, d.pl n = true → Rep κ T G d v → Dp κ.K H v d.py
  | .non, n, v, _, h => by cases (show v = V.non from h); exact .non
  | .bl b, n, v, _, h => by cases (show v = V.bl b from h); exact .bl b
  | .int i, n, v, _, h => by cases (show v = V.int i from h); exact .int i
  | .str x, n, v, _, h => by cases (show v = V.str x from h); exact .str x
  | .tup l, 0, v, q, h => by cases q
  | .tup l, n + 1, v, q, h => by
    obtain ⟨a, vs, rfl, h1, h2⟩ := h
    exact .tup (h1.sq s) (repL_dp s l (n := n) q h2)
  | .lst b l, 0, v, q, h => by cases q
  | .lst b l, n + 1, v, q, h => by
    obtain ⟨a, vs, rfl, ⟨h1, _⟩, h2⟩ := h
    exact .lst (SqL.of (s _ _ h1)) (repL_dp s l (n := n) q h2)
  | .dk b l, n, v, q, h => by cases n <;> cases q
  | .ins b c l, n, v, q, h => by cases n <;> cases q
  | .ty x, n, v, q, h => by cases n <;> cases q
  | .adr a, n, v, q, h => by cases n <;> cases q
  | .scr l, n, v, q, h => by cases n <;> cases q
theorem repL_dp {T : Pd} {G H : Hp} (s : Same G H) : ∀ (l : List D) {n : Nat} {vs : List V}, plL n l = true → RepL κ T G l vs → DpAll κ.K H vs (pyL l)
  | [], n, vs, _, h => by rw [show vs = [] from h]; exact .nil
  | d :: l, n, vs, q, h => by
    have q' : (D.pl n d && plL n l) = true := q
    rw [Bool.and_eq_true] at q'
    obtain ⟨v, ws, rfl, h1, h2⟩ := h
    exact .cons (rep_dp s d q'.1 h1) (repL_dp s l q'.2 h2)
end
def eqD (d e : D) : Option SD := if d.pl 60 && e.pl 60 then some (.va (.bl (peq d e))) else none
def neD (d e : D) : Option SD := if d.pl 60 && e.pl 60 then some (.va (.bl (!peq d e))) else none
theorem shaped_of {d : D} (h : d.pl 60 = true) : SeqAt.shaped d.py = true := by
  obtain ⟨h1, h2⟩ := py_can d h
  unfold SeqAt.shaped
  rw [h1, decide_eq_true (by omega)]
  rfl
theorem od_eq : OpD κ (rEqD κ.K) eqD := by
  intro B ρ σ H G d e x y z Q o r1 r2 hz q
  unfold eqD at hz
  split at hz
  · rename_i hp
    cases hz
    rw [Bool.and_eq_true] at hp
    exact ⟨d.py, e.py, rep_dp o.fr.gh d hp.1 r1, rep_dp o.fr.gh e hp.2 r2, shaped_of hp.1, shaped_of hp.2, q _ H G o (Same.refl G) rfl⟩
  · cases hz
theorem od_ne : OpD κ (rNeD κ.K) neD := by
  intro B ρ σ H G d e x y z Q o r1 r2 hz q
  unfold neD at hz
  split at hz
  · rename_i hp
    cases hz
    rw [Bool.and_eq_true] at hp
    exact ⟨d.py, e.py, rep_dp o.fr.gh d hp.1 r1, rep_dp o.fr.gh e hp.2 r2, shaped_of hp.1, shaped_of hp.2, q _ H G o (Same.refl G) rfl⟩
  · cases hz
/-- is None, is not None -/
def isnD : D → D → Option SD
  | .non, .non => some (.va (.bl true))
  | .adr _, .non => none
  | _, .non => some (.va (.bl false))
  | _, _ => none
def ntnD : D → D → Option SD
  | .non, .non => some (.va (.bl false))
  | .adr _, .non => none
  | _, .non => some (.va (.bl true))
  | _, _ => none
theorem rep_non {T : Pd} {G : Hp} {d : D} {v : V} (h : Rep κ T G d v) (n : d ≠ .non) : v ≠ .non := fun z => by
  subst z
  cases d with
  | non => exact n rfl
  | bl b => cases (show V.non = V.bl b from h)
  | int b => cases (show V.non = V.int b from h)
  | str b => cases (show V.non = V.str b from h)
  | tup l => obtain ⟨a, vs, e, _⟩ := h; cases e
  | lst b l => obtain ⟨a, vs, e, _⟩ := h; cases e
  | dk b l => obtain ⟨a, vs, e, _⟩ := h; cases e
  | ins b c l => obtain ⟨a, dx, vs, e, _⟩ := h; cases e
  | ty s => cases (show V.non = V.ty s from h)
  | adr a => cases (show V.non = V.ref a from h)
  | scr l => obtain ⟨a, vs, e, _⟩ := h; cases e
theorem od_isn : OpD κ (fun x y H Q => y = .non ∧ Q (.bl (decide (x = .non))) H) isnD := by
  intro B ρ σ H G d e x y z Q o r1 r2 hz q
  cases e with
  | non =>
    refine ⟨r2, ?_⟩
    by_cases n : d = .non
    · subst n
      cases hz
      cases (show x = V.non from r1)
      exact q _ H G o (Same.refl G) rfl
    · rw [decide_eq_false (rep_non r1 n)]
      cases d <;> first | exact (n rfl).elim | (cases hz; exact q _ H G o (Same.refl G) rfl) | cases hz
  | _ => cases d <;> cases hz
theorem od_ntn : OpD κ (fun x y H Q => y = .non ∧ Q (.bl (!decide (x = .non))) H) ntnD := by
  intro B ρ σ H G d e x y z Q o r1 r2 hz q
  cases e with
  | non =>
    refine ⟨r2, ?_⟩
    by_cases n : d = .non
    · subst n
      cases hz
      cases (show x = V.non from r1)
      exact q _ H G o (Same.refl G) rfl
    · rw [decide_eq_false (rep_non r1 n)]
      cases d <;> first | exact (n rfl).elim | (cases hz; exact q _ H G o (Same.refl G) rfl) | cases hz
  | _ => cases d <;> cases hz

/-! ### an item -/
def ixD : D → D → Option SD
  | .tup l, .int i => (atI l i).map SD.va
  | .lst _ l, .int i => (atI l i).map SD.va
  | .str s, .int i => if s.length ≤ 1000000 then (atI s.cps.toList i).map fun c => SD.va (.str ⟨#[c]⟩) else none
  | _, _ => none
theorem atI_rep {T : Pd} {G : Hp} {l : List D} {vs : List V} {i : Int} {d : D} (r : RepL κ T G l vs) (h : atI l i = some d) : ∃ v, atI vs i = some v ∧ Rep κ T G d v := by
  unfold atI at h ⊢
  obtain ⟨j, h1, h2⟩ := Option.bind_eq_some_iff.mp h
  obtain ⟨v, h3, h4⟩ := r.get h2
  rw [r.length, h1]
  exact ⟨v, h3, h4⟩
theorem od_ix : OpD κ (rIx κ.K) ixD := by
  intro B ρ σ H G d e x y z Q o r1 r2 hz q
  cases d with
  | tup l =>
    cases e with
    | int i =>
      obtain ⟨c, h1, rfl⟩ := Option.map_eq_some_iff.mp (show (atI l i).map SD.va = some z from hz)
      obtain ⟨p, vs, rfl, h2, h3⟩ := r1
      obtain ⟨v, h4, h5⟩ := atI_rep h3 h1
      exact .inr (.inl ⟨p, vs, i, v, rfl, r2, h2.sq o.fr.gh, h4, q v H G o (Same.refl G) h5⟩)
    | _ => cases hz
  | lst b l =>
    cases e with
    | int i =>
      obtain ⟨c, h1, rfl⟩ := Option.map_eq_some_iff.mp (show (atI l i).map SD.va = some z from hz)
      obtain ⟨p, vs, rfl, ⟨h2, _⟩, h3⟩ := r1
      obtain ⟨v, h4, h5⟩ := atI_rep h3 h1
      exact .inl ⟨p, vs, i, v, rfl, r2, SqL.of (o.fr.gh _ _ h2), h4, q v H G o (Same.refl G) h5⟩
    | _ => cases hz
  | str s =>
    cases e with
    | int i =>
      have hz' : (if s.length ≤ 1000000 then (atI s.cps.toList i).map fun c => SD.va (.str ⟨#[c]⟩) else none) = some z := hz
      split at hz'
      · obtain ⟨c, h1, rfl⟩ := Option.map_eq_some_iff.mp hz'
        exact .inr (.inr ⟨s, i, c, r1, r2, line_of (by assumption), h1, q _ H G o (Same.refl G) rfl⟩)
      · cases hz'
    | _ => cases hz
  | _ => cases e <;> cases hz

/-! ### built-ins -/
def lenD : List D → Option SD
  | [.tup l] => some (.va (.int l.length))
  | [.lst _ l] => some (.va (.int l.length))
  | [.str s] => if s.length ≤ 1000000 then some (.va (.int s.length)) else none
  | _ => none
theorem cd_len : CallD κ (fun xs H Q => ∃ x n, xs = [x] ∧ LenV κ.K x H n ∧ Q (.int n) H) lenD := by
  intro B ρ σ H G ds xs z Q o r hz q
  unfold lenD at hz
  split at hz
  · rename_i l
    obtain ⟨v, ws, rfl, ⟨p, vs, rfl, h1, h2⟩, rfl⟩ := r
    have e := (Option.some.inj hz).symm
    subst e
    exact ⟨_, l.length, rfl, .inr ⟨vs, h1.sq o.fr.gh, h2.length.symm⟩, q _ H G o (Same.refl G) rfl⟩
  · rename_i b l
    obtain ⟨v, ws, rfl, ⟨p, vs, rfl, ⟨h1, _⟩, h2⟩, rfl⟩ := r
    have e := (Option.some.inj hz).symm
    subst e
    exact ⟨_, l.length, rfl, .inl ⟨vs, SqL.of (o.fr.gh _ _ h1), h2.length.symm⟩, q _ H G o (Same.refl G) rfl⟩
  · rename_i s
    obtain ⟨v, ws, rfl, h, rfl⟩ := r
    have h : v = V.str s := h
    subst h
    split at hz
    · have e := (Option.some.inj hz).symm
      subst e
      exact ⟨_, s.length, rfl, ⟨line_of (by assumption), rfl⟩, q _ H G o (Same.refl G) rfl⟩
    · cases hz
  · cases hz
def absD : List D → Option SD
  | [.int i] => some (.va (.int (if i < 0 then -i else i)))
  | _ => none
theorem cd_abs : CallD κ (fun xs H Q => ∃ i, xs = [.int i] ∧ Q (.int (if i < 0 then -i else i)) H) absD := by
  intro B ρ σ H G ds xs z Q o r hz q
  unfold absD at hz
  split at hz
  · obtain ⟨v, ws, rfl, rfl, rfl⟩ := r
    have e := (Option.some.inj hz).symm
    subst e
    exact ⟨_, rfl, q _ H G o (Same.refl G) rfl⟩
  · cases hz
def intD : List D → Option SD
  | [.int i] => some (.va (.int i))
  | [.bl b] => some (.va (.int (if b then 1 else 0)))
  | _ => none
theorem cd_int : CallD κ (fun xs H Q => (∃ i, xs = [.int i] ∧ Q (.int i) H) ∨ ∃ k, xs = [.bl k] ∧ Q (.int (if k then 1 else 0)) H) intD := by
  intro B ρ σ H G ds xs z Q o r hz q
  unfold intD at hz
  split at hz
  · obtain ⟨v, ws, rfl, rfl, rfl⟩ := r
    have e := (Option.some.inj hz).symm
    subst e
    exact .inl ⟨_, rfl, q _ H G o (Same.refl G) rfl⟩
  · obtain ⟨v, ws, rfl, rfl, rfl⟩ := r
    have e := (Option.some.inj hz).symm
    subst e
    exact .inr ⟨_, rfl, q _ H G o (Same.refl G) rfl⟩
  · cases hz
/-- list(..), tuple(..) -/
def listD : List D → Option SD
  | [.tup l] => some (.ow (.lst false l))
  | [.lst _ l] => some (.ow (.lst false l))
  | _ => none
theorem cd_list : CallD κ (fun xs H Q => ∃ p ys, xs = [.ref p] ∧ (SqL κ.K H p ys ∨ SqT κ.K H p ys) ∧ ∀ l, H l = none → Q (.ref l) (upd H l (.lst ys))) listD := by
  intro B ρ σ H G ds xs z Q o r hz q
  unfold listD at hz
  split at hz
  · obtain ⟨v, ws, rfl, ⟨p, vs, rfl, h1, h2⟩, rfl⟩ := r
    have e := (Option.some.inj hz).symm
    subst e
    exact ⟨p, vs, rfl, .inr (h1.sq o.fr.gh), fun t ht => q _ _ _ (o.allocOwn ht) (Same.refl G) (o.newOwn ht ⟨vs, upd_same, h2⟩)⟩
  · obtain ⟨v, ws, rfl, ⟨p, vs, rfl, ⟨h1, _⟩, h2⟩, rfl⟩ := r
    have e := (Option.some.inj hz).symm
    subst e
    exact ⟨p, vs, rfl, .inl (SqL.of (o.fr.gh _ _ h1)), fun t ht => q _ _ _ (o.allocOwn ht) (Same.refl G) (o.newOwn ht ⟨vs, upd_same, h2⟩)⟩
  · cases hz
def tupD : List D → Option SD
  | [.tup l] => some (.va (.tup l))
  | [.lst _ l] => some (.va (.tup l))
  | _ => none
theorem cd_tup : CallD κ (fun xs H Q => ∃ p ys, xs = [.ref p] ∧ ((SqL κ.K H p ys ∧ ∀ l, H l = none → Q (.ref l) (upd H l (.tup ys))) ∨ (SqT κ.K H p ys ∧ Q (.ref p) H))) tupD := by
  intro B ρ σ H G ds xs z Q o r hz q
  unfold tupD at hz
  split at hz
  · obtain ⟨v, ws, rfl, ⟨p, vs, rfl, h1, h2⟩, rfl⟩ := r
    have e := (Option.some.inj hz).symm
    subst e
    exact ⟨p, vs, rfl, .inr ⟨h1.sq o.fr.gh, q _ H G o (Same.refl G) ⟨p, vs, rfl, h1, h2⟩⟩⟩
  · rename_i b l
    obtain ⟨v, ws, rfl, ⟨p, vs, rfl, ⟨h1, _⟩, h2⟩, rfl⟩ := r
    have e := (Option.some.inj hz).symm
    subst e
    refine ⟨p, vs, rfl, .inl ⟨SqL.of (o.fr.gh _ _ h1), fun t ht => ?_⟩⟩
    have hg := o.gnone ht
    exact q _ _ _ (o.alloc ht fun _ z => by cases z) (Same.upd hg) ⟨t, vs, rfl, .inl upd_same, RepL.mono (.of (Same.upd hg)) l h2⟩
  · cases hz
/-- all(..), any(..) of a list of True, False -/
def boolsD : List D → Option (List Bool)
  | [] => some []
  | .bl b :: l => (boolsD l).map (b :: ·)
  | _ :: _ => none
theorem bools_rep {T : Pd} {G : Hp} : ∀ {l : List D} {bs : List Bool} {vs : List V}, boolsD l = some bs → RepL κ T G l vs → vs = bs.map V.bl
  | [], bs, vs, h, r => by cases h; exact r
  | .bl b :: l, bs, vs, h, r => by
    obtain ⟨cs, h1, rfl⟩ := Option.map_eq_some_iff.mp (show (boolsD l).map (b :: ·) = some bs from h)
    obtain ⟨v, ws, rfl, rfl, h2⟩ := r
    rw [bools_rep h1 h2]
    rfl
def allD : List D → Option SD
  | [.lst _ l] => (boolsD l).map fun bs => .va (.bl (bs.all id))
  | _ => none
def anyD : List D → Option SD
  | [.lst _ l] => (boolsD l).map fun bs => .va (.bl (bs.any id))
  | _ => none
theorem cd_all : CallD κ (rAll κ.K) allD := by
  intro B ρ σ H G ds xs z Q o r hz q
  unfold allD at hz
  split at hz
  · obtain ⟨bs, h1, e⟩ := Option.map_eq_some_iff.mp hz
    subst e
    obtain ⟨v, ws, rfl, ⟨p, vs, rfl, ⟨h2, _⟩, h3⟩, rfl⟩ := r
    rw [bools_rep h1 h3] at h2
    exact ⟨p, bs, rfl, SqL.of (o.fr.gh _ _ h2), q _ H G o (Same.refl G) rfl⟩
  · cases hz
theorem cd_any : CallD κ (rAny κ.K) anyD := by
  intro B ρ σ H G ds xs z Q o r hz q
  unfold anyD at hz
  split at hz
  · obtain ⟨bs, h1, e⟩ := Option.map_eq_some_iff.mp hz
    subst e
    obtain ⟨v, ws, rfl, ⟨p, vs, rfl, ⟨h2, _⟩, h3⟩, rfl⟩ := r
    rw [bools_rep h1 h3] at h2
    exact ⟨p, bs, rfl, SqL.of (o.fr.gh _ _ h2), q _ H G o (Same.refl G) rfl⟩
  · cases hz

/-! ### isinstance -/
def D.kind : D → Option String
  | .non => some "NoneType"
  | .bl _ => some "bool"
  | .int _ => some "int"
  | .str _ => some "str"
  | .tup _ => some "tuple"
  | .lst _ _ => some "list"
  | .dk _ _ => some "dict"
  | _ => none
def kitT (a n : String) : Option Bool := if n = "int" then some (a = "int" || a = "bool") else if n = "bool" ∨ n = "str" ∨ n = "list" ∨ n = "tuple" ∨ n = "dict" then some (a = n) else none
theorem kitT_ok {d : D} {a n : String} {r : Bool} (h : d.kind = some a) (k : kitT a n = some r) : kitB a n = some r := by
  have ha : a = "NoneType" ∨ a = "bool" ∨ a = "int" ∨ a = "str" ∨ a = "tuple" ∨ a = "list" ∨ a = "dict" := by
    cases d <;> cases h <;> simp
  have hn : n = "int" ∨ n = "bool" ∨ n = "str" ∨ n = "list" ∨ n = "tuple" ∨ n = "dict" := by
    unfold kitT at k
    split at k
    · exact .inl (by assumption)
    · split at k
      · exact .inr (by assumption)
      · cases k
  have go : kitB a n = kitT a n := by
    rcases ha with rfl | rfl | rfl | rfl | rfl | rfl | rfl <;> rcases hn with rfl | rfl | rfl | rfl | rfl | rfl <;> decide +kernel
  rw [go, k]
theorem kind_ty {T : Pd} {G H : Hp} {d : D} {a : String} {v : V} (s : Same G H) (h : d.kind = some a) (r : Rep κ T G d v) : TyX κ.K H v (.type a) := by
  cases d with
  | non => cases h; cases (show v = V.non from r); exact .base .non
  | bl b => cases h; cases (show v = V.bl b from r); exact .base (.bl b)
  | int b => cases h; cases (show v = V.int b from r); exact .base (.int b)
  | str b => cases h; cases (show v = V.str b from r); exact .base (.str b)
  | tup l =>
    cases h
    obtain ⟨p, vs, rfl, h1, _⟩ := r
    rcases h1 with h1 | ⟨o, its, n, e1, e2, _⟩
    · exact .base (.tup (s _ _ h1))
    · exact .kTuple e1 e2
  | lst b l =>
    cases h
    obtain ⟨p, vs, rfl, ⟨h1, _⟩, _⟩ := r
    exact .base (.lst (s _ _ h1))
  | dk b l =>
    cases h
    obtain ⟨p, vs, rfl, ⟨h1, _⟩, _⟩ := r
    exact .base (.dK (s _ _ h1))
  | _ => cases h
def isiD : List D → Option SD
  | [d, .ty n] => d.kind.bind fun a => (kitT a n).map fun r => .va (.bl r)
  | _ => none
theorem cd_isi : CallD κ (rIsi κ.K) isiD := by
  intro B ρ σ H G ds xs z Q o r hz q
  unfold isiD at hz
  split at hz
  · rename_i d n
    obtain ⟨a, h1, h2⟩ := Option.bind_eq_some_iff.mp hz
    obtain ⟨b, h3, e⟩ := Option.map_eq_some_iff.mp h2
    subst e
    obtain ⟨v, ws, rfl, r1, w', us, rfl, rfl, rfl⟩ := r
    exact ⟨v, _, _, _, b, rfl, .ty n, kind_ty o.fr.gh h1 r1, kit_ty (kitT_ok h1 h3), q _ H G o (Same.refl G) rfl⟩
  · cases hz
def kitsT (a : String) : List D → Option Bool
  | [] => some false
  | .ty n :: l => (kitT a n).bind fun b => (kitsT a l).map fun c => b || c
  | _ :: _ => none
def isitD : List D → Option SD
  | [d, .tup l] => d.kind.bind fun a => (kitsT a l).map fun r => .va (.bl r)
  | _ => none
theorem kits_ok {T : Pd} {G : Hp} {d : D} {a : String} (h : d.kind = some a) : ∀ {l : List D} {vs : List V} {b : Bool}, kitsT a l = some b → RepL κ T G l vs → ∃ us, Paired ClsV vs us ∧ PySem.W.kitAny κ.K (.type a) us = some b
  | [], vs, b, e, r => by
    cases e
    rw [show vs = [] from r]
    exact ⟨[], .nil, kitAny_nil⟩
  | .ty n :: l, vs, b, e, r => by
    obtain ⟨c, h1, h2⟩ := Option.bind_eq_some_iff.mp (show ((kitT a n).bind fun b => (kitsT a l).map fun c => b || c) = some b from e)
    obtain ⟨c', h3, rfl⟩ := Option.map_eq_some_iff.mp h2
    obtain ⟨v, ws, rfl, rfl, r2⟩ := r
    obtain ⟨us, p, k⟩ := kits_ok h h3 r2
    refine ⟨.type n :: us, .cons (.ty n) p, kitAny_cons (kit_ty (kitT_ok h h1)) (fun z => ?_) fun z => ?_⟩
    · rw [z, Bool.false_or]
      exact k
    · rw [z, Bool.true_or]
theorem op_isiX : CallR X (.builtin "isinstance") (fun xs H Q => rIsiT X.K xs H Q ∨ rIsiK X.K xs H Q) := CallR.or call_isiT call_isiK
theorem paired_inj : ∀ {vs : List V} {us ws : List Value}, Paired ClsV vs us → Vals vs ws → ws = us := fun {vs us ws} a b => ClsV.all a b
theorem cd_isit : CallD κ (fun xs H Q => rIsiT κ.K xs H Q ∨ rIsiK κ.K xs H Q) isitD := by
  intro B ρ σ H G ds xs z Q o r hz q
  unfold isitD at hz
  split at hz
  · rename_i d l
    obtain ⟨a, h1, h2⟩ := Option.bind_eq_some_iff.mp hz
    obtain ⟨b, h3, e⟩ := Option.map_eq_some_iff.mp h2
    subst e
    obtain ⟨v, ws, rfl, r1, w', us, rfl, ⟨p, cs, rfl, r2, r3⟩, rfl⟩ := r
    obtain ⟨us', k1, k2⟩ := kits_ok (κ := κ) h1 h3 r3
    rcases r2 with r2 | ⟨ob, its, n, e1, e2, e3, e4, e5⟩
    · exact .inl ⟨v, p, cs, _, us', b, rfl, o.fr.gh _ _ r2, k1, kind_ty o.fr.gh h1 r1, k2, q _ H G o (Same.refl G) rfl⟩
    · obtain ⟨oc, od, dt, sl⟩ := ob
      cases e2
      cases e3
      have e6 := paired_inj k1 e5
      refine .inr ⟨v, p, od, us', n, sl, _, b, rfl, ?_, kind_ty o.fr.gh h1 r1, k2, q _ H G o (Same.refl G) rfl⟩
      rw [e1, ← e6]
  · cases hz
end
end Fm
set_option maxHeartbeats 390000
namespace Fm
open L2 PySem PySem.Spec PyProof.Rows

/-! ### a slot's own object, lent to an expression -/
def SD.nbS : SD → Bool
  | .va d => d.nb
  | .ow d => d.nbO
  | .un => true
def mixL : List SD → List SD → Option (List SD)
  | [], _ => some []
  | .ow _ :: l, x :: r => if x.nbS then (mixL l r).map (x :: ·) else none
  | y :: l, _ :: r => (mixL l r).map (y :: ·)
  | _ :: _, [] => none
def lendB (i : Nat) (d : D) (ρ ρ1 : List SD) : Option (List SD) := (mixL (ρ.set i .un) ρ1).map fun l => l.set i (.ow d)
def mLend (i : Nat) (m : M SD) : M SD := fun ρ => match ρ[i]? with
  | some (.ow d) => match m (ρ.set i (.va d.ln)) with
    | .ok r ρ1 => if r.nbS then match lendB i d ρ ρ1 with
      | some ρ2 => .ok r ρ2
      | none => .no
      else .no
    | .ex x ρ1 => if nbF x.fs then match lendB i d ρ ρ1 with
      | some ρ2 => .ex x ρ2
      | none => .no
      else .no
    | .no => .no
  | _ => m ρ
theorem mixL_at : ∀ {l r o : List SD} {j : Nat} {x : SD}, mixL l r = some o → o[j]? = some x → (∃ c, l[j]? = some (SD.ow c) ∧ r[j]? = some x ∧ x.nbS = true) ∨ ((∀ c, l[j]? ≠ some (SD.ow c)) ∧ l[j]? = some x)
  | [], r, o, j, x, h, e => by
    cases h
    simp at e
  | y :: l, [], o, j, x, h, e => by cases y <;> cases h
  | .ow c :: l, y :: r, o, j, x, h, e => by
    have h' : (if y.nbS then (mixL l r).map (y :: ·) else none) = some o := h
    split at h'
    · obtain ⟨o', h1, rfl⟩ := Option.map_eq_some_iff.mp h'
      cases j with
      | zero =>
        cases e
        exact .inl ⟨c, rfl, rfl, by assumption⟩
      | succ j => exact mixL_at (j := j) h1 e
    · cases h'
  | .va c :: l, y :: r, o, j, x, h, e => by
    obtain ⟨o', h1, rfl⟩ := Option.map_eq_some_iff.mp (show (mixL l r).map (SD.va c :: ·) = some o from h)
    cases j with
    | zero =>
      cases e
      exact .inr ⟨(fun c' z => by cases z), rfl⟩
    | succ j => exact mixL_at (j := j) h1 e
  | .un :: l, y :: r, o, j, x, h, e => by
    obtain ⟨o', h1, rfl⟩ := Option.map_eq_some_iff.mp (show (mixL l r).map (SD.un :: ·) = some o from h)
    cases j with
    | zero =>
      cases e
      exact .inr ⟨(fun c' z => by cases z), rfl⟩
    | succ j => exact mixL_at (j := j) h1 e
theorem mixL_len : ∀ {l r o : List SD}, mixL l r = some o → o.length = l.length
  | [], r, o, h => by cases h; rfl
  | y :: l, [], o, h => by cases y <;> cases h
  | .ow c :: l, y :: r, o, h => by
    have h' : (if y.nbS then (mixL l r).map (y :: ·) else none) = some o := h
    split at h'
    · obtain ⟨o', h1, rfl⟩ := Option.map_eq_some_iff.mp h'
      rw [List.length_cons, List.length_cons, mixL_len h1]
    · cases h'
  | .va c :: l, y :: r, o, h => by
    obtain ⟨o', h1, rfl⟩ := Option.map_eq_some_iff.mp (show (mixL l r).map (SD.va c :: ·) = some o from h)
    rw [List.length_cons, List.length_cons, mixL_len h1]
  | .un :: l, y :: r, o, h => by
    obtain ⟨o', h1, rfl⟩ := Option.map_eq_some_iff.mp (show (mixL l r).map (SD.un :: ·) = some o from h)
    rw [List.length_cons, List.length_cons, mixL_len h1]
section
variable {κ : Ctx} {B : Bas} {ρ ρ1 : List SD} {σ : L2.St} {H G H' G' : Hp}
theorem OwnAt.mono2 {T T' : Pd} {G G' H : Hp} {p : Addr} {d : D} (h : OwnAt κ T G H p d) (e : Mono T G T' G') : OwnAt κ T' G' H p d := by
  cases d with
  | lst b l =>
    obtain ⟨vs, h1, h2⟩ := h
    exact ⟨vs, h1, RepL.mono e l h2⟩
  | dk b l =>
    obtain ⟨vs, h1, h2⟩ := h
    exact ⟨vs, h1, RepK.mono e l h2⟩
  | ins b c l =>
    obtain ⟨dx, vs, h1, h2⟩ := h
    exact ⟨dx, vs, h1, RepF.mono e l h2⟩
  | _ => exact h.elim
theorem OwnAt.er {T T' : Pd} {G H : Hp} {p q : Addr} {o : HO} {d : D} (ho : G p = some o) (mu : Mut (some o)) (ht : T' p) (hT : ∀ a, a ≠ p → (T' a ↔ T a)) (n : d.nbO = true) (h : OwnAt κ T' G H q d) : OwnAt κ T (er G p) H q d := by
  cases d with
  | lst b l =>
    obtain ⟨vs, h1, h2⟩ := h
    exact ⟨vs, h1, RepL.er ho mu ht hT l n h2⟩
  | dk b l =>
    obtain ⟨vs, h1, h2⟩ := h
    exact ⟨vs, h1, RepK.er ho mu ht hT l n h2⟩
  | ins b c l =>
    obtain ⟨dx, vs, h1, h2⟩ := h
    exact ⟨dx, vs, h1, RepF.er ho mu ht hT l n h2⟩
  | _ => exact h.elim
theorem OwnAt.lent {T : Pd} {G H : Hp} {p : Addr} {d : D} {o : HO} (h : OwnAt κ T G H p d) (hp : H p = some o) (hg : G p = none) : Rep κ (fun a => T a ∨ a = p) (upd G p o) d.ln (.ref p) := by
  have l : Ld (fun a => T a ∨ a = p) p true := ⟨fun _ => rfl, fun _ => .inr rfl⟩
  have m : Mono T G (fun a => T a ∨ a = p) (upd G p o) := ⟨Same.upd hg, fun a u b e k => ⟨(fun z => by
    rcases z with z | z
    · exact k.mp z
    · rw [z, hg] at e
      cases e), fun z => .inl (k.mpr z)⟩⟩
  cases d with
  | lst b l' =>
    obtain ⟨vs, h1, h2⟩ := h
    rw [hp] at h1
    cases h1
    exact ⟨p, vs, rfl, ⟨upd_same, l⟩, RepL.mono m l' h2⟩
  | dk b l' =>
    obtain ⟨vs, h1, h2⟩ := h
    rw [hp] at h1
    cases h1
    exact ⟨p, vs, rfl, ⟨upd_same, l⟩, RepK.mono m l' h2⟩
  | ins b c l' =>
    obtain ⟨dx, vs, h1, h2⟩ := h
    rw [hp] at h1
    cases h1
    exact ⟨p, dx, vs, rfl, ⟨upd_same, l⟩, RepF.mono m l' h2⟩
  | _ => exact h.elim
/-- the base while slot i's object at p is lent -/
noncomputable def Bas.ln (B : Bas) (i : Nat) (p : Addr) (u : HO) (ρ : List SD) (σ : L2.St) (H G : Hp) : Bas := ⟨hidS (ρ.set i .un) σ H, upd G p u, fun a => B.T a ∨ a = p, []⟩
structure Lent (κ : Ctx) (B : Bas) (i : Nat) (p : Addr) (u : HO) (d : D) (ρ : List SD) (σ : L2.St) (H G : Hp) : Prop where
  ok : Ok κ B ρ σ H G
  sl : ρ[i]? = some (SD.ow d)
  at_ : σ[i]? = some (some (V.ref p))
  gn : G p = none
  bn : B.H p = none
  own : OwnAt κ B.T G H p d
  hp : H p = some u
  mu : Mut (some u)
theorem Ok.lend (o : Ok κ B ρ σ H G) {i : Nat} {d : D} (e : ρ[i]? = some (SD.ow d)) : ∃ p u, Lent κ B i p u d ρ σ H G := by
  obtain ⟨p, h1, h2, h3, h4⟩ := o.own i d e
  obtain ⟨u, h5, _, h6⟩ := h4.obj
  exact ⟨p, u, o, e, h1, h2, h3, h4, h5, h6⟩
section
variable {i : Nat} {p : Addr} {u : HO} {d : D}
theorem set_un {j : Nat} {c : D} (h : (ρ.set i .un)[j]? = some (SD.ow c)) : j ≠ i ∧ ρ[j]? = some (SD.ow c) := by
  by_cases hj : j = i
  · subst hj
    have hl : j < ρ.length := by
      have y := (List.getElem?_eq_some_iff.mp h).1
      rw [List.length_set] at y
      exact y
    rw [List.getElem?_set_self hl] at h
    cases h
  · rw [List.getElem?_set_ne (Ne.symm hj)] at h
    exact ⟨hj, h⟩
theorem Lent.mono (L : Lent κ B i p u d ρ σ H G) : Mono B.T G (fun a => B.T a ∨ a = p) (upd G p u) := ⟨Same.upd L.gn, fun a u b e k => ⟨(fun z => by
    rcases z with z | z
    · exact k.mp z
    · rw [z, L.gn] at e
      cases e), fun z => .inl (k.mpr z)⟩⟩
theorem Lent.seen (L : Lent κ B i p u d ρ σ H G) : hidS (ρ.set i .un) σ H p = some u := by
  rw [hidS_out fun j c e1 e2 => ?_]
  · exact noT_of L.hp fun ps z => by
      have m := L.mu
      rw [z] at m
      exact m
  · obtain ⟨n, e3⟩ := set_un e1
    exact L.ok.sep j i p c d n e3 L.sl e2 L.at_
theorem Lent.enter (L : Lent κ B i p u d ρ σ H G) : Ok κ (B.ln i p u ρ σ H G) (ρ.set i (.va d.ln)) σ H (upd G p u) := by
  have o := L.ok
  have hl := (List.getElem?_eq_some_iff.mp L.sl).1
  have not_ow : ∀ {j : Nat} {x : SD}, (ρ.set i (.va d.ln))[j]? = some x → (j = i ∧ x = .va d.ln) ∨ (j ≠ i ∧ ρ[j]? = some x) := fun {j x} e => by
    by_cases hj : j = i
    · subst hj
      rw [List.getElem?_set_self hl] at e
      exact .inl ⟨rfl, (Option.some.inj e).symm⟩
    · rw [List.getElem?_set_ne (Ne.symm hj)] at e
      exact .inr ⟨hj, e⟩
  refine ⟨⟨fun a w e _ => (hidS_some e).1, fun a ps e => (hidS_some e).2 ps rfl, fun a _ => rfl, Same.refl _, fun a w e => ?_, fun a ps e => ?_, o.fr.tabs, fun a h => ?_⟩, by rw [List.length_set]; exact o.len, fun j c e => ?_, fun j c e => ?_, fun j k q c c' hjk h1 h2 h3 h4 => ?_, fun _ _ h => nomatch h⟩
  · by_cases na : a = p
    · rw [na, upd_same] at e
      rw [na, L.hp]
      exact e
    · rw [upd_ne na] at e
      exact o.fr.gh a w e
  · by_cases na : a = p
    · rw [na, upd_same] at e
      have mu := L.mu
      rw [Option.some.inj e] at mu
      exact mu
    · rw [upd_ne na] at e
      exact o.fr.notb a ps e
  · show hidS (ρ.set i .un) σ H a ≠ none
    rcases h with h | h
    · have hb := o.fr.lent a h
      rw [hidS_out fun j c e1 e2 => ?_]
      · exact seen_noT o.fr hb
      · obtain ⟨_, e3⟩ := set_un e1
        obtain ⟨q, q1, _, q3, _⟩ := o.own j c e3
        rw [e2] at q1
        cases q1
        exact hb q3
    · rw [h, L.seen]
      simp
  · rcases not_ow e with ⟨rfl, e1⟩ | ⟨_, e1⟩
    · cases e1
      exact ⟨_, L.at_, L.own.lent L.hp L.gn⟩
    · obtain ⟨v, h1, h2⟩ := o.val j c e1
      exact ⟨v, h1, Rep.mono L.mono c h2⟩
  · rcases not_ow e with ⟨_, e1⟩ | ⟨n, e1⟩
    · cases e1
    · obtain ⟨q, q1, q2, q3, q4⟩ := o.own j c e1
      have nq : q ≠ p := fun y => o.sep j i p c d n e1 L.sl (by rw [q1, y]) L.at_
      exact ⟨q, q1, by rw [upd_ne nq]; exact q2, hidS_in (by rw [List.getElem?_set_ne (Ne.symm n)]; exact e1) q1, q4.mono2 L.mono⟩
  · rcases not_ow h1 with ⟨_, e1⟩ | ⟨n1, e1⟩
    · cases e1
    · rcases not_ow h2 with ⟨_, e2⟩ | ⟨n2, e2⟩
      · cases e2
      · exact o.sep j k q c c' hjk e1 e2 h3 h4
/-- what is out of sight under the loan stood not at the entry -/
theorem Lent.bnone (L : Lent κ B i p u d ρ σ H G) {a : Addr} (h : hidS (ρ.set i .un) σ H a = none) : B.H a = none := by
  rcases hidS_none h with ⟨j, c, e1, e2⟩ | h
  · obtain ⟨_, e3⟩ := set_un e1
    obtain ⟨q, q1, _, q3, _⟩ := L.ok.own j c e3
    rw [e2] at q1
    cases q1
    exact q3
  · exact Classical.byContradiction fun z => seen_noT L.ok.fr z h
theorem Lent.vis (L : Lent κ B i p u d ρ σ H G) {a : Addr} (h : B.H a ≠ none) : hidS (ρ.set i .un) σ H a = H a := (seen_eq L.ok.fr h) ▸ hidS_out fun j c e1 e2 => by
  obtain ⟨_, e3⟩ := set_un e1
  obtain ⟨q, q1, _, q3, _⟩ := L.ok.own j c e3
  rw [e2] at q1
  cases q1
  exact h q3
theorem Lent.leave (L : Lent κ B i p u d ρ σ H G) (o1 : Ok κ (B.ln i p u ρ σ H G) ρ1 σ H' G') {ρ2 : List SD} (hm : lendB i d ρ ρ1 = some ρ2) :
    Ok κ B ρ2 σ H' (er G' p) ∧ Same G (er G' p) ∧ G' p = some u ∧ (∀ (j : Nat) (c : D), ρ2[j]? = some (SD.ow c) → j = i ∨ ρ1[j]? = some (SD.ow c)) := by
  have o := L.ok
  have hl := (List.getElem?_eq_some_iff.mp L.sl).1
  obtain ⟨l, hl1, rfl⟩ := Option.map_eq_some_iff.mp hm
  have ll : l.length = ρ.length := by rw [mixL_len hl1, List.length_set]
  have gp : G' p = some u := o1.fr.sub p u (show upd G p u p = some u from upd_same)
  have np : p ∉ ([] : List Addr) := by simp
  have sG : Same G (er G' p) := fun a w e => by
    have na : a ≠ p := fun y => by
      rw [y, L.gn] at e
      cases e
    rw [er_ne na]
    exact o1.fr.sub a w ((upd_ne na).trans e)
  have hT : ∀ a, a ≠ p → ((B.T a ∨ a = p) ↔ B.T a) := fun a n => ⟨fun z => z.elim id fun y => absurd y n, .inl⟩
  have ht : (fun a => B.T a ∨ a = p) p := .inr rfl
  -- what stands in a slot
  have cs : ∀ {j : Nat} {x : SD}, (l.set i (.ow d))[j]? = some x → (j = i ∧ x = .ow d) ∨ (j ≠ i ∧ ((∃ c, ρ[j]? = some (SD.ow c) ∧ ρ1[j]? = some x ∧ x.nbS = true) ∨ ((∀ c, ρ[j]? ≠ some (SD.ow c)) ∧ ρ[j]? = some x))) := fun {j x} e => by
    by_cases hj : j = i
    · subst hj
      rw [List.getElem?_set_self (by omega)] at e
      exact .inl ⟨rfl, (Option.some.inj e).symm⟩
    · rw [List.getElem?_set_ne (Ne.symm hj)] at e
      refine .inr ⟨hj, ?_⟩
      have y := mixL_at hl1 e
      rw [List.getElem?_set_ne (Ne.symm hj)] at y
      exact y
  have hP : H' p = H p := (o1.fr.keep p u L.seen fun ps z => by
    have mu := L.mu
    rw [z] at mu
    exact mu).trans L.hp.symm
  refine ⟨⟨⟨fun a w e n => ?_, o.fr.nt, fun a e => ?_, o.fr.sub.trans sG, fun a w e => ?_, fun a ps e => ?_, o1.fr.tabs, o.fr.lent⟩, by rw [List.length_set, ll]; exact o.len, fun j c e => ?_, fun j c e => ?_, fun j k q c c' hjk h1 h2 h3 h4 => ?_, o.anch⟩, sG, gp, fun j c e => ?_⟩
  · exact o1.fr.keep a w ((L.vis (by rw [e]; simp)).trans (o.fr.keep a w e n)) n
  · have na : a ≠ p := fun y => e (by rw [y]; exact L.bn)
    rw [er_ne na]
    refine (o1.fr.frz a ?_).trans ((upd_ne na).trans (o.fr.frz a e))
    show hidS (ρ.set i .un) σ H a ≠ none
    rw [L.vis e]
    exact o.fr.there a e
  · by_cases na : a = p
    · rw [na, er_same] at e
      cases e
    · rw [er_ne na] at e
      exact o1.fr.gh a w e
  · by_cases na : a = p
    · rw [na, er_same] at e
      cases e
    · rw [er_ne na] at e
      exact o1.fr.notb a ps e
  · rcases cs e with ⟨_, e1⟩ | ⟨n, ⟨c', e1, e2, e3⟩ | ⟨_, e1⟩⟩
    · cases e1
    · obtain ⟨v, h1, h2⟩ := o1.val j c e2
      exact ⟨v, h1, Rep.er gp L.mu ht hT c e3 h2⟩
    · obtain ⟨v, h1, h2⟩ := o.val j c e1
      exact ⟨v, h1, Rep.mono (.of sG) c h2⟩
  · rcases cs e with ⟨rfl, e1⟩ | ⟨n, ⟨c', e1, e2, e3⟩ | ⟨e1, e2⟩⟩
    · cases e1
      exact ⟨p, L.at_, er_same, L.bn, L.own.mono sG hP⟩
    · obtain ⟨q, q1, q2, q3, q4⟩ := o1.own j c e2
      have nq : q ≠ p := fun y => by
        rw [y, gp] at q2
        cases q2
      exact ⟨q, q1, by rw [er_ne nq]; exact q2, L.bnone q3, OwnAt.er gp L.mu ht hT e3 q4⟩
    · exact absurd e2 (e1 c)
  · have pick : ∀ {j : Nat} {c : D}, (l.set i (.ow d))[j]? = some (SD.ow c) → (j = i) ∨ (j ≠ i ∧ ρ1[j]? = some (SD.ow c)) := fun {j c} e => by
      rcases cs e with ⟨e1, _⟩ | ⟨n, ⟨c', e1, e2, e3⟩ | ⟨e1, e2⟩⟩
      · exact .inl e1
      · exact .inr ⟨n, e2⟩
      · exact absurd e2 (e1 c)
    have apart : ∀ {j : Nat} {c : D}, ρ1[j]? = some (SD.ow c) → σ[j]? = some (some (V.ref p)) → False := fun {j c} e1 e2 => by
      obtain ⟨q, q1, q2, _, _⟩ := o1.own j c e1
      rw [e2] at q1
      cases q1
      rw [gp] at q2
      cases q2
    rcases pick h1 with e1 | ⟨n1, e1⟩ <;> rcases pick h2 with e2 | ⟨n2, e2⟩
    · exact hjk (e1.trans e2.symm)
    · rw [e1, L.at_] at h3
      cases h3
      exact apart e2 h4
    · rw [e2, L.at_] at h4
      cases h4
      exact apart e1 h3
    · exact o1.sep j k q c c' hjk e1 e2 h3 h4
  · rcases cs e with ⟨e1, _⟩ | ⟨n, ⟨c', e1, e2, e3⟩ | ⟨e1, e2⟩⟩
    · exact .inl e1
    · exact .inr e2
    · exact absurd e2 (e1 c)
end
theorem lend_ok {W : WX} {i : Nat} {m : M SD} {Q : VK} (h : tE κ W (mLend i m) σ H Q) : tE κ W m σ H Q := by
  obtain ⟨B, ρ, G, o, q⟩ := h
  unfold mLend at q
  cases e : ρ[i]? with
  | none =>
    rw [e] at q
    exact ⟨B, ρ, G, o, q⟩
  | some x =>
    rw [e] at q
    cases x with
    | un => exact ⟨B, ρ, G, o, q⟩
    | va c => exact ⟨B, ρ, G, o, q⟩
    | ow d =>
      dsimp only at q
      obtain ⟨p, u, L⟩ := o.lend e
      refine ⟨_, _, _, L.enter, ?_⟩
      have hT : ∀ a, a ≠ p → ((B.T a ∨ a = p) ↔ B.T a) := fun a n => ⟨fun z => z.elim id fun y => absurd y n, .inl⟩
      cases em : m (ρ.set i (.va d.ln)) with
      | no =>
        rw [em] at q
        exact q.elim
      | ex x ρ1 =>
        rw [em] at q
        dsimp only at q
        by_cases hn : nbF x.fs = true
        · rw [if_pos hn] at q
          cases hm : lendB i d ρ ρ1 with
          | none =>
            rw [hm] at q
            exact q.elim
          | some ρ2 =>
            rw [hm] at q
            intro cls dd H' G' o1 s1 rx
            obtain ⟨k1, k2, k3, k4⟩ := L.leave o1 hm
            refine q cls dd H' (er G' p) k1 k2 ?_
            obtain ⟨x1, dx, vs, x2, x3, x4⟩ := rx
            exact ⟨x1, dx, vs, x2, x3, RepF.er k3 L.mu (.inr rfl) hT _ hn x4⟩
        · rw [if_neg hn] at q
          exact q.elim
      | ok r ρ1 =>
        rw [em] at q
        dsimp only at q
        by_cases hn : r.nbS = true
        · rw [if_pos hn] at q
          cases hm : lendB i d ρ ρ1 with
          | none =>
            rw [hm] at q
            exact q.elim
          | some ρ2 =>
            rw [hm] at q
            intro H' G' o1 s1 v rv
            obtain ⟨k1, k2, k3, k4⟩ := L.leave o1 hm
            refine q H' (er G' p) k1 k2 v ?_
            cases r with
            | un => exact rv.elim
            | va c => exact Rep.er k3 L.mu (.inr rfl) hT c hn rv
            | ow c =>
              obtain ⟨t, rfl, t1, t2, t3, t4⟩ := rv
              have nt : t ≠ p := fun y => by
                rw [y, k3] at t1
                cases t1
              refine ⟨t, rfl, by rw [er_ne nt]; exact t1, L.bnone t2, OwnAt.er k3 L.mu (.inr rfl) hT hn t3, fun j c' e1 e2 => ?_⟩
              rcases k4 j c' e1 with z | z
              · rw [z, L.at_] at e2
                cases e2
                exact nt rfl
              · exact t4 j c' z e2
        · rw [if_neg hn] at q
          exact q.elim
theorem e_lend {X : Cx} {W : WX} {e : Expr} {m : M SD} (i : Nat) (h : PE X e (tE κ W m)) : PE X e (tE κ W (mLend i m)) := PE.imp h fun _ _ _ => lend_ok
end
end Fm
set_option maxHeartbeats 390000
namespace Fm
open L2 PySem PySem.Spec PyProof.Rows

/-! ### a slot's value, looked at -/
def slD : SD → Option D
  | .va d => some d
  | .ow d => some d
  | .un => none
section
variable {κ : Ctx} {B : Bas} {ρ : List SD} {σ : L2.St} {H G : Hp}
theorem Ok.set_is (o : Ok κ B ρ σ H G) {i : Nat} (h : isSet ρ[i]? = true) : ∃ v, σ[i]? = some (some v) := by
  cases e : ρ[i]? with
  | none =>
    rw [e] at h
    cases h
  | some x =>
    refine o.there e fun z => ?_
    rw [e, z] at h
    cases h
end
def guardS {α : Type} (i : Nat) (m : M α) : M α := fun ρ => if isSet ρ[i]? then m ρ else .no
theorem guard_ok {α : Type} {κ : Ctx} {W : WX} {B : Bas} {σ : L2.St} {H G : Hp} {ρ : List SD} {i : Nat} {m : M α} {k : α → List SD → Hp → Hp → Prop} (o : Ok κ B ρ σ H G) (h : Pst κ W B σ G (guardS i m ρ) k) : (∃ v, σ[i]? = some (some v)) ∧ Pst κ W B σ G (m ρ) k := by
  unfold guardS at h
  by_cases hi : isSet ρ[i]? = true
  · rw [if_pos hi] at h
    exact ⟨o.set_is hi, h⟩
  · rw [if_neg hi] at h
    exact h.elim
theorem guard_okS {κ : Ctx} {W : WX} {B : Bas} {σ : L2.St} {H G : Hp} {ρ : List SD} {i : Nat} {m : S} {D : Ends} (o : Ok κ B ρ σ H G) (h : PstS κ W B G (guardS i m ρ) D) : (∃ v, σ[i]? = some (some v)) ∧ PstS κ W B G (m ρ) D := by
  unfold guardS at h
  by_cases hi : isSet ρ[i]? = true
  · rw [if_pos hi] at h
    exact ⟨o.set_is hi, h⟩
  · rw [if_neg hi] at h
    exact h.elim
/-- x[e], x a name: nothing is frozen -/
def atS (i : Nat) (e : D) : M SD := fun ρ => match ρ[i]? with
  | some (.va d) => match ixD d e with
    | some z => .ok z ρ
    | none => .no
  | some (.ow (.lst b l)) => match ixD (.lst b l) e with
    | some z => .ok z ρ
    | none => .no
  | _ => .no
def mSub (i : Nat) (m : M SD) : M SD := guardS i ((fE m).bind (atS i))
section
variable {κ : Ctx} {X : Cx} {W : WX} {σ : L2.St} {H : Hp} {Q : VK}
theorem sub_ok {i : Nat} {m : M SD} (h : tE κ W (mSub i m) σ H Q) : tOp (rIx κ.K) (tVar i) (tE κ W m) σ H Q := by
  obtain ⟨B, ρ, G, o, q⟩ := h
  obtain ⟨⟨v, hv⟩, q⟩ := guard_ok o q
  refine ⟨v, hv, tE_fz o (Pst.bind q) fun e ρ1 H1 G1 o1 s1 q1 y r1 => ?_⟩
  unfold atS at q1
  cases h1 : ρ1[i]? with
  | none =>
    rw [h1] at q1
    exact q1.elim
  | some x =>
    rw [h1] at q1
    cases x with
    | un => exact q1.elim
    | va d =>
      dsimp only at q1
      obtain ⟨w', e1, e2⟩ := o1.val i d h1
      rw [hv] at e1
      cases e1
      cases hz : ixD d e with
      | none =>
        rw [hz] at q1
        exact q1.elim
      | some z =>
        rw [hz] at q1
        exact od_ix B ρ1 σ H1 G1 d e _ _ z Q o1 e2 r1 hz fun v' H' G' o' s' rv => q1 H' G' o' s' v' rv
    | ow d =>
      obtain ⟨p, e1, e2, e3, e4⟩ := o1.own i d h1
      rw [hv] at e1
      cases e1
      cases d with
      | lst b l =>
        dsimp only at q1
        cases hz : ixD (.lst b l) e with
        | none =>
          rw [hz] at q1
          exact q1.elim
        | some z =>
          rw [hz] at q1
          cases e with
          | int j =>
            obtain ⟨c, h2, rfl⟩ := Option.map_eq_some_iff.mp (show (atI l j).map SD.va = some z from hz)
            obtain ⟨vs, h3, h4⟩ := e4
            obtain ⟨v', h5, h6⟩ := atI_rep h4 h2
            exact .inl ⟨p, vs, j, v', rfl, r1, SqL.of h3, h5, q1 H1 G1 o1 (Same.refl G1) v' h6⟩
          | _ => cases hz
      | _ => exact q1.elim
theorem e_sub {i : Nat} {x : Str} {b : Expr} {m : M SD} {p pos : Pos} (hK : X.K = κ.K) (h : PE X (.Name x p) (tVar i)) (hb : PE X b (tE κ W m)) (hs : PlainIx b) : PE X (.Subscript (.Name x p) b pos) (tE κ W (mSub i m)) :=
  PE.imp (pe_ix ix_seq h hb hs) fun _ _ _ q => by
    rw [hK]
    exact sub_ok q
theorem e_ix {a b : Expr} {ma mb : M SD} {pos : Pos} (hK : X.K = κ.K) (h : PE X a (tE κ W ma)) (hb : PE X b (tE κ W mb)) (hs : PlainIx b) : PE X (.Subscript a b pos) (tE κ W (mOp ixD ma mb)) :=
  PE.imp (pe_ix ix_seq h hb hs) fun _ _ _ q => op_ok (hK ▸ od_ix) q

/-! ### x[i] = e, x.append(e), x a name that owns -/
def putS (i : Nat) (v k : D) : S := fun ρ => match ρ[i]?, k with
  | some (.ow (.lst b l)), .int j => match ixN l.length j with
    | some n => .ok .nx (ρ.set i (.ow (.lst b (l.set n v))))
    | none => .no
  | _, _ => .no
def sPut (i : Nat) (mk me : M SD) : S := (fE me).bind fun v => guardS i ((fE mk).bind fun k => putS i v k)
theorem s_put {A : List Nat} {i : Nat} {x : Str} {k e : Expr} {mk me : M SD} {p p2 pos : Pos} (h : PE X (.Name x p) (tVar i)) (hk : PE X k (tE κ W mk)) (he : PE X e (tE κ W me))
    (ha : ∀ v, assign (.Subscript (.Name x p) k p2) X.env v = (do
      let ov ← holding [v] (eval (.Name x p) X.env)
      let iv ← holding [v, ov] (eval k X.env)
      standAt p2; holding [v, ov, iv] (setItem ov iv v); release [v, ov, iv] []) := by intro _; rfl)
    (hs : swapsWithSole [.Subscript (.Name x p) k p2] e pos.line X.env = pure false := by rfl) (hw : swappedStores [.Subscript (.Name x p) k p2] e X.env = pure none := by rfl)
    (h1 : (assignEach [.Subscript (.Name x p) k p2] X.env).map (·.2) = [assign (.Subscript (.Name x p) k p2) X.env] := by rfl) : PS X (.Assign [.Subscript (.Name x p) k p2] e pos) (tS κ A W (sPut i mk me)) := by
  refine PS.imp (ps_asg he (pg_sub h hk set_list ha) hs hw h1) fun D σ H ⟨B, ρ, G, a, o, q⟩ => ?_
  refine tE_fz o (PstS.bind q) fun v ρ1 H1 G1 o1 s1 q1 v1 r1 => ?_
  obtain ⟨⟨u, hu⟩, q1⟩ := guard_okS o1 q1
  refine ⟨u, hu, tE_fz o1 (PstS.bind q1) fun k ρ2 H2 G2 o2 s2 q2 v2 r2 => ?_⟩
  unfold putS at q2
  cases h2 : ρ2[i]? with
  | none =>
    rw [h2] at q2
    exact q2.elim
  | some x =>
    rw [h2] at q2
    cases x with
    | un => exact q2.elim
    | va d => exact q2.elim
    | ow d =>
      cases d with
      | lst b l =>
        cases k with
        | int j =>
          dsimp only at q2
          cases hj : ixN l.length j with
          | none =>
            rw [hj] at q2
            exact q2.elim
          | some n =>
            rw [hj] at q2
            obtain ⟨p, e1, e2, e3, vs, e4, e5⟩ := o2.own i _ h2
            rw [hu] at e1
            cases e1
            refine ⟨p, vs, j, n, rfl, r2, e4, by rw [e5.length]; exact hj, ?_⟩
            refine q2 σ _ G2 (o2.write h2 hu (fun ps z => by cases z) ⟨_, upd_same, e5.set n (Rep.mono (.of s2) v r1)⟩) (Same.refl G2)
        | _ => exact q2.elim
      | _ => exact q2.elim
def appS (i : Nat) (ds : List D) : M SD := fun ρ => match ρ[i]?, ds with
  | some (.ow (.lst b l)), [v] => if l.length < 1000000 then .ok (.va .non) (ρ.set i (.ow (.lst b (l ++ [v])))) else .no
  | _, _ => .no
def isOwL : Option SD → Bool
  | some (.ow (.lst _ _)) => true
  | _ => false
def mApp (i : Nat) (n : M (List D)) : M SD := fun ρ => if isOwL ρ[i]? then (n.bind (appS i)) ρ else .no

theorem app_ok {i : Nat} {n : M (List D)} (h : tE κ W (mApp i n) σ H Q) : tBM κ.K "list" rAppend (tVar i) (tA κ W n) σ H Q := by
  obtain ⟨B, ρ, G, o, q⟩ := h
  unfold mApp at q
  cases hi : isOwL ρ[i]? with
  | false =>
    rw [hi, if_neg Bool.false_ne_true] at q
    exact q.elim
  | true =>
    rw [hi, if_pos rfl] at q
    cases e : ρ[i]? with
    | none =>
      rw [e] at hi
      cases hi
    | some x =>
      cases x with
      | un =>
        rw [e] at hi
        cases hi
      | va d =>
        rw [e] at hi
        cases hi
      | ow d =>
        cases d with
        | lst b l =>
          obtain ⟨p, e1, e2, e3, vs, e4, e5⟩ := o.own i _ e
          refine ⟨_, e1, .inl ⟨rfl, vs, SqL.of e4⟩, B, ρ, G, o, Pst.mono (Pst.bind q) fun ds ρ' H' G' o' s q' xs rs => ?_⟩
          unfold appS at q'
          cases h2 : ρ'[i]? with
          | none =>
            rw [h2] at q'
            exact q'.elim
          | some x =>
            rw [h2] at q'
            cases x with
            | un => exact q'.elim
            | va d => exact q'.elim
            | ow d =>
              cases d with
              | lst b' l' =>
                cases ds with
                | nil => exact q'.elim
                | cons v r =>
                  cases r with
                  | cons _ _ => exact q'.elim
                  | nil =>
                    dsimp only at q'
                    by_cases hl : l'.length < 1000000
                    · rw [if_pos hl] at q'
                      obtain ⟨p', f1, f2, f3, ws, f4, f5⟩ := o'.own i _ h2
                      rw [e1] at f1
                      cases f1
                      obtain ⟨y, us, rfl, r1, r2⟩ := rs
                      have r2 : us = [] := r2
                      subst r2
                      refine ⟨p, ws, y, rfl, rfl, f4, by rw [f5.length, sizeLine_eq]; omega, ?_⟩
                      exact q' _ G' (o'.write h2 e1 (fun ps z => by cases z) ⟨_, upd_same, f5.append (RepL.one r1)⟩) (Same.refl G') _ rfl
                    · rw [if_neg hl] at q'
                      exact q'.elim
              | _ => exact q'.elim
        | _ =>
          rw [e] at hi
          cases hi
theorem e_app {i : Nat} {x : Str} {e : Expr} {n : M (List D)} {p apos cpos : Pos} (hK : X.K = κ.K) (h : PE X (.Name x p) (tVar i)) (ha : PA X [e] (tA κ W n))
    (hbase : attributeBase (.Name x p) "append" X.env (eval (.Name x p) X.env) = eval (.Name x p) X.env := by rfl)
    (hfew : ((backTo cpos (starEach [e] X.env)).all (fun x => !x.1) && (backToKw cpos (keywordEach [] X.env)).all (fun x => x.1.isSome) && decide (([e] : List Expr).length + ([] : List Keyword).length + (if ([] : List Keyword).isEmpty then 0 else 1) < 30)) = true := by rfl)
    (hline : (apos.endLine == cpos.line) = true := by rfl) (hs : starEach [e] X.env = (false, eval e X.env) :: starEach [] X.env := by rfl) (hplain : (backTo cpos (starEach ([] : List Expr) X.env)).any (·.1) = false := by rfl) : PE X (.Call (.Attribute (.Name x p) "append" apos) [e] [] cpos) (tE κ W (mApp i n)) :=
  PE.imp (pe_bm PySem.F.plainAttrs_list PySem.F.slot_list_append PySem.F.type_list_append mt_append h ha hbase hfew hline hs hplain) fun _ _ _ q => by
    rw [hK]
    exact app_ok q
end
end Fm
set_option maxHeartbeats 990000
/-! zip(x, y, strict=True) over tuples and lists of one length -/
namespace Zs
open PySem L2

/-! ### what stands in the heap while such a zip goes -/
abbrev two (x y : Value) : Obj := { cls := .type "tuple", data := .seq #[x, y] }
/-- the zip itself: `own` is the pair that it lent out last, `ti` the pair of its iterators, `to` the pair that it keeps -/
abbrev zob (ti to : Addr) (own : Value) : Obj := { cls := .type "zip", dict := none, data := .fields #[own, .bool false, .bool true, .ref ti, .ref to], slots := #[] }
/-- the items of one side; its iterator at draw n. The flag: a tuple's side -/
def Sd (b : Bool) (h : Heap) (l : Addr) (xs : Array Value) : Prop := if b then h.IsTuple l xs else h.IsList l xs
def At (b : Bool) (h : Heap) (p l : Addr) (n : Nat) : Prop := if b then h.IsTupleIter p l n else h.IsListIter p l n
section
variable {b c : Bool} {h g : Heap} {l p : Addr} {xs : Array Value} {n : Nat}
theorem Sd.on (f : ∀ o, h.get? l = some o → g.get? l = some o) : Sd b h l xs → Sd b g l xs := by
  cases b with
  | false => exact fun a => Heap.IsList.at (h := h) a f
  | true => exact fun ⟨o, a, r⟩ => ⟨o, f o a, r⟩
theorem At.on (f : ∀ o, h.get? p = some o → g.get? p = some o) : At b h p l n → At b g p l n := by
  cases b <;> exact fun ⟨o, a, r⟩ => ⟨o, f o a, r⟩
theorem At.stands : At b h p l n → ∃ o vs, h.get? p = some o ∧ o.data = .fields vs := by
  cases b <;> exact fun ⟨o, a, _, r⟩ => ⟨o, _, a, r⟩
end
/-- a zip at z over the iterators p of a and q of d, behind n draws -/
structure Zip2 (b c : Bool) (z ti to p q a d : Addr) (n : Nat) (own u v : Value) (h : Heap) : Prop where
  z : h.get? z = some (zob ti to own)
  i : h.get? ti = some (two (.ref p) (.ref q))
  o : h.get? to = some (two u v)
  p : At b h p a n
  q : At c h q d n
/-- what is none of its four changing objects stays -/
def Stay (z to p q : Addr) (h g : Heap) : Prop := ∀ e o, e ≠ z → e ≠ to → e ≠ p → e ≠ q → h.get? e = some o → g.get? e = some o

section
variable {P : Program} {w : World} {s : Shared} {A : Around} {E : Value → Shared → Prop}
/-! ### one draw of one side -/
theorem draw {b : Bool} {p l : Addr} {n : Nat} {xs : Array Value} {x : Value} {Q : Option Value → Shared → Prop} (hp : At b s.heap p l n) (hl : Sd b s.heap l xs) (hx : xs[n]? = some x)
    (go : ∀ g, At b g p l (n + 1) → Heap.SameBut p s.heap g → Q (some x) { s with heap := g }) : wpAny (model P w) A (Builtin.SmallTypes.nextOrEnd (.ref p)) Q E s := by
  have done : wpAny (model P w) A (Builtin.SmallTypes.nextOf (.ref p)).attempt (fun r s1 => wpAny (model P w) A (match r with | .ok v => pure (some v) | .error e => do if ← isInstance e (.type "StopIteration") then pure none else throw e) Q E s1) E s := by
    refine wpAny_attempt ?_
    cases b with
    | false => exact wpAny_nextOf_list_item (E := _) (show s.heap.IsListIter p l n from hp) (show s.heap.IsList l xs from hl) hx fun g r k => wpAny_pure (go g r k)
    | true => exact RZ.nextOf_tuple_item (show s.heap.IsTupleIter p l n from hp) (show s.heap.IsTuple l xs from hl) hx fun g r k => wpAny_pure (go g r k)
  exact wpAny_bind done
theorem drawn {b : Bool} {p l : Addr} {n : Nat} {xs : Array Value} {Q : Option Value → Shared → Prop} (calm : A.handled = none) (hp : At b s.heap p l n) (hl : Sd b s.heap l xs) (hx : xs[n]? = none)
    (go : ∀ g, Heap.ExtBut p s.heap g → Q none { s with heap := g }) : wpAny (model P w) A (Builtin.SmallTypes.nextOrEnd (.ref p)) Q E s := by
  have over : ∀ (g : Heap) (e : Addr), Heap.ExtBut p s.heap g → (∃ o, g.get? e = some o ∧ o.cls = .type "StopIteration") →
      wpAny (model P w) A (do if ← isInstance (.ref e) (.type "StopIteration") then pure none else throw (.ref e) : Sem (Option Value)) Q E { s with heap := g } :=
    fun g e k t => wpAny_bind (wpAny_isInstance (T := "StopIteration") (b := true) t isSubtype_stop (wpAny_pure (go g k)))
  refine wpAny_bind (m := (Builtin.SmallTypes.nextOf (.ref p)).attempt) (wpAny_attempt ?_)
  cases b with
  | false => exact wpAny_nextOf_list_end calm (show s.heap.IsListIter p l n from hp) (show s.heap.IsList l xs from hl) hx over
  | true => exact RZ.nextOf_tuple_end calm (show s.heap.IsTupleIter p l n from hp) (show s.heap.IsTuple l xs from hl) hx over
/-- what changes at p and at `to` alone -/
def Two (p to : Addr) (h g : Heap) : Prop := (∀ e, e ≠ p → e ≠ to → g.get? e = h.get? e) ∧ g.objs.size = h.objs.size
/-- the draw of one side is put at place j of the pair that the zip keeps -/
theorem put {β : Type} {b : Bool} {p l to : Addr} {n j : Nat} {xs kept : Array Value} {x : Value} {r : β} {m : Sem (Option Value)} {f : Value → Sem Unit} {k1 : Option Value → Sem β} {k2 : Option (Array Value) → Sem β} {k3 : Unit → Sem β} {Q : β → Shared → Prop}
    (hm : m = Builtin.SmallTypes.nextOrEnd (.ref p)) (small : kept.size = 2) (ne : to ≠ p) (ho : s.heap.get? to = some { cls := .type "tuple", data := .seq kept }) (hp : At b s.heap p l n) (hl : Sd b s.heap l xs) (hx : xs[n]? = some x)
    (e1 : k1 (some x) = (seqItems? (.ref to) >>= k2)) (e2 : k2 (some kept) = (updateSeq to (·.setIfInBounds j x) >>= k3)) (e3 : k3 () = (letGo [kept.getD j .none] >>= fun _ => pure r))
    (go : ∀ g, At b g p l (n + 1) → g.get? to = some { cls := .type "tuple", data := .seq (kept.setIfInBounds j x) } → Two p to s.heap g → Q r { s with heap := g }) : wpAny (model P w) A (m.onRaise f >>= k1) Q E s := by
  rw [hm]
  refine wpAny_bind (wpAny_onRaise (draw hp hl hx fun g r1 k => ?_))
  have t1 : g.get? to = some { cls := .type "tuple", data := .seq kept } := (k.2 _ ne).trans ho
  have fit : kept.size ≤ sizeLine := by rw [small]; decide
  rw [e1]
  refine wpAny_bind (wpAny_seqItems t1 rfl ?_)
  rw [e2]
  refine wpAny_bind (wpAny_updateSeq t1 rfl ?_ fit (by rw [Array.size_setIfInBounds]; omega))
  rw [e3]
  refine wpAny_bind (wpAny_letGo (wpAny_pure (go _ (r1.on fun o q => ?_) ?_ ⟨fun e h1 h2 => ?_, ?_⟩)))
  · exact (Heap.get?_update_other _ _ ne).trans q
  · rw [Heap.get?_update_self _ t1 rfl]; simp [Obj.mapSeq]
  · exact (Heap.get?_update_other _ _ (Ne.symm h2)).trans (k.2 e h1)
  · exact (Heap.size_after_update ..).trans k.1
/-- zip.__next__ where both sides have an item, or neither -/
theorem step {b c : Bool} {z ti to p q a d : Addr} {n : Nat} {xs ys : Array Value} {u v : Value} {Q : Value → Shared → Prop} (calm : A.handled = none) (D : ZipApart z ti to p q a d)
    (Z : Zip2 b c z ti to p q a d n .none u v s.heap) (hx : Sd b s.heap a xs) (hy : Sd c s.heap d ys)
    (go : (∃ x y, xs[n]? = some x ∧ ys[n]? = some y ∧ ∀ g, Zip2 b c z ti to p q a d (n + 1) (rawInt s.heap.objs.size) x y g → g.get? s.heap.objs.size = some (two x y) → g.objs.size = s.heap.objs.size + 1 → Stay z to p q s.heap g → Q (.ref s.heap.objs.size) { s with heap := g }) ∨
      (xs[n]? = none ∧ ys[n]? = none ∧ ∀ g e, Stay z to p q s.heap g → (∃ o, g.get? e = some o ∧ o.cls = .type "StopIteration") → E (.ref e) { s with heap := g })) :
    wpAny (model P w) A (Builtin.«zip.__next__» ⟨[.ref z], []⟩) (fun fin s' => ∃ v, fin = .done (.ret v) ∧ Q v s') E s := by
  obtain ⟨hp, gs, dr, tk, os⟩ := s
  have hz := Z.z
  have hi := Z.i
  have ho := Z.o
  iterate 56 (first | with_reducible apply wpAny_loadPart' hz | with_reducible apply wpAny_loadPart' hi | wp_step)
  refine wpAny_bind (wpAny_setField_rec hz (by simp) fun h1 z1 k1 => ?_)
  have apart : ∀ e o, e ≠ z → hp.get? e = some o → h1.get? e = some o := fun e o ne q => (k1.2 e ne).trans q
  refine wpAny_bind ?_
  rw [show (#[Value.ref p, Value.ref q].toList.zipIdx : List (Value × Nat)) = [(.ref p, 0), (.ref q, 1)] from rfl, List.forIn_cons]
  rcases go with ⟨x, y, ex, ey, go⟩ | ⟨ex, ey, out⟩
  · refine wpAny_bind (put (b := b) (l := a) (n := n) (xs := xs) (x := x) (j := 0) (kept := #[u, v]) (to := to) (p := p) rfl rfl D.TOi1 (apart _ _ D.TOz ho) (Z.p.on fun o e => apart _ o D.i1z e) (hx.on fun o e => apart _ o D.l1z e) ex rfl rfl rfl fun h2 p2 o2 k2 => ?_)
    have k12 : ∀ e o, e ≠ z → e ≠ to → e ≠ p → hp.get? e = some o → h2.get? e = some o := fun e o n1 n2 n3 q => (k2.1 e n3 n2).trans (apart e o n1 q)
    show wpAny _ _ (forIn [(Value.ref q, 1)] _ _) _ _ _
    rw [List.forIn_cons]
    refine wpAny_bind (put (b := c) (l := d) (n := n) (xs := ys) (x := y) (j := 1) (kept := #[x, v]) (to := to) (p := q) rfl rfl D.TOi2 o2 (Z.q.on fun o e => k12 _ o D.i2z D.TOi2.symm D.i12.symm e) (hy.on fun o e => k12 _ o D.l2z D.l2TO D.l2i1 e) ey rfl rfl rfl fun h3 q3 o3 k3 => ?_)
    show wpAny _ _ (forIn [] _ _) _ _ _
    rw [List.forIn_nil]
    refine wpAny_pure ?_
    have sz : h3.objs.size = hp.objs.size := k3.2.trans (k2.2.trans k1.1)
    have z3 : h3.get? z = some (zob ti to .ellipsis) := (k3.1 _ D.i2z.symm D.TOz.symm).trans ((k2.1 _ D.i1z.symm D.TOz.symm).trans z1)
    have p3 : At b h3 p a (n + 1) := p2.on fun o e => (k3.1 _ D.i12 D.TOi1.symm).trans e
    have st : Stay z to p q hp h3 := fun e o n1 n2 n3 n4 f => (k3.1 e n4 n2).trans (k12 e o n1 n2 n3 f)
    have pair : h3.get? to = some (two x y) := o3
    refine wpAny_bind (wpAny_seqItems pair rfl (wpAny_bind (wpAny_newTuple ?_)))
    refine wpAny_bind (wpAny_bind (wpAny_setField_rec (Heap.get?_push_of_some _ z3) (by simp) fun h4 z4 k4 => ?_))
    refine wpAny_setField_rec z4 (by simp) fun h5 z5 k5 => ?_
    have kept : ∀ e o, e ≠ z → (h3.push (two x y)).get? e = some o → h5.get? e = some o := fun e o ne f => (k5.2 e ne).trans ((k4.2 e ne).trans f)
    have kept3 : ∀ e o, e ≠ z → h3.get? e = some o → h5.get? e = some o := fun e o ne f => kept e o ne (Heap.get?_push_of_some _ f)
    have low : z < h3.objs.size := Heap.lt_size z3
    have new : h5.get? hp.objs.size = some (two x y) := kept _ _ (Nat.ne_of_gt (sz ▸ low)) (by rw [← sz]; exact Heap.get?_push_size _ rfl)
    have sz5 : h5.objs.size = hp.objs.size + 1 := k5.1.trans (k4.1.trans ((Heap.size_push ..).trans (by omega)))
    have z6 : h5.get? z = some (zob ti to (rawInt h3.objs.size)) := z5
    rw [sz] at z6
    refine wpAny_pure ⟨.ref h3.objs.size, rfl, ?_⟩
    rw [sz]
    exact go h5 ⟨z6, kept3 _ _ D.TIz (st _ _ D.TIz D.TITO D.TIi1 D.TIi2 hi), kept3 _ _ D.TOz pair, p3.on fun o e => kept3 _ o D.i1z e, q3.on fun o e => kept3 _ o D.i2z e⟩ new sz5 fun e o n1 n2 n3 n4 f => kept3 e o n1 (st e o n1 n2 n3 n4 f)
  · refine wpAny_bind (wpAny_bind (wpAny_onRaise ?_))
    show wpAny _ _ (Builtin.SmallTypes.nextOrEnd (.ref p)) _ _ _
    refine drawn calm (Z.p.on fun o e => apart _ o D.i1z e) (hx.on fun o e => apart _ o D.l1z e) ex fun h2 k2 => ?_
    refine wpAny_bind (wpAny_setField_rec (k2 _ _ D.i1z.symm z1) (by simp) fun h3 z3 k3 => wpAny_bind ?_)
    have st : ∀ e o, e ≠ z → e ≠ p → hp.get? e = some o → h3.get? e = some o := fun e o n1 n3 f => (k3.2 e n1).trans (k2 _ _ n3 (apart e o n1 f))
    show wpAny _ _ (bind _ _) _ _ _
    refine wpAny_bind ?_
    rw [show ((#[Value.ref p, Value.ref q].toList.drop 1).zipIdx 1 : List (Value × Nat)) = [(.ref q, 1)] from rfl, List.forIn_cons]
    refine wpAny_bind (wpAny_bind (drawn (s := ⟨h3, gs, dr, tk, os⟩) calm (Z.q.on fun o e => st _ o D.i2z D.i12.symm e) (hy.on fun o e => st _ o D.l2z D.l2i1 e) ey fun h4 k4 => ?_))
    refine wpAny_ite_false (by decide) (wpAny_pure ?_)
    show wpAny _ _ (forIn [] _ _) _ _ _
    rw [List.forIn_nil]
    refine wpAny_pure (wpAny_bind (wpAny_rule ?_))
    refine wpAny_bind (m := newExc (.type "StopIteration") []) ?_
    have calm1 : A.in1.handled = none := calm
    iterate 14 wp_step
    refine wpAny_of_eq (a := Value.none) rfl (wpAny_newObj_type (wpAny_raiseNew_none calm (out _ _ (fun e o n1 n2 n3 n4 f => ?_) ⟨_, Heap.get?_push_size _ rfl, rfl⟩)) (by size_fits))
    exact Heap.get?_push_of_some _ (Heap.get?_push_of_some _ (k4 _ _ n4 (st e o n1 n3 f)))
end
section
variable {P : Program} {w : World} {s : Shared} {A : Around} {E : Value → Shared → Prop}
theorem next {b c : Bool} {z ti to p q a d : Addr} {n : Nat} {xs ys : Array Value} {u v : Value} {Q : Option Value → Shared → Prop} (calm : A.handled = none) (D : ZipApart z ti to p q a d)
    (Z : Zip2 b c z ti to p q a d n .none u v s.heap) (hx : Sd b s.heap a xs) (hy : Sd c s.heap d ys)
    (go : (∃ x y, xs[n]? = some x ∧ ys[n]? = some y ∧ ∀ g, Zip2 b c z ti to p q a d (n + 1) (rawInt s.heap.objs.size) x y g → g.get? s.heap.objs.size = some (two x y) → g.objs.size = s.heap.objs.size + 1 → Stay z to p q s.heap g → Q (some (.ref s.heap.objs.size)) { s with heap := g }) ∨
      (xs[n]? = none ∧ ys[n]? = none ∧ ∀ g, Stay z to p q s.heap g → Q none { s with heap := g })) : wpAny (model P w) A (pyNext (.ref z)) Q E s := by
  have t : s.TypeIs (.ref z) "zip" := ⟨_, Z.z, rfl⟩
  refine wpAny_bind (m := (callSpecial? (.ref z) "__next__").attempt) (wpAny_attempt (wpAny_callSpecial?_slot (name := Str.ofString "__next__") t F.slot_zip_next ?_))
  refine wpAny_call_entry F.slot_zip_next t F.entry_zip_next (step calm D Z hx hy ?_) (F.args_zip_next_1 _)
  rcases go with ⟨x, y, ex, ey, go⟩ | ⟨ex, ey, go⟩
  · exact .inl ⟨x, y, ex, ey, fun g g1 g2 g3 g4 => wpAny_pure (go g g1 g2 g3 g4)⟩
  · exact .inr ⟨ex, ey, fun g e st he => wpAny_bind (wpAny_isInstance (T := "StopIteration") (b := true) he isSubtype_stop (wpAny_pure (go g st)))⟩
/-- the pair that was lent out last goes -/
theorem gone {es : List Expr} {k : Nat} {pos : Pos} {z ti to r : Addr} {Q : Unit → Shared → Prop} (hz : s.heap.get? z = some (zob ti to (rawInt r)))
    (go : ∀ g, g.get? z = some (zob ti to .none) → Heap.SameBut z s.heap g → Q () { s with heap := g }) : wpAny (model P w) A (letOwnedTupleGo (.Tuple es k pos) (.ref z) (.ref r)) Q E s := by
  refine wpAny_bind (wpAny_load hz (show wpAny _ _ (ite _ _ _) _ _ _ from ?_))
  split
  · exact wpAny_bind (wpAny_rule (wpAny_setField_rec hz (by simp) fun g g1 g2 => go g g1 g2))
  · rename_i no
    exact absurd (by simp) no
theorem iter_self {z ti to : Addr} {own : Value} {Q : Value → Shared → Prop} (hz : s.heap.get? z = some (zob ti to own)) (h : Q (.ref z) s) : wpAny (model P w) A (pyIter (.ref z)) Q E s :=
  have t : s.TypeIs (.ref z) "zip" := ⟨_, hz, rfl⟩
  wpAny_pyIter_slot t F.slot_zip_iter (wpAny_call_entry F.slot_zip_iter t F.entry_zip_iter (wpAny_pure (a := Fin.done (.ret (.ref z))) ⟨_, rfl, "zip", _, t, F.slot_zip_next.lookup, h⟩) (F.args_zip_iter_1 _))
end

/-! ### how it is made: five new objects, one behind the other -/
def laid (h : Heap) (os : List Obj) : Heap := os.foldl Heap.push h
theorem laid_size : ∀ (os : List Obj) (h : Heap), (laid h os).objs.size = h.objs.size + os.length
  | [], h => rfl
  | o :: os, h => (laid_size os (h.push o)).trans (by rw [Heap.size_push, List.length_cons]; omega)
theorem laid_old : ∀ (os : List Obj) {h : Heap} {e : Addr} {o : Obj}, h.get? e = some o → (laid h os).get? e = some o
  | [], _, _, _, f => f
  | _ :: os, _, _, _, f => laid_old os (Heap.get?_push_of_some _ f)
theorem laid_new (os : List Obj) : ∀ (h : Heap) (i : Nat) (o : Obj), os[i]? = some o → o.isFreed = false → (laid h os).get? (h.objs.size + i) = some o := by
  induction os with
  | nil => exact fun h i o e => absurd e (by simp)
  | cons x os ih =>
    intro h i o e f
    cases i with
    | zero =>
      have e1 : x = o := Option.some.inj e
      rw [e1]
      exact laid_old os (Heap.get?_push_size h f)
    | succ i =>
      have r := ih (h.push x) i o e f
      rw [Heap.size_push, Nat.add_assoc, Nat.add_comm 1 i] at r
      exact r
/-- the iterator of one side, new -/
def itO (b : Bool) (l : Addr) : Obj := { cls := .type (if b then "tuple_iterator" else "list_iterator"), data := .fields #[.ref l, .int 0 0] }
theorem At.first {b : Bool} {h : Heap} {p l : Addr} (e : h.get? p = some (itO b l)) : At b h p l 0 := by
  cases b <;> exact ⟨_, e, rfl, rfl⟩
theorem iter_side {P : Program} {w : World} {b : Bool} {h : Heap} {l : Addr} {xs : Array Value} (hl : Sd b h l xs) {A : Around} {E : Value → Shared → Prop} {gs : Array GenState} {dr : Drawn} {tk : Nat} {os : OsState} {Q : Value → Shared → Prop}
    (q : Q (.ref h.objs.size) ⟨h.push (itO b l), gs, dr, tk, os⟩) : wpAny (model P w) A (pyIter (.ref l)) Q E ⟨h, gs, dr, tk, os⟩ := by
  cases b with
  | false => exact wpAny_pyIter_list (s := ⟨h, gs, dr, tk, os⟩) (show h.IsList l xs from hl) q
  | true => exact wpAny_pyIter_tuple (s := ⟨h, gs, dr, tk, os⟩) (show h.IsTuple l xs from hl) q
abbrev five (b c : Bool) (a d : Addr) (n : Nat) : List Obj := [itO b a, itO c d, two (.ref n) (.ref (n + 1)), two .none .none, zob (n + 2) (n + 3) .none]
abbrev kwS : List (Str × Value) := [(Str.ofString "strict", .bool true)]
theorem new_zip {b c : Bool} {a d : Addr} {xs ys : Array Value} : Meets (Builtin.«zip.__new__» ⟨[.type "zip", .ref a, .ref d], kwS⟩) (fun _ R s => (Sd b s.heap a xs ∧ Sd c s.heap d ys) ∧
      R (.ok (.ret (.ref (s.heap.objs.size + 4)))) { s with heap := laid s.heap (five b c a d s.heap.objs.size) }) :=
  .of_wp fun P w A R s h => by
    obtain ⟨hp, gs, dr, tk, os⟩ := s
    obtain ⟨⟨h1, h2⟩, h⟩ := h
    have word : (Str.ofString "strict" != ("strict" : Str)) = false := by decide +kernel
    have its := sub_zip
    have o1 := @iter_side P w b hp a xs h1
    have o2 := @iter_side P w c (hp.push (itO b a)) d ys (h2.on fun o e => Heap.get?_push_of_some _ e)
    wp_walk using o1, o2
    refine ⟨_, rfl, ?_⟩
    simp only [Heap.size_push]
    exact h
/-! ### the five cells of a zip -/
section
variable {b c : Bool} {z ti to p q a d : Addr} {n : Nat} {own u v : Value} {h g : Heap}
abbrev cells (z ti to p q : Addr) : List Addr := [z, ti, to, p, q]
theorem all_cells {z ti to p q : Addr} {φ : Addr → Prop} (h1 : φ z) (h2 : φ ti) (h3 : φ to) (h4 : φ p) (h5 : φ q) : ∀ e ∈ cells z ti to p q, φ e := by
  simp only [cells, List.mem_cons, List.not_mem_nil, or_false]
  intro e m
  rcases m with m | m | m | m | m <;> (subst m; assumption)
theorem Zip2.on (Z : Zip2 b c z ti to p q a d n own u v h) (k : ∀ e ∈ cells z ti to p q, ∀ o, h.get? e = some o → g.get? e = some o) : Zip2 b c z ti to p q a d n own u v g :=
  ⟨k _ (by simp) _ Z.z, k _ (by simp) _ Z.i, k _ (by simp) _ Z.o, Z.p.on (k _ (by simp)), Z.q.on (k _ (by simp))⟩
theorem Zip2.cell (Z : Zip2 b c z ti to p q a d n own u v h) : ∀ e ∈ cells z ti to p q, ∃ o, h.get? e = some o ∧ ∀ v, o.data ≠ .cell v := by
  obtain ⟨o1, v1, e1, d1⟩ := Z.p.stands
  obtain ⟨o2, v2, e2, d2⟩ := Z.q.stands
  exact all_cells ⟨_, Z.z, nofun⟩ ⟨_, Z.i, nofun⟩ ⟨_, Z.o, nofun⟩ ⟨o1, e1, by rw [d1]; exact nofun⟩ ⟨o2, e2, by rw [d2]; exact nofun⟩
theorem Stay.out (k : Stay z to p q h g) : ∀ e o, e ∉ cells z ti to p q → h.get? e = some o → g.get? e = some o := fun e o m f => by
  simp only [cells, List.mem_cons, List.not_mem_nil, or_false, not_or] at m
  exact k e o m.1 m.2.2.1 m.2.2.2.1 m.2.2.2.2 f
end
section
variable {P : Program} {w : World} {s : Shared} {A : Around} {E : Value → Shared → Prop}
theorem made {b c : Bool} {a d : Addr} {xs ys : Array Value} {Q : Value → Shared → Prop} (hx : Sd b s.heap a xs) (hy : Sd c s.heap d ys)
    (go : ∀ n g, n = s.heap.objs.size → Zip2 b c (n + 4) (n + 2) (n + 3) n (n + 1) a d 0 .none .none .none g → (∀ e o, s.heap.get? e = some o → g.get? e = some o) → Q (.ref (n + 4)) { s with heap := g }) :
    wpAny (model P w) A (call (.type "zip") [.ref a, .ref d] kwS) Q E s := by
  refine callType_newKw F.called_zip (by decide) (by kernel_rfl) (by kernel_rfl) (fun obj => by unfold argsOk; kernel_rfl) F.entry_zip_new new_zip ⟨⟨hx, hy⟩, ?_⟩
  have at' : ∀ i o, (five b c a d s.heap.objs.size)[i]? = some o → o.isFreed = false → (laid s.heap (five b c a d s.heap.objs.size)).get? (s.heap.objs.size + i) = some o := fun i o => laid_new _ _ i o
  have zz := at' 4 _ rfl rfl
  exact ⟨⟨_, zz, rfl⟩, go _ _ rfl ⟨zz, at' 2 _ rfl rfl, at' 3 _ rfl rfl, .first (at' 0 _ rfl rfl), .first (at' 1 _ rfl rfl)⟩ fun e o f => laid_old _ f⟩
/-- a class of the language called with names -/
theorem callWith_kws {M : Model} {pos : Pos} {T : String} {as : List (Bool × Sem Value)} {ks : List (Option Str × Sem Value)} {Q : Value → Shared → Prop} (plain : (as.any (·.1) || ks.any (·.1.isNone)) = false)
    (h : wpAny M A (evalArgs (.type T) true as ks) (fun r s1 => wpAny M A (call (.type T) r.pos r.kw) Q E s1) E s) : wpAny M A (callWith pos (.type T) [] as ks) Q E s := by
  have back : ∀ {r : Value} {s2 : Shared}, Q r s2 → wpAny M A (do holding [r] point; pure r) Q E s2 := fun q => wpAny_bind (wpAny_holding (wpAny_point (wpAny_pure q)))
  refine wpAny_bind (m := holding [.type T] (evalArgs (.type T) true as ks)) (wpAny_holding (wpAny_mono h (fun r s1 h1 => ?_) fun _ _ k => k))
  refine wpAny_bind (wpAny_standAt (plain.symm ▸ ?_))
  exact wpAny_bind (m := keeperOf (.type T)) (wpAny_of_eq rfl (wpAny_bind (wpAny_mono h1 (fun _ _ q => back q) fun _ _ k => k)))
end
end Zs
namespace Fm
open L2 PySem PySem.Spec PyProof.Rows Zs
def SqB (k : Bool) (K : PySem.W.Frag) (H : Hp) (a : Addr) (xs : List V) : Prop := match k with
  | true => SqT K H a xs
  | false => SqL K H a xs
section
variable {X : Cx} {pins : List (Addr × Obj)} {σ : L2.St} {H : Hp} {s : Shared} {k : Bool} {a : Addr} {xs ys : List V}
theorem SqB.src (I : Inv X pins σ H s) (h : SqB k X.K H a xs) : ∃ its : List Value, Vals xs its ∧ Sd k s.heap a its.toArray ∧ a < s.heap.objs.size := by
  cases k with
  | false =>
    obtain ⟨its, r, l, _⟩ := I.list h
    exact ⟨its, r, l.isList, l.lt⟩
  | true =>
    obtain ⟨its, r, t, _⟩ := I.tuple h
    obtain ⟨o, e, _⟩ := id t
    exact ⟨its, r, t, Heap.lt_size e⟩
theorem SqB.inj (I : Inv X pins σ H s) (h : SqB k X.K H a xs) (h' : SqB k X.K H a ys) : xs = ys := by
  cases k with
  | false => exact I.list_inj (show SqL X.K H a xs from h) h'
  | true => exact I.tuple_inj (show SqT X.K H a xs from h) h'
end
/-- two of one length: each turn gives a new pair of their items -/
def ItS (K : PySem.W.Frag) (k k' : Bool) (a b : Addr) : It where
  go i H := ∃ xs ys, SqB k K H a xs ∧ SqB k' K H b ys ∧ i < xs.length ∧ i < ys.length
  yld i H v H' := ∃ T x y, v = .ref T ∧ H T = none ∧ H' = upd H T (.tup [x, y]) ∧ (∀ xs, SqB k K H a xs → xs[i]? = some x) ∧ ∀ ys, SqB k' K H b ys → ys[i]? = some y
  stop i H := ∃ xs ys, SqB k K H a xs ∧ SqB k' K H b ys ∧ xs.length ≤ i ∧ ys.length ≤ i
theorem turnS {P : Program} {w : World} {K : PySem.W.Frag} {es : List Expr} {kk : Nat} {tpos : Pos} {k k' : Bool} {a d z ti to p q : Addr} (D : ZipApart z ti to p q a d) :
    Turn P w K (.Tuple es kk tpos) (ItS K k k' a d) (cells z ti to p q) z fun i h => ∃ u v, Zip2 k k' z ti to p q a d i .none u v h where
  mem := by simp
  obj := fun i h ⟨_, _, Z⟩ => Z.cell
  keep := fun i h g ⟨u, v, Z⟩ f => ⟨u, v, Z.on f⟩
  self := fun A i s Q E ⟨_, _, Z⟩ r => iter_self Z.z r
  done := fun X e1 e2 e3 calm i pins s σ H E I hf ⟨u, v, Z⟩ ⟨xs, ys, qx, qy, l1, l2⟩ => by
    subst e1 e2 e3
    obtain ⟨us, rx, px, _⟩ := qx.src I
    obtain ⟨vs, ry, py, _⟩ := qy.src I
    have m1 := rx.length
    have m2 := ry.length
    exact next (I.ok.hd calm) D Z px py (.inr ⟨by simp; omega, by simp; omega, fun g st => ⟨rfl, I.turnedL (t' := s.toks) st.out hf⟩⟩)
  item := fun X e1 e2 e3 calm i pins s σ H E I hf ⟨u, v, Z⟩ ⟨xs, ys, qx, qy, l1, l2⟩ => by
    subst e1 e2 e3
    obtain ⟨us, rx, px, _⟩ := qx.src I
    obtain ⟨vs, ry, py, _⟩ := qy.src I
    have ex : xs[i]? = some xs[i] := List.getElem?_eq_getElem l1
    have ey : ys[i]? = some ys[i] := List.getElem?_eq_getElem l2
    obtain ⟨x, hx, r1⟩ := rx.get ex
    obtain ⟨y, hy, r2⟩ := ry.get ey
    refine next (I.ok.hd calm) D Z px py (.inl ⟨x, y, by rw [List.getElem?_toArray]; exact hx, by rw [List.getElem?_toArray]; exact hy, fun g Zg new sz st => ⟨_, rfl, gone Zg.z fun g2 z2 sb => ?_⟩⟩)
    have low : ∀ e ∈ cells z ti to p q, e < s.heap.objs.size := fun e m => by
      obtain ⟨o, f, _⟩ := Z.cell e m
      exact Heap.lt_size f
    have new2 : g2.get? s.heap.objs.size = some (two x y) := (sb.2 _ (Nat.ne_of_gt (low z (by simp)))).trans new
    have pair : ObjOk X.prog X.w (upd H s.heap.objs.size (.tup [xs[i], ys[i]])) g2 s.heap.objs.size (.tup [xs[i], ys[i]]) := ⟨Nat.le_trans (Nat.le_of_eq (show [xs[i], ys[i]].length = 2 from rfl)) (by decide), [x, y], .cons r1 (.cons r2 .nil), _, new2, rfl, _, rfl⟩
    refine ⟨.ref s.heap.objs.size, _, I.turnedNew (t' := s.toks) (ch := cells z ti to p q) (fun e o m f => ?_) hf (Nat.le_refl _) pair, rfl, ?_, ⟨x, y, ?_⟩, fun e m => ?_⟩
    · exact (sb.2 e fun r => m (by rw [r]; simp)).trans (st.out e o m f)
    · exact ⟨_, _, _, rfl, I.hok.fresh (Nat.le_refl _), rfl, fun l f => by rw [f.inj I qx]; exact ex, fun l f => by rw [f.inj I qy]; exact ey⟩
    · exact ⟨z2, (sb.2 _ D.TIz).trans Zg.i, (sb.2 _ D.TOz).trans Zg.o, Zg.p.on fun o f => (sb.2 _ D.i1z).trans f, Zg.q.on fun o f => (sb.2 _ D.i2z).trans f⟩
    · exact (upd_ne (Nat.ne_of_lt (low e m))).trans (hf e m).1
def iZipS (K : PySem.W.Frag) (ta : TA) : TI := fun σ H R => ta σ H fun vs H1 => ∃ (k k' : Bool) (a b : Addr) (xs ys : List V), vs = [.ref a, .ref b] ∧ SqB k K H1 a xs ∧ SqB k' K H1 b ys ∧ R (ItS K k k' a b) H1
theorem pi_zipS {X : Cx} {e e2 : Expr} {ta : TA} {p pos tpos kpos cpos : Pos} {j : Nat} {elts : List Expr} {kk : Nat} (hg : Gl X "zip") (hm : X.mg "zip" = none) (ha : PA X [e, e2] ta)
    (hs : starEach [e, e2] X.env = (false, eval e X.env) :: starEach [e2] X.env := by rfl) (hpl : ((backTo pos (starEach [e, e2] X.env)).any (·.1) || (backToKw pos (keywordEach [⟨some "strict", .Constant (.bool true) j cpos, kpos⟩] X.env)).any (·.1.isNone)) = false := by rfl) :
    PI X (.Tuple elts kk tpos) (.Call (.Name "zip" p) [e, e2] [⟨some "strict", .Constant (.bool true) j cpos, kpos⟩] pos) (iZipS X.K ta) := by
  refine ⟨fun pins s σ H R I h => wpAny_Call_Name_kw (ld_blt I hg hm PyProof.Rows.boot_zip (callWith_kws hpl (evalArgs_kw2 rfl (thn (ha.run pos pins s σ H _ I h) fun us s1 got => ?_) hs)))⟩
  obtain ⟨vs, H1, I1, r1, k, k', a, d, xs, ys, rfl, qx, qy, hR⟩ := got
  obtain ⟨v1, v2, rfl, rv1, rv2⟩ : ∃ v1 v2, us = [v1, v2] ∧ RelV (.ref a) v1 ∧ RelV (.ref d) v2 := by
    cases r1 with
    | cons f1 r2 =>
      cases r2 with
      | cons f2 r3 =>
        cases r3
        exact ⟨_, _, rfl, f1, f2⟩
  cases rv1
  cases rv2
  obtain ⟨is, rx, px, la⟩ := qx.src I1
  obtain ⟨js, ry, py, lb⟩ := qy.src I1
  refine kwAll_cons (Constant_bool (kwAll_nil (made px py fun n g en Z old => iter_self Z.z ?_)))
  have I2 : Inv X pins σ H1 { s1 with heap := g } := I1.kept (t' := s1.toks) old
  have new : ∀ e, s1.heap.objs.size ≤ e → FpOk X pins H1 e := fun e le => I1.fpOk le (I1.hok.fresh le)
  subst en
  exact ⟨_, _, _, _, H1, rfl, I2, turnS (PySem.W.ktu_apart s1.heap.objs.size a d la lb), ⟨_, _, Z⟩, all_cells (new _ (by omega)) (new _ (by omega)) (new _ (by omega)) (new _ (by omega)) (new _ (by omega)), hR⟩
end Fm
set_option maxHeartbeats 390000
namespace Fm
open L2 PySem PySem.Spec PyProof.Rows

/-! ### zip(a, b, strict=True) -/
def D.seq : D → Option (Bool × List D)
  | .lst _ l => some (false, l)
  | .tup l => some (true, l)
  | _ => none
def zipP : List D → List D → List D
  | a :: l, b :: m => .tup [a, b] :: zipP l m
  | _, _ => []
theorem zipP_at : ∀ {l m : List D} {i : Nat} {d : D}, (zipP l m)[i]? = some d → ∃ a b, l[i]? = some a ∧ m[i]? = some b ∧ d = .tup [a, b]
  | [], m, i, d, h => by
    unfold zipP at h
    simp at h
  | a :: l, [], i, d, h => by
    unfold zipP at h
    simp at h
  | a :: l, b :: m, 0, d, h => by
    unfold zipP at h
    cases h
    exact ⟨a, b, rfl, rfl, rfl⟩
  | a :: l, b :: m, i + 1, d, h => by
    unfold zipP at h
    exact zipP_at (l := l) (m := m) (i := i) (by simpa using h)
theorem zipP_len : ∀ {l m : List D}, l.length = m.length → (zipP l m).length = l.length
  | [], m, h => by
    unfold zipP
    rfl
  | a :: l, [], h => by simp at h
  | a :: l, b :: m, h => by
    unfold zipP
    rw [List.length_cons, List.length_cons, zipP_len (by simpa using h)]
def zipM : List D → M (List D)
  | [d, e] => match d.seq, e.seq with
    | some (_, l), some (_, m) => if l.length = m.length then M.ret (zipP l m) else M.no
    | _, _ => M.no
  | _ => M.no
def iZp (n : M (List D)) : M (List D) := n.bind zipM
theorem Rep.sqB {κ : Ctx} {T : Pd} {G H : Hp} {d : D} {k : Bool} {l : List D} {v : V} (s : Same G H) (h : d.seq = some (k, l)) (r : Rep κ T G d v) : ∃ a vs, v = .ref a ∧ SqB k κ.K G a vs ∧ SqB k κ.K H a vs ∧ RepL κ T G l vs := by
  cases d with
  | lst b l' =>
    cases h
    obtain ⟨a, vs, rfl, h1, h2, h3⟩ := r.seqL s
    exact ⟨a, vs, rfl, h1, h2, h3⟩
  | tup l' =>
    cases h
    obtain ⟨a, vs, rfl, h1, h2⟩ := r
    exact ⟨a, vs, rfl, h1.sq (Same.refl G), h1.sq s, h2⟩
  | _ => cases h
theorem SqB.mono {k : Bool} {K : PySem.W.Frag} {G H : Hp} (s : Same G H) {a : Addr} {vs : List V} (h : SqB k K G a vs) : SqB k K H a vs := by
  cases k with
  | true => exact SqT.mono s h
  | false => exact sqL_mono s h
theorem itd_zip {κ : Ctx} {T : Pd} {G0 : Hp} {k k' : Bool} {a b : Addr} {l m : List D} {vs ws : List V} (hl : l.length = m.length) (ha : SqB k κ.K G0 a vs) (hb : SqB k' κ.K G0 b ws) (ra : RepL κ T G0 l vs) (rb : RepL κ T G0 m ws) : ItD κ T G0 (ItS κ.K k k' a b) (zipP l m) := by
  intro i B ρ σ H G hT o s
  have sH := s.trans o.fr.gh
  have qa := ha.mono sH
  have qb := hb.mono sH
  have hz := zipP_len hl
  refine ⟨fun hi => ?_, fun hi => ⟨vs, ws, qa, qb, by rw [ra.length]; omega, by rw [rb.length]; omega⟩, fun d hd x H' y => ?_⟩
  · exact ⟨vs, ws, qa, qb, by rw [ra.length]; omega, by rw [rb.length]; omega⟩
  · obtain ⟨t, x1, x2, rfl, ht, rfl, f1, f2⟩ := y
    obtain ⟨c, e, hc, he, rfl⟩ := zipP_at hd
    obtain ⟨v, h1, h2⟩ := ra.get hc
    obtain ⟨u, h3, h4⟩ := rb.get he
    have g1 := f1 _ qa
    rw [h1] at g1
    cases g1
    have g2 := f2 _ qb
    rw [h3] at g2
    cases g2
    have hg := o.gnone ht
    have sU : Same G (upd G t (.tup [x1, x2])) := Same.upd hg
    refine ⟨upd G t (.tup [x1, x2]), o.alloc ht (fun _ z => by cases z), sU, Same.upd ht, ⟨t, [x1, x2], rfl, .inl upd_same, ⟨x1, [x2], rfl, Rep.mono (.of (s.trans sU)) c h2, ⟨x2, [], rfl, Rep.mono (.of (s.trans sU)) e h4, rfl⟩⟩⟩⟩
section
variable {X : Cx} {κ : Ctx} {W : WX}
theorem i_zip {e e2 : Expr} {n : M (List D)} {p pos tpos kpos cpos : Pos} {j : Nat} {elts : List Expr} {kk : Nat} (hK : X.K = κ.K) (hg : Gl X "zip") (hm : X.mg "zip" = none) (ha : PA X [e, e2] (tA κ W n))
    (hs : starEach [e, e2] X.env = (false, eval e X.env) :: starEach [e2] X.env := by rfl) (hpl : ((backTo pos (starEach [e, e2] X.env)).any (·.1) || (backToKw pos (keywordEach [⟨some "strict", .Constant (.bool true) j cpos, kpos⟩] X.env)).any (·.1.isNone)) = false := by rfl) :
    PI X (.Tuple elts kk tpos) (.Call (.Name "zip" p) [e, e2] [⟨some "strict", .Constant (.bool true) j cpos, kpos⟩] pos) (tI κ W (iZp n)) := by
  refine PI.imp (pi_zipS hg hm ha hs hpl) fun σ H R ⟨B, ρ, G, o, q⟩ => ⟨B, ρ, G, o, Pst.mono (Pst.bind q) fun ds ρ' H' G' o' s q' vs rs => ?_⟩
  cases ds with
  | nil => exact q'.elim
  | cons d r =>
    cases r with
    | nil => exact q'.elim
    | cons e r =>
      cases r with
      | cons _ _ => exact q'.elim
      | nil =>
        have q2 : Pst κ W B σ G' ((match d.seq, e.seq with
          | some (_, l), some (_, m) => if l.length = m.length then M.ret (zipP l m) else M.no
          | _, _ => M.no) ρ') fun l ρ' H' G' => ∀ J, ItD κ B.T G' J l → R J H' := q'
        cases h1 : d.seq with
        | none =>
          rw [h1] at q2
          exact q2.elim
        | some p1 =>
          obtain ⟨k, l⟩ := p1
          cases h2 : e.seq with
          | none =>
            rw [h1, h2] at q2
            exact q2.elim
          | some p2 =>
            obtain ⟨k', m⟩ := p2
            rw [h1, h2] at q2
            dsimp only at q2
            by_cases hl : l.length = m.length
            · rw [if_pos hl] at q2
              obtain ⟨v, us, rfl, r1, w', us', rfl, r2, rfl⟩ := rs
              obtain ⟨a, ws, rfl, g1, g2, g3⟩ := r1.sqB o'.fr.gh h1
              obtain ⟨b, zs, rfl, g4, g5, g6⟩ := r2.sqB o'.fr.gh h2
              refine ⟨k, k', a, b, ws, zs, rfl, hK ▸ g2, hK ▸ g5, ?_⟩
              rw [hK]
              exact Pst.ret q2 o' _ (itd_zip hl g1 g4 g3 g6)
            · rw [if_neg hl] at q2
              exact q2.elim

/-! ### slices -/
def tO (κ : Ctx) (W : WX) (m : M (Option Int)) : TO := fun σ H Q => ∃ B ρ G, Ok κ B ρ σ H G ∧ Pst κ W B σ G (m ρ) fun o _ H' _ => Q o H'
theorem PO.imp {e : Option Expr} {t t' : TO} (h : PO X e t) (f : ∀ σ H Q, t' σ H Q → t σ H Q) : PO X e t' := ⟨fun pins s σ H Q I q => h.run pins s σ H Q I (f _ _ _ q)⟩
def mPN : M (Option Int) := M.ret none
def intM : D → M (Option Int)
  | .int i => M.ret (some i)
  | _ => M.no
def mPS (m : M SD) : M (Option Int) := (fE m).bind intM
theorem o_none : PO X none (tO κ W mPN) := PO.imp po_none fun σ H Q ⟨B, ρ, G, o, q⟩ => Pst.ret q o
theorem o_some {e : Expr} {m : M SD} (h : PE X e (tE κ W m)) : PO X (some e) (tO κ W (mPS m)) := by
  refine PO.imp (po_some h) fun σ H Q ⟨B, ρ, G, o, q⟩ => ?_
  refine tE_fz o (Pst.bind q) fun d ρ1 H1 G1 o1 s1 q1 v1 r1 => ?_
  cases d with
  | int i => exact ⟨i, r1, Pst.ret q1 o1⟩
  | _ => exact q1.elim
def cutD (l : List D) (lo hi : Option Int) : List D := (l.drop (HT.sIx l.length 0 lo)).take (HT.sIx l.length l.length hi - HT.sIx l.length 0 lo)
def slcD : D → Option Int → Option Int → Option SD
  | .lst _ l, lo, hi => some (.ow (.lst false (cutD l lo hi)))
  | .scr l, lo, hi => some (.ow (.lst false (cutD l lo hi)))
  | .tup l, lo, hi => some (.va (.tup (cutD l lo hi)))
  | .str s, lo, hi => if s.length ≤ 1000000 then some (.va (.str (cutS s lo hi))) else none
  | _, _, _ => none
theorem cut_rep {T : Pd} {G : Hp} {l : List D} {vs : List V} (r : RepL κ T G l vs) (lo hi : Option Int) : RepL κ T G (cutD l lo hi) (cutV vs lo hi) := by
  unfold cutD cutV
  rw [r.length]
  exact (r.drop _).take _
def mSl (m : M SD) (ml mh : M (Option Int)) : M SD := (fE m).bind fun d => ml.bind fun lo => mh.bind fun hi => M.opt (slcD d lo hi)
theorem e_slice {e : Expr} {lo hi : Option Expr} {m : M SD} {ml mh : M (Option Int)} {p2 pos : Pos} (hK : X.K = κ.K) (he : PE X e (tE κ W m)) (hl : PO X lo (tO κ W ml)) (hh : PO X hi (tO κ W mh)) : PE X (.Subscript e (.Slice lo hi none p2) pos) (tE κ W (mSl m ml mh)) := by
  refine PE.imp (pe_slice (sl_list.or (sl_tupA.or sl_str)) he hl hh) fun σ H Q ⟨B, ρ, G, o, q⟩ => ?_
  refine tE_fz o (Pst.bind q) fun d ρ1 H1 G1 o1 s1 q1 v1 r1 => ?_
  refine ⟨B, ρ1, G1, o1, Pst.mono (Pst.bind q1) fun lo ρ2 H2 G2 o2 s2 q2 => ?_⟩
  refine ⟨B, ρ2, G2, o2, Pst.mono (Pst.bind q2) fun hi ρ3 H3 G3 o3 s3 q3 => ?_⟩
  have r3 := Rep.mono (.of (s2.trans s3)) d r1
  obtain ⟨z, hz, q4⟩ := Pst.opt q3
  rw [hK]
  cases d with
  | lst b l =>
    cases hz
    obtain ⟨a, vs, rfl, ⟨h1, _⟩, h2⟩ := r3
    exact .inl ⟨a, vs, rfl, SqL.of (o3.fr.gh _ _ h1), fun p hp => q4 _ _ (o3.allocOwn hp) (Same.refl _) _ (o3.newOwn hp ⟨_, upd_same, cut_rep h2 lo hi⟩)⟩
  | scr l =>
    cases hz
    obtain ⟨a, vs, rfl, h1, h2⟩ := r3
    exact .inl ⟨a, vs, rfl, h1.sq o3.fr.gh, fun p hp => q4 _ _ (o3.allocOwn hp) (Same.refl _) _ (o3.newOwn hp ⟨_, upd_same, cut_rep h2 lo hi⟩)⟩
  | tup l =>
    cases hz
    obtain ⟨a, vs, rfl, h1, h2⟩ := r3
    refine .inr (.inl ⟨a, vs, rfl, h1.sq o3.fr.gh, fun hw => ?_, fun hw p hp => ?_⟩)
    · refine q4 _ _ o3 (Same.refl _) _ ⟨a, vs, rfl, h1, ?_⟩
      have c := cut_rep h2 lo hi
      have e : cutV vs lo hi = vs := by
        unfold cutV
        rw [hw.1, hw.2]
        simp
      rw [e] at c
      exact c
    · have hg := o3.gnone hp
      exact q4 _ _ (o3.alloc hp fun _ z => by cases z) (Same.upd hg) _ ⟨p, _, rfl, .inl upd_same, RepL.mono (.of (Same.upd hg)) _ (cut_rep h2 lo hi)⟩
  | str s =>
    have hz' : (if s.length ≤ 1000000 then some (SD.va (.str (cutS s lo hi))) else none) = some z := hz
    split at hz'
    · cases hz'
      exact .inr (.inr ⟨s, r3, line_of (by assumption), q4 _ _ o3 (Same.refl _) _ rfl⟩)
    · cases hz'
  | _ => cases hz

/-! ### list * int -/
def repD : D → D → Option SD
  | .int i, .int j => if mulG i j then some (.va (.int (i * j))) else none
  | .lst _ l, .int k => if -(2 ^ 62) ≤ k ∧ k < 2 ^ 62 ∧ l.length * k.toNat ≤ 1000000 then some (.ow (.lst false (List.replicate k.toNat l).flatten)) else none
  | .str s, .int k => if 2 ≤ k ∧ k < 2 ^ 62 ∧ s.length ≠ 0 ∧ s.length * k.toNat ≤ 1000000 then some (.va (.str ⟨(List.replicate k.toNat s.cps).foldl (· ++ ·) #[]⟩)) else none
  | _, _ => none
/-- a text, some times -/
def rRepS : R2 := fun x y H Q => ∃ (s : Str) (k : Int), x = .str s ∧ y = .int k ∧ 2 ≤ k ∧ k < 2 ^ 62 ∧ s.length ≠ 0 ∧ s.length * k.toNat ≤ 1000000 ∧ Q (.str ⟨(List.replicate k.toNat s.cps).foldl (· ++ ·) #[]⟩) H
theorem op_repS {X : Cx} : OpR X (binaryOp .Mult) rRepS := by
  rintro pins s σ H x y v u Q I rx ry ⟨z, k, rfl, rfl, h1, h2, h3, h4, q⟩
  obtain ⟨t, rfl⟩ := rx
  obtain ⟨t', rfl⟩ := ry
  obtain ⟨n, rfl⟩ : ∃ n : Nat, k = n := ⟨k.toNat, by omega⟩
  rw [Int.toNat_natCast] at h4 q
  have one : ¬ ((n : Int) < 1) := by omega
  have two : ((n : Int) == 1 || z.length == 0) = false := by
    rw [Bool.or_eq_false_iff]
    exact ⟨beq_eq_false_iff_ne.mpr (by omega), beq_eq_false_iff_ne.mpr h3⟩
  have fold : ∀ (m : Nat) (a : Array Nat), ((List.replicate m z.cps).foldl (· ++ ·) a).size = a.size + m * z.cps.size := by
    intro m
    induction m with
    | zero => intro a; simp
    | succ m ih =>
      intro a
      rw [List.replicate_succ, List.foldl_cons, ih, Array.size_append, Nat.succ_mul]
      omega
  have sz : (⟨(List.replicate n z.cps).foldl (· ++ ·) #[]⟩ : Str).length ≤ 1000000 := by
    show ((List.replicate n z.cps).foldl (· ++ ·) #[]).size ≤ 1000000
    rw [fold]
    have e : z.length = z.cps.size := rfl
    rw [e, Nat.mul_comm] at h4
    simp only [List.size_toArray, List.length_nil, Nat.zero_add]
    exact h4
  refine PySem.P.mul_str ?_ (fun _ _ => ?_) (fun _ _ => ?_) ?_
  · rw [decide_eq_false (by omega), decide_eq_false (by omega)]
    rfl
  · have hz : (z.length : Int) ≤ 1000000 := by
      have hp : 1 ≤ n := by omega
      have := Nat.le_trans (Nat.le_mul_of_pos_right z.length hp) h4
      omega
    have hm : z.length * n ≤ 1000000 := h4
    have : (1000000 : Int) ≤ 2 ^ 63 - 1 := by decide
    rw [Int.not_lt]
    refine (Int.le_ediv_iff_mul_le (by omega)).mpr ?_
    have : ((z.length * n : Nat) : Int) ≤ ((1000000 : Nat) : Int) := Int.ofNat_le.mpr hm
    rw [Int.natCast_mul] at this
    omega
  · rw [Int.toNat_natCast]
    exact PyProof.Rows.short24 (by omega)
  · rw [if_neg one, if_neg (by rw [two]; exact Bool.false_ne_true), Int.toNat_natCast]
    exact ⟨line_of sz, .str _, H, I.tok _, ⟨_, rfl⟩, q⟩
theorem RepL.flat {T : Pd} {G : Hp} {l : List D} {vs : List V} (r : RepL κ T G l vs) : ∀ n : Nat, RepL κ T G (List.replicate n l).flatten (List.replicate n vs).flatten
  | 0 => rfl
  | n + 1 => by
    simp only [List.replicate_succ, List.flatten_cons]
    exact r.append (r.flat n)
theorem od_rep : OpD κ (fun x y H Q => rI CMulW (fun i j => .int (i * j)) x y H Q ∨ (rRep x y H Q ∨ rRepS x y H Q)) repD := by
  intro B ρ σ H G d e x y z Q o r1 r2 hz q
  cases d with
  | int i =>
    cases e with
    | int j =>
      have hz' : (if mulG i j then some (SD.va (.int (i * j))) else none) = some z := hz
      split at hz'
      · cases hz'
        exact .inl ⟨i, j, r1, r2, by assumption, q _ H G o (Same.refl G) rfl⟩
      · cases hz'
    | _ => cases hz
  | lst b l =>
    cases e with
    | int k =>
      have hz' : (if -(2 ^ 62) ≤ k ∧ k < 2 ^ 62 ∧ l.length * k.toNat ≤ 1000000 then some (SD.ow (.lst false (List.replicate k.toNat l).flatten)) else none) = some z := hz
      split at hz'
      · rename_i hk
        cases hz'
        obtain ⟨p, vs, rfl, ⟨h1, _⟩, h2⟩ := r1
        refine .inr (.inl ⟨p, k, vs, rfl, r2, o.fr.gh _ _ h1, by omega, by omega, line_of (by rw [h2.length]; exact hk.2.2), fun t ht => ?_⟩)
        exact q _ _ _ (o.allocOwn ht) (Same.refl G) (o.newOwn ht ⟨_, upd_same, h2.flat _⟩)
      · cases hz'
    | _ => cases hz
  | str a =>
    cases e with
    | int k =>
      have hz' : (if 2 ≤ k ∧ k < 2 ^ 62 ∧ a.length ≠ 0 ∧ a.length * k.toNat ≤ 1000000 then some (SD.va (.str ⟨(List.replicate k.toNat a.cps).foldl (· ++ ·) #[]⟩)) else none) = some z := hz
      split at hz'
      · rename_i hk
        cases hz'
        exact .inr (.inr ⟨a, k, r1, r2, hk.1, hk.2.1, hk.2.2.1, hk.2.2.2, q _ H G o (Same.refl G) rfl⟩)
      · cases hz'
    | _ => cases hz
  | _ => cases e <;> cases hz
theorem op_mulX : OpR X (binaryOp .Mult) (fun x y H Q => rI CMulW (fun i j => .int (i * j)) x y H Q ∨ (rRep x y H Q ∨ rRepS x y H Q)) := op_mulW.or (op_rep.or op_repS)

/-! ### a, b, c = .. -/
def sPar3 (i j l : Nat) (m n k : M SD) : S := (fE m).bind fun d => (fE n).bind fun e => (fE k).bind fun f => fun ρ => .ok .nx (((ρ.set i (.va d)).set j (.va e)).set l (.va f))
theorem s_par3 {A : List Nat} {i j l : Nat} {x y z : Str} {a b c : Expr} {m n k : M SD} {px py pz pt pos : Pos} {kt k2 pt2} (hc : X.calm = true) (hN : X.N.Nodup) (hi : X.N[i]? = some x) (hj : X.N[j]? = some y) (hl : X.N[l]? = some z) (hij : i ≠ j) (hil : i ≠ l) (hjl : j ≠ l)
    (hx : X.env.scope.names.lookup x = some .local) (hy : X.env.scope.names.lookup y = some .local) (hz : X.env.scope.names.lookup z = some .local) (ha : PE X a (tE κ W m)) (hb : PE X b (tE κ W n)) (hk : PE X c (tE κ W k))
    (hw : swappedStores [.Tuple [.Name x px, .Name y py, .Name z pz] kt pt] (.Tuple [a, b, c] k2 pt2) X.env = pure (some [x, y, z])) (n1 : A.contains i = false := by rfl) (n2 : A.contains j = false := by rfl) (n3 : A.contains l = false := by rfl)
    (hs : swapsWithSole [.Tuple [.Name x px, .Name y py, .Name z pz] kt pt] (.Tuple [a, b, c] k2 pt2) pos.line X.env = pure false := by rfl)
    (s1 : starEach [a, b, c] X.env = (false, eval a X.env) :: starEach [b, c] X.env := by rfl) (s2 : starEach [b, c] X.env = (false, eval b X.env) :: starEach [c] X.env := by rfl) (s3 : starEach [c] X.env = (false, eval c X.env) :: starEach [] X.env := by rfl) :
    PS X (.Assign [.Tuple [.Name x px, .Name y py, .Name z pz] kt pt] (.Tuple [a, b, c] k2 pt2) pos) (tS κ A W (sPar3 i j l m n k)) := by
  refine PS.imp (ps_par3 hc hN hi hj hl hij hil hjl hx hy hz (pa_cons ha (pa_cons hb (pa_cons hk pa_nil s3) s2) s1) hw hs) fun D σ H ⟨B, ρ, G, an, o, q⟩ => ?_
  refine tE_fz o (PstS.bind q) fun d ρ1 H1 G1 o1 s1 q1 v1 r1 => ?_
  refine tE_fz o1 (PstS.bind q1) fun e ρ2 H2 G2 o2 s2 q2 v2 r2 => ?_
  refine tE_fz o2 (PstS.bind q2) fun f ρ3 H3 G3 o3 s3 q3 v3 r3 => ⟨v1, v2, v3, rfl, ?_⟩
  refine q3 _ H3 G3 (((o3.set i (show RepR κ B ρ3 σ H3 G3 (.va d) v1 from Rep.mono (.of (s2.trans s3)) d r1) (not_anch an n1)).set j (show RepR κ B _ _ H3 G3 (.va e) v2 from Rep.mono (.of s3) e r2) (not_anch an n2)).set l (show RepR κ B _ _ H3 G3 (.va f) v3 from r3) (not_anch an n3)) (Same.refl G3)

/-! ### unpacking: a list or a tuple -/
theorem PG.or {e : Expr} {t t' : TG} (h : PG X e t) (h' : PG X e t') : PG X e (fun v σ H Q => t v σ H Q ∨ t' v σ H Q) := ⟨fun pins s σ H v u Q I r q => by
  rcases q with q | q
  · exact h.run pins s σ H v u Q I r q
  · exact h'.run pins s σ H v u Q I r q⟩
def gSq (n : Nat) (r : List D → List SD → Option (List SD)) : D → List SD → Option (List SD)
  | .tup l, ρ => if l.length = n then r l ρ else none
  | .lst _ l, ρ => if l.length = n then r l ρ else none
  | _, _ => none
theorem g_seq {A vs : List Nat} {es : List Expr} {k n : Nat} {pos : Pos} {gr : List D → List SD → Option (List SD)} (hK : X.K = κ.K) (hc : X.calm = true) (h : PGs X es (tGs κ A vs gr)) (hn : (assignEach es X.env).length = n := by rfl) (hst : (assignEach es X.env).findIdx? (·.1) = none := by rfl) :
    PG X (.Tuple es k pos) (tG κ A vs (gSq n gr)) := by
  refine PG.imp (PG.or (pg_tup hc h hn hst) (pg_unl hc h hn hst)) fun v σ H Q ⟨B, ρ, G, d, ρ', a, o, r, e, q⟩ => ?_
  cases d with
  | tup l =>
    unfold gSq at e
    dsimp only at e
    by_cases hl : l.length = n
    · rw [if_pos hl] at e
      obtain ⟨p, ws, rfl, r1, r2⟩ := r
      exact .inl ⟨p, ws, rfl, by rw [hK]; exact r1.sq o.fr.gh, by rw [r2.length]; exact hl, B, ρ, G, l, ρ', a, o, r2, e, q⟩
    · rw [if_neg hl] at e
      cases e
  | lst b l =>
    unfold gSq at e
    dsimp only at e
    by_cases hl : l.length = n
    · rw [if_pos hl] at e
      obtain ⟨p, ws, rfl, ⟨r1, _⟩, r2⟩ := r
      exact .inr ⟨p, ws, rfl, SqL.of (o.fr.gh _ _ r1), by rw [r2.length]; exact hl, B, ρ, G, l, ρ', a, o, r2, e, q⟩
    · rw [if_neg hl] at e
      cases e
  | _ => cases e

/-! ### a < b < c; what is never reached -/
def chainK (g' : D → D → Option SD) (b : D) (mc : M SD) : SD → M SD
  | .va (.bl true) => (fE mc).bind fun c => M.opt (g' b c)
  | .va (.bl false) => M.ret (.va (.bl false))
  | _ => M.no
def mChain (g g' : D → D → Option SD) (ma mb mc : M SD) : M SD := (fE ma).bind fun a => (fE mb).bind fun b => (M.opt (g a b)).bind (chainK g' b mc)
theorem chain_ok {σ : L2.St} {H : Hp} {Q : VK} {r r' : R2} {g g' : D → D → Option SD} {ma mb mc : M SD} (hr : OpD κ r g) (hr' : OpD κ r' g') (h : tE κ W (mChain g g' ma mb mc) σ H Q) : tChain r r' (tE κ W ma) (tE κ W mb) (tE κ W mc) σ H Q := by
  obtain ⟨B, ρ, G, o, q⟩ := h
  refine tE_fz o (Pst.bind q) fun d ρ1 H1 G1 o1 s1 q1 v1 r1 => ?_
  refine tE_fz o1 (Pst.bind q1) fun e ρ2 H2 G2 o2 s2 q2 v2 r2 => ?_
  obtain ⟨z, hz, q3⟩ := Pst.opt (Pst.bind q2)
  refine hr B ρ2 σ H2 G2 d e v1 v2 z _ o2 (Rep.mono (.of s2) d r1) r2 hz fun v H' G' o' s' rv => ?_
  have q4 := q3 H' G' o' s'
  unfold chainK at q4
  split at q4
  · have rv : v = V.bl true := rv
    subst rv
    refine ⟨true, rfl, iteT ?_⟩
    refine tE_fz o' (Pst.bind q4) fun f ρ3 H3 G3 o3 s3 q5 v3 r3 => ?_
    obtain ⟨z', hz', q6⟩ := Pst.opt q5
    exact hr' B ρ3 σ H3 G3 e f v2 v3 z' Q o3 (Rep.mono (.of (s'.trans s3)) e r2) r3 hz' fun v H4 G4 o4 s4 rv => q6 H4 G4 o4 s4 v rv
  · have rv : v = V.bl false := rv
    subst rv
    exact ⟨false, rfl, iteF (Pst.ret q4 o' _ rfl)⟩
  · exact q4.elim
theorem e_chain {a b c : Expr} {op op' : CmpOp} {r r' : R2} {g g' : D → D → Option SD} {ma mb mc : M SD} {pos : Pos} (ho : OpR X (compareOp op) r) (hr : OpD κ r g) (ho' : OpR X (compareOp op') r') (hr' : OpD κ r' g') (ha : PE X a (tE κ W ma)) (hb : PE X b (tE κ W mb)) (hc : PE X c (tE κ W mc))
    (hm : lastMarks [op, op'] [b, c] = false := by with_unfolding_all rfl) : PE X (.Compare a [op, op'] [b, c] pos) (tE κ W (mChain g g' ma mb mc)) := PE.imp (pe_chain ho ho' ha hb hc hm) fun _ _ _ => chain_ok hr hr'
theorem t_chain {a b c : Expr} {op op' : CmpOp} {r r' : R2} {g g' : D → D → Option SD} {ma mb mc : M SD} {pos : Pos} (ho : OpR X (compareOp op) r) (hr : OpD κ r g) (ho' : OpR X (compareOp op') r') (hr' : OpD κ r' g') (ha : PE X a (tE κ W ma)) (hb : PE X b (tE κ W mb)) (hc : PE X c (tE κ W mc))
    (hm : lastMarks [op, op'] [b, c] = false := by with_unfolding_all rfl) : PT X (.Compare a [op, op'] [b, c] pos) (tT κ W (mTst (mChain g g' ma mb mc))) := PT.imp (pt_chain ho ho' ha hb hc hm) fun _ _ _ q => chain_ok hr hr' (tst_ok q)
theorem e_no {e : Expr} : PE X e (tE κ W M.no) := ⟨fun _ _ _ _ _ _ ⟨_, _, _, _, q⟩ => q.elim⟩
theorem t_no {e : Expr} : PT X e (tT κ W M.no) := ⟨fun _ _ _ _ _ _ ⟨_, _, _, _, q⟩ => q.elim⟩
theorem s_no {A : List Nat} {e : Stmt} : PS X e (tS κ A W M.no) := ⟨fun _ _ _ _ _ _ ⟨_, _, _, _, _, q⟩ => q.elim⟩
theorem ss_no {A : List Nat} {e : List Stmt} : PSs X e (tS κ A W M.no) := ⟨fun _ _ _ _ _ _ ⟨_, _, _, _, _, q⟩ => q.elim⟩
/-- a written tuple -/
theorem rep_ktup {T : Pd} {G : Hp} {a : Addr} {l : List D} {vs : List V} (h : KT κ.K a vs) (r : RepL κ T G l vs) : Rep κ T G (.tup l) (.ref a) := ⟨a, vs, rfl, .inr h, r⟩
end
end Fm
set_option maxHeartbeats 390000
namespace Fm
open L2 PySem PySem.Spec PyProof.Rows

/-! ### what a def leaves in its parameters: told for its callers' own objects alone -/
def nrm : List SD → List SD → List SD
  | .ow _ :: as, o :: os => o :: nrm as os
  | _ :: as, _ :: os => .un :: nrm as os
  | _, _ => []
def nrmF (as : List SD) : FR → FR
  | .ok r os => .ok r (nrm as os)
  | .ex x os => .ex x (nrm as os)
  | .no => .no
theorem nrm_at : ∀ {as os : List SD} {i : Nat} {d : D}, as[i]? = some (SD.ow d) → (nrm as os)[i]? = os[i]?
  | [], os, i, d, h => by simp at h
  | a :: as, [], i, d, h => by
    cases a <;> unfold nrm <;> simp
  | .ow c :: as, o :: os, 0, d, h => by
    unfold nrm
    rfl
  | .va c :: as, o :: os, 0, d, h => by cases h
  | .un :: as, o :: os, 0, d, h => by cases h
  | a :: as, o :: os, i + 1, d, h => by
    have ih := nrm_at (as := as) (os := os) (i := i) (d := d) h
    cases a <;> (unfold nrm; exact ih)
theorem After.nrm {κ : Ctx} {T : Pd} {G H : Hp} {as : List SD} {vs : List V} {os : List SD} {H' G' : Hp} (a : After κ T G H as vs os H' G') : After κ T G H as vs (nrm as os) H' G' :=
  ⟨a.keep, a.frz, a.sub, a.gh, a.notb, a.tabs, fun i d p e1 e2 => by
    rw [nrm_at e1]
    exact a.outs i d p e1 e2⟩
theorem ResOk.nrm {κ : Ctx} {T : Pd} {H : Hp} {as : List SD} {vs : List V} {os : List SD} {H' G' : Hp} {r : SD} {v : V} (a : ResOk κ T H as vs os H' G' r v) : ResOk κ T H as vs (nrm as os) H' G' r v := by
  cases r with
  | un => exact a
  | va d => exact a
  | ow d =>
    obtain ⟨q, e, h1, h2, h3, h4⟩ := a
    exact ⟨q, e, h1, h2, h3, fun i c p c' e1 e2 e3 => h4 i c p c' e1 e2 (by rw [← nrm_at e1]; exact e3)⟩
theorem spF_nrm {κ : Ctx} {n : Nat} {f : List SD → FR} {vs : List V} {H : Hp} {Q : VK} {E : XK} (q : spF κ n (fun as => nrmF as (f as)) vs H Q E) : spF κ n f vs H Q E := by
  obtain ⟨T, G, as, hl, p, q⟩ := q
  refine ⟨T, G, as, hl, p, ?_⟩
  cases e : f as with
  | ok r os =>
    simp only [e, nrmF] at q
    exact fun v H' G' a b => q v H' G' a.nrm b.nrm
  | ex x os =>
    simp only [e, nrmF] at q
    exact fun cls d H' G' a b => q cls d H' G' a.nrm b
  | no =>
    simp only [e, nrmF] at q
def runN (A : List Nat) (N : Nat) (s : S) (as : List SD) : FR := nrmF as (runF A N s as)
section
variable {P : Program} {w : World} {K : PySem.W.Frag} {f : Addr} {fd : FuncData} {mg : Str → Option Value} {base : Heap} {x qual : Str} {params : Arguments} {body : List Stmt} {scope : Scope} {dvs : List V} {kws : List (Str × V)}
theorem FnOk.weak {CX : CXT} {k : Nat} {ps : List Str} {sp sp' : Sp} (F : FnOk P w K mg base CX k f fd ps sp) (h : ∀ vs H Q E, sp' vs H Q E → sp vs H Q E) : FnOk P w K mg base CX k f fd ps sp' :=
  { F with
    len := fun vs H Q E q => F.len vs H Q E (h vs H Q E q)
    run := fun A outer s H args us vs Q E a b c d e => F.run A outer s H args us vs Q E a b c d (h vs H Q E e) }
/-- THE RULE of a def: its body does s -/
theorem def_okN {κ : Ctx} {A : List Nat} {N ps : List Str} {k : Nat} {s : S} (F : FunD K x qual params body scope dvs kws f fd) (Sc : FnScope N ps scope)
    (hbody : ∀ (cdv : Value) (Ar : Around) (outer : List Env) (s0 : Shared) (H : Hp) (E : XK), Room k (Ar.deeper (envOfC qual scope s0.heap.objs.size f cdv)) →
      PSs (cxOf (L2.CX P w) P w K mg base N qual scope f cdv Ar outer s0 H E) body (tS κ A (fun cls d _ H => E cls d H) s)) : FnOk P w K mg base (L2.CX P w) (k + 1) f fd ps (spF κ ps.length (runN A N.length s)) :=
  FnOk.weak (def_ok F Sc hbody) fun _ _ _ _ q => spF_nrm q
theorem def_okNC {κ : Ctx} {A : List Nat} {N ps : List Str} {k : Nat} {s : S} (F : FunD K x qual params body scope dvs kws f fd) (Sc : FnScope N ps scope)
    (hbody : ∀ (cdv : Value) (Ar : Around) (outer : List Env) (s0 : Shared) (H : Hp) (E : XK), fd.code = cdv → Room k (Ar.deeper (envOfC qual scope s0.heap.objs.size f cdv)) →
      PSs (cxOf (L2.CX P w) P w K mg base N qual scope f cdv Ar outer s0 H E) body (tS κ A (fun cls d _ H => E cls d H) s)) : FnOk P w K mg base (L2.CX P w) (k + 1) f fd ps (spF κ ps.length (runN A N.length s)) :=
  FnOk.weak (def_okC F Sc hbody) fun _ _ _ _ q => spF_nrm q
end
/-- a def that may be called by its name -/
structure Callee (P : Program) (w : World) (K : PySem.W.Frag) (mg : Str → Option Value) (base : Heap) (κ : Ctx) (x : Str) (k : Nat) (ps : List Str) (fn : List SD → FR) (f : Addr) (fd : FuncData) : Prop where
  ok : FnOk P w K mg base (L2.CX P w) k f fd ps (spF κ ps.length fn)
  gl : mg x = some (.ref f)
  kp : PySem.W.keepIn K (Value.ref f) = true
section
variable {X : Cx} {κ : Ctx} {W : WX} {k k' : Nat} {f : Addr} {fd : FuncData} {ps : List Str} {fn : List SD → FR} {x : Str} {p pos : Pos} {e : Expr} {es : List Expr} {n : M (List Ar)}
/-- f(e, ..), all parameters given -/
theorem e_callC (C : Callee X.prog X.w X.K X.mg X.base κ x k ps fn f fd) (hb : Binds X.K fd ps []) (hr : Room k' X.A) (hk : k ≤ k') (hg : Gl X x) (hx : PassW X W) (ha : PA X (e :: es) (tAr κ W n)) (hl : ALen n ps.length) (hdb : (x == ("__debug__" : Str)) = false := by decide) (he : starEach (e :: es) X.env = (false, eval e X.env) :: starEach es X.env := by rfl) (hpl : (backTo pos (starEach es X.env)).any (·.1) = false := by rfl) :
    PE X (.Call (.Name x p) (e :: es) [] pos) (tE κ W (mCall fn [] n)) :=
  e_call C.ok rfl (hr.mono hk) hg C.gl C.kp hb .nil (fun _ _ => rfl) hx ha (alen_ok hl (Nat.add_zero _)) hdb he hpl
theorem e_one {op : BoolOp} {a : Expr} {m : M SD} (h : PE X a (tE κ W m)) : PE X (.BoolOp op [a] pos) (tE κ W m) := pe_one h
end
end Fm
set_option maxHeartbeats 390000
namespace Fm
open L2 PySem PySem.Spec PyProof.Rows

/-! ### the end of a law -/
theorem ints_rep {κ : Ctx} {T : Pd} {G : Hp} : ∀ ns : List Int, RepL κ T G (ns.map D.int) (ns.map V.int)
  | [] => rfl
  | n :: ns => ⟨.int n, ns.map V.int, rfl, rfl, ints_rep ns⟩
/-- what a law's def has to answer: at every script True -/
def Truth (f : List SD → FR) : Prop := ∀ ns : List Int, ns.length ≤ 63 → (∀ z ∈ ns, Builtin.Int.intBits z ≤ 1048576) → ∀ d : D, d = .scr (ns.map D.int) ∨ d = .lst false (ns.map D.int) → ∃ outs, f [.va d] = .ok (.va (.bl true)) outs
/-- .. is enough -/
theorem law_at {l : PySem.W.OpenLaw} {w : World} {K : PySem.W.Frag} {cl : String → Addr} {tabs : List (Addr × Str)} {cs : List (Addr × Addr)} {k : Nat} {x : Str} {mg : Str → Option Value} {fa : Addr} {h : Heap} {fd : FuncData} {f : List SD → FR}
    (ht : ∀ p ∈ tabs, ∃ c, (c, p.1) ∈ cs) (h1 : ∀ p ∈ cs, h.get? p.2 = some { cls := .none, data := .fields #[] }) (h2 : ∀ p ∈ cs, K.lookup p.2 = none) (h3 : ∀ p ∈ cs, PySem.W.CodeHd h p.1 p.2)
    (hb : ∀ (s : Shared) (u : Value), BindsTo s fd ⟨[u], []⟩ [(x, u)]) (hf : Truth f)
    (F : ∀ base : Heap, K.In base → base.Ns mainGlobals mg → (∀ p ∈ cs, LamX.TabB base mg p.1 p.2) → FnOk l.prog w K mg base (L2.CX l.prog w) k fa fd [x] (spF ⟨K, cl, tabs⟩ 1 f)) :
    LamX.LawAtS l w K (L2.CX l.prog w) k 63 x mg fa h := by
  refine ⟨fd, cs, _, h1, h2, h3, hb, fun H a ns hl hbits hH hS => ?_, F⟩
  have tb : LamX.Tabs tabs H := fun p hp => by
    obtain ⟨c, hc⟩ := ht p hp
    exact LamX.TabS.nil (hH _ hc)
  have fin : ∀ (G : Hp) (d : D), (d = .scr (ns.map D.int) ∨ d = .lst false (ns.map D.int)) → Same G H → (∀ a ps, G a ≠ some (.tbl ps)) → Rep ⟨K, cl, tabs⟩ (fun _ => False) G d (.ref a) → spF ⟨K, cl, tabs⟩ 1 f [.ref a] H (fun v _ => v = .bl true) fun _ _ _ => False := fun G d hd s nb r => by
    obtain ⟨outs, e⟩ := hf ns hl hbits d hd
    refine ⟨fun _ => False, G, [.va d], rfl, ⟨⟨_, [], rfl, r, rfl⟩, List.nodup_nil, s, nb, tb, fun _ z => z.elim⟩, ?_⟩
    rw [e]
    exact fun v H' G' _ rv => rv
  have one : ∀ o : HO, H a = some o → (∀ ps, o ≠ .tbl ps) → Same (fun b => if b = a then some o else none) H ∧ ∀ b ps, (fun b => if b = a then some o else none : Hp) b ≠ some (.tbl ps) := fun o ho n => by
    refine ⟨fun b u e => ?_, fun b ps e => ?_⟩
    · by_cases hb : b = a
      · simp only [hb, if_true] at e
        rw [hb, ho, e]
      · simp only [if_neg hb] at e
        cases e
    · by_cases hb : b = a
      · simp only [hb, if_true] at e
        exact n ps (Option.some.inj e)
      · simp only [if_neg hb] at e
        cases e
  rcases hS with (hS | ⟨o, hS⟩) | hS
  · obtain ⟨q1, q2⟩ := one _ hS fun _ z => by cases z
    exact fin _ _ (.inr rfl) q1 q2 ⟨a, ns.map V.int, rfl, ⟨if_pos rfl, fun z => z.elim, fun z => by cases z⟩, ints_rep ns⟩
  · obtain ⟨q1, q2⟩ := one _ hS fun _ z => by cases z
    exact fin _ _ (.inl rfl) q1 q2 ⟨a, ns.map V.int, rfl, .inl ⟨o, if_pos rfl⟩, ints_rep ns⟩
  · exact fin (fun _ => none) _ (.inl rfl) (fun _ _ e => by cases e) (fun _ _ e => by cases e) ⟨a, ns.map V.int, rfl, .inr hS, ints_rep ns⟩
theorem cx_no {P : Program} {w : World} {H : Hp} {s : Shared} {e : Value} {s' : Shared} (h : L2.CX P w [] H s (fun _ _ _ => False) e s') : False := by
  exact h.elim fun _ ⟨_, _, _, _, _, _, _, _, _, _, _, z⟩ => z
/-- a module's name that is a tuple -/
theorem tupB_kt {K : PySem.W.Frag} {x : Str} {vs : List He.Dv} (h : He.tupB K x vs = true) : KT K (He.ga K x) (vs.map (He.Dv.v K)) := by
  unfold He.tupB at h
  cases q : K.lookup (He.ga K x) with
  | none =>
    rw [q] at h
    cases h
  | some o =>
    obtain ⟨oc, od, dt, osl⟩ := o
    rw [q] at h
    cases oc with
    | type c =>
      cases dt with
      | seq its n =>
        obtain ⟨h1, h2⟩ := He.ba (show (decide (c = "tuple") && (decide (its.size ≤ sizeLine) && He.relAll (vs.map (He.Dv.v K)) its.toList)) = true from h)
        obtain ⟨h3, h4⟩ := He.ba h2
        exact ⟨_, its, n, q, congrArg Value.type (of_decide_eq_true h1), rfl, of_decide_eq_true h3, He.relAll_ok h4⟩
      | _ => cases h
    | _ => cases h
/-- all parameters given -/
theorem FunD.bindsF {K : PySem.W.Frag} {x qual : Str} {params : Arguments} {body : List Stmt} {scope : Scope} {dvs : List V} {f : Addr} {fd : FuncData} {ps : List Str} (F : FunD K x qual params body scope dvs [] f fd) (hd : dvs ≠ [])
    (h : ∀ (T : Addr) (kV doc pm : Value) (an : Option Addr) (cdv ct : Value) (us its : List Value), us.length = ps.length → its.length = dvs.length →
      ∃ k, bindArgs (PySem.W.fnOf x qual params body scope (.ref T) kV doc pm an cdv ct) ⟨us, []⟩ = seqItems? (.ref T) >>= k ∧ k (some its.toArray) = pure (ps.zip (us ++ its.drop dvs.length))) : Binds K fd ps [] := by
  obtain ⟨ds, v, b⟩ := L2.FunD.binds1 F ps.length dvs.length hd (by omega) h
  rw [List.drop_length] at v
  cases v
  exact b
end Fm
set_option maxHeartbeats 390000
namespace Fm
open L2 PySem PySem.Spec PyProof.Rows

/-! ### turns -/
def lcT (vs : List Nat) (tg : D → List SD → Option (List SD)) (tt : M Bool) (te : M SD) (d : D) (ρ : List SD) : Rs (Option D) := match tg d (wipeR ρ vs) with
  | none => .no
  | some ρ1 => match tt ρ1 with
    | .ok false ρ2 => .ok none (unw ρ ρ2 vs)
    | .ok true ρ2 => match fE te ρ2 with
      | .ok y ρ3 => .ok (some y) (unw ρ ρ3 vs)
      | _ => .no
    | _ => .no
section
variable {vs : List Nat} {tg : D → List SD → Option (List SD)} {tt : M Bool} {te : M SD}
theorem lcL_step {d : D} {l acc : List D} {ρ : List SD} : lcL vs tg tt te (d :: l) acc ρ = match tg d (wipeR ρ vs) with
    | none => .no
    | some ρ1 => match tt ρ1 with
      | .ok false ρ2 => lcL vs tg tt te l acc (unw ρ ρ2 vs)
      | .ok true ρ2 => match fE te ρ2 with
        | .ok y ρ3 => if acc.length < 1000000 then lcL vs tg tt te l (acc ++ [y]) (unw ρ ρ3 vs) else .no
        | _ => .no
      | _ => .no := rfl
theorem lcL_some {d : D} {l acc : List D} {ρ ρ' : List SD} {y : D} (h : lcT vs tg tt te d ρ = .ok (some y) ρ') (ha : acc.length < 1000000) : lcL vs tg tt te (d :: l) acc ρ = lcL vs tg tt te l (acc ++ [y]) ρ' := by
  rw [lcL_step]
  unfold lcT at h
  revert h
  cases tg d (wipeR ρ vs) with
  | none => intro h; cases h
  | some ρ1 =>
    dsimp only
    cases tt ρ1 with
    | ok k ρ2 =>
      cases k with
      | false => intro h; cases h
      | true =>
        dsimp only
        cases fE te ρ2 with
        | ok z ρ3 =>
          intro h
          cases h
          exact if_pos ha
        | ex x ρ3 => intro h; cases h
        | no => intro h; cases h
    | ex x ρ2 => intro h; cases h
    | no => intro h; cases h
theorem lcL_none {d : D} {l acc : List D} {ρ ρ' : List SD} (h : lcT vs tg tt te d ρ = .ok none ρ') : lcL vs tg tt te (d :: l) acc ρ = lcL vs tg tt te l acc ρ' := by
  rw [lcL_step]
  unfold lcT at h
  revert h
  cases tg d (wipeR ρ vs) with
  | none => intro h; cases h
  | some ρ1 =>
    dsimp only
    cases tt ρ1 with
    | ok k ρ2 =>
      cases k with
      | false => intro h; cases h; rfl
      | true =>
        dsimp only
        cases fE te ρ2 with
        | ok z ρ3 => intro h; cases h
        | ex x ρ3 => intro h; cases h
        | no => intro h; cases h
    | ex x ρ2 => intro h; cases h
    | no => intro h; cases h
/-- a comprehension whose turns each give something -/
theorem lc_ex {l : List D} (I : Nat → List SD → Prop) (P : Nat → D → Prop) (step : ∀ (i : Nat) (d : D) (ρ : List SD), l[i]? = some d → I i ρ → ∃ y ρ', lcT vs tg tt te d ρ = .ok (some y) ρ' ∧ P i y ∧ I (i + 1) ρ') {ρ : List SD} (h0 : I 0 ρ) (hl : l.length ≤ 1000000) :
    ∃ ys ρ', lcL vs tg tt te l [] ρ = .ok ys ρ' ∧ ys.length = l.length ∧ (∀ (i : Nat) (y : D), ys[i]? = some y → P i y) ∧ I l.length ρ' := by
  have go : ∀ (n : Nat) (m acc : List D) (i : Nat) (ρ : List SD), m.length = n → l.drop i = m → acc.length = i → i ≤ l.length → (∀ (i : Nat) (y : D), acc[i]? = some y → P i y) → I i ρ →
      ∃ ys ρ', lcL vs tg tt te m acc ρ = .ok ys ρ' ∧ ys.length = l.length ∧ (∀ (i : Nat) (y : D), ys[i]? = some y → P i y) ∧ I l.length ρ' := by
    intro n
    induction n with
    | zero =>
      intro m acc i ρ hn hd ha hi hp hI
      have hm : m = [] := List.eq_nil_of_length_eq_zero hn
      subst hm
      have hi' : i = l.length := by
        have z := List.drop_eq_nil_iff.mp hd
        omega
      subst hi'
      exact ⟨acc, ρ, by rw [lcL], ha, hp, hI⟩
    | succ n ih =>
      intro m acc i ρ hn hd ha hi hp hI
      cases m with
      | nil => cases hn
      | cons d m =>
        have hlt : i < l.length := by
          have z := congrArg List.length hd
          rw [List.length_drop, List.length_cons] at z
          omega
        have hgd : l[i]? = some d := by
          rw [List.drop_eq_getElem_cons hlt] at hd
          rw [List.getElem?_eq_getElem hlt]
          cases hd
          rfl
        have hm : l.drop (i + 1) = m := by
          rw [List.drop_eq_getElem_cons hlt] at hd
          cases hd
          rfl
        obtain ⟨y, ρ', e1, e2, e3⟩ := step i d ρ hgd hI
        rw [lcL_some e1 (by omega)]
        refine ih m (acc ++ [y]) (i + 1) ρ' (by simpa using hn) hm (by rw [List.length_append, ha]; rfl) hlt (fun j z hz => ?_) e3
        by_cases hj : j < acc.length
        · rw [List.getElem?_append_left hj] at hz
          exact hp j z hz
        · rw [List.getElem?_append_right (by omega)] at hz
          have : j = i := by
            have q := (List.getElem?_eq_some_iff.mp hz).1
            simp at q
            omega
          subst this
          rw [ha, Nat.sub_self] at hz
          cases hz
          exact e2
  exact go l.length l [] 0 ρ rfl rfl rfl (Nat.zero_le _) (fun i y h => by simp at h) h0
/-- a comprehension that changes nothing -/
theorem lc_map {l : List D} {ρ : List SD} (f : D → D) (step : ∀ d ∈ l, lcT vs tg tt te d ρ = .ok (some (f d)) ρ) (hl : l.length ≤ 1000000) : lcL vs tg tt te l [] ρ = .ok (l.map f) ρ := by
  have go : ∀ (m acc : List D), (∀ d ∈ m, lcT vs tg tt te d ρ = .ok (some (f d)) ρ) → acc.length + m.length ≤ 1000000 → lcL vs tg tt te m acc ρ = .ok (acc ++ m.map f) ρ := by
    intro m
    induction m with
    | nil =>
      intro acc _ _
      rw [lcL]
      simp
    | cons d m ih =>
      intro acc h hz
      rw [List.length_cons] at hz
      rw [lcL_some (h d (List.mem_cons_self ..)) (by omega), ih _ (fun e he => h e (List.mem_cons_of_mem _ he)) (by rw [List.length_append, List.length_singleton]; omega)]
      simp
  have z := go l [] step (by simpa using hl)
  simpa using z
end
/-- a for loop whose turns all go on -/
theorem for_ex {tg : D → List SD → Option (List SD)} {b : S} {l : List D} (I : Nat → List SD → Prop) (step : ∀ (i : Nat) (d : D) (ρ : List SD), l[i]? = some d → I i ρ → ∃ ρ1 ρ2, tg d ρ = some ρ1 ∧ (b ρ1 = .ok .nx ρ2 ∨ b ρ1 = .ok .ct ρ2) ∧ I (i + 1) ρ2) {ρ : List SD} (h0 : I 0 ρ) :
    ∃ ρ', forL tg b l ρ = .ok .nx ρ' ∧ I l.length ρ' := by
  have go : ∀ (m : List D) (i : Nat) (ρ : List SD), l.drop i = m → i ≤ l.length → I i ρ → ∃ ρ', forL tg b m ρ = .ok .nx ρ' ∧ I l.length ρ' := by
    intro m
    induction m with
    | nil =>
      intro i ρ hd hi hI
      have hi' : i = l.length := by
        have z := List.drop_eq_nil_iff.mp hd
        omega
      subst hi'
      exact ⟨ρ, rfl, hI⟩
    | cons d m ih =>
      intro i ρ hd hi hI
      have hlt : i < l.length := by
        have z := congrArg List.length hd
        rw [List.length_drop, List.length_cons] at z
        omega
      have hgd : l[i]? = some d := by
        rw [List.drop_eq_getElem_cons hlt] at hd
        rw [List.getElem?_eq_getElem hlt]
        cases hd
        rfl
      have hm : l.drop (i + 1) = m := by
        rw [List.drop_eq_getElem_cons hlt] at hd
        cases hd
        rfl
      obtain ⟨ρ1, ρ2, e1, e2, e3⟩ := step i d ρ hgd hI
      obtain ⟨ρ', e4, e5⟩ := ih (i + 1) ρ2 hm hlt e3
      refine ⟨ρ', ?_, e5⟩
      unfold forL
      simp only [e1]
      rcases e2 with e2 | e2 <;> simp only [e2, e4]
  exact go l 0 ρ rfl (Nat.zero_le _) h0
/-- ranges -/
theorem rngD_len (lo : Int) (n : Nat) : (rngD lo n).length = n := by simp [rngD]
theorem rngD_at {lo : Int} {n i : Nat} (h : i < n) : (rngD lo n)[i]? = some (.int (lo + (i : Nat))) := by
  unfold rngD
  rw [List.getElem?_map, List.getElem?_range h]
  rfl
theorem peq_int (a b : Int) : peq (.int a) (.int b) = decide (a = b) := by
  show PyData.eqv (.int a) (.int b) = _
  unfold PyData.eqv
  rfl
theorem pl_int (n : Nat) (a : Int) : D.pl n (.int a) = true := by cases n <;> rfl
end Fm
set_option maxHeartbeats 390000
namespace Fm
open L2 PySem PySem.Spec PyProof.Rows

/-! ### numbers -/
theorem fmod_small (a : Int) {b : Int} (hb : b ≠ 0) : (a.fmod b).natAbs < b.natAbs := by
  rw [Int.fmod_eq_emod]
  have h1 := Int.emod_nonneg a hb
  have h2 := Int.emod_lt a hb
  split
  · omega
  · rename_i h
    have h3 : a % b ≠ 0 := fun z => h (.inr (Int.dvd_of_emod_eq_zero z))
    have h4 : ¬ 0 ≤ b := fun z => h (.inl z)
    omega
theorem gcd_fmod (a b : Int) : Int.gcd b (a.fmod b) = Int.gcd a b := by
  rw [Int.fmod_def, Int.gcd_sub_mul_left_right, Int.gcd_comm]
/-- size -/
def Sz (k : Nat) (i : Int) : Prop := i.natAbs < 2 ^ k
theorem Sz.mono {j k : Nat} {i : Int} (h : Sz j i) (l : j ≤ k) : Sz k i := Nat.lt_of_lt_of_le h (Nat.pow_le_pow_right (by decide) l)
theorem Sz.mul {j k : Nat} {a b : Int} (h : Sz j a) (l : Sz k b) : Sz (j + k) (a * b) := by
  unfold Sz at *
  rw [Nat.pow_add]; rw [Int.natAbs_mul]
  exact Nat.mul_lt_mul'' h l
theorem Sz.add {j : Nat} {a b : Int} (h : Sz j a) (l : Sz j b) : Sz (j + 1) (a + b) := by
  unfold Sz at *
  have z := Int.natAbs_add_le a b
  rw [Nat.pow_succ]
  omega
theorem Sz.neg {j : Nat} {a : Int} (h : Sz j a) : Sz j (-a) := by
  unfold Sz at *
  rw [Int.natAbs_neg]
  exact h
theorem Sz.sub {j : Nat} {a b : Int} (h : Sz j a) (l : Sz j b) : Sz (j + 1) (a - b) := by
  rw [Int.sub_eq_add_neg]
  exact h.add l.neg
theorem log2_le {n k : Nat} (h : n < 2 ^ k) : n.log2 ≤ k := by
  by_cases hn : n = 0
  · rw [hn]
    exact Nat.zero_le _
  · exact Nat.le_of_lt ((Nat.log2_lt hn).mpr h)
theorem mulG_of {j k : Nat} {a b : Int} (h : Sz j a) (l : Sz k b) (s : j + k < 1000000) : mulG a b := by
  have h1 := log2_le h
  have h2 := log2_le l
  unfold mulG
  omega
theorem divG_of {k : Nat} {a b : Int} (hb : b ≠ 0) (l : Sz k b) (s : k < 9000) : divG a b := by
  have h2 := log2_le l
  exact ⟨hb, .inl (by omega)⟩
/-! ### lowest terms -/
def byG (a b : Int) : Int := if b < 0 then 0 - (Int.gcd a b : Int) else (Int.gcd a b : Int)
def lo (a b : Int) : Int × Int := (a.fdiv (byG a b), b.fdiv (byG a b))
theorem byG_ne {a b : Int} (hb : b ≠ 0) : byG a b ≠ 0 := by
  have h : Int.gcd a b ≠ 0 := fun z => hb (Int.gcd_eq_zero_iff.mp z).2
  unfold byG
  split <;> omega
theorem byG_dvd (a b : Int) : byG a b ∣ a ∧ byG a b ∣ b := by
  have h1 : (Int.gcd a b : Int) ∣ a := Int.gcd_dvd_left ..
  have h2 : (Int.gcd a b : Int) ∣ b := Int.gcd_dvd_right ..
  unfold byG
  split
  · rw [Int.zero_sub]
    exact ⟨Int.neg_dvd.mpr h1, Int.neg_dvd.mpr h2⟩
  · exact ⟨h1, h2⟩
theorem lo_mul {a b : Int} : (lo a b).1 * byG a b = a ∧ (lo a b).2 * byG a b = b := ⟨Int.fdiv_mul_cancel (byG_dvd a b).1, Int.fdiv_mul_cancel (byG_dvd a b).2⟩
theorem lo_pos {a b : Int} (hb : b ≠ 0) : 0 < (lo a b).2 := by
  have h := (lo_mul (a := a) (b := b)).2
  have hn := byG_ne (a := a) hb
  have hg : (0 : Int) < (Int.gcd a b : Int) := by
    have h : Int.gcd a b ≠ 0 := fun z => hb (Int.gcd_eq_zero_iff.mp z).2
    omega
  by_cases hs : b < 0
  · have e : byG a b = 0 - (Int.gcd a b : Int) := if_pos hs
    rw [e] at h
    rcases Int.lt_trichotomy (lo a b).2 0 with z | z | z
    · have := Int.mul_pos_of_neg_of_neg z (show 0 - (Int.gcd a b : Int) < 0 by omega)
      omega
    · rw [z] at h
      omega
    · exact z
  · have e : byG a b = (Int.gcd a b : Int) := if_neg hs
    rw [e] at h
    rcases Int.lt_trichotomy (lo a b).2 0 with z | z | z
    · have := Int.mul_neg_of_neg_of_pos z hg
      omega
    · rw [z] at h
      omega
    · exact z
theorem natAbs_byG (a b : Int) : (byG a b).natAbs = Int.gcd a b := by
  unfold byG
  split <;> omega
theorem lo_gcd {a b : Int} (hb : b ≠ 0) : Int.gcd (lo a b).1 (lo a b).2 = 1 := by
  obtain ⟨h1, h2⟩ := lo_mul (a := a) (b := b)
  have h : Int.gcd ((lo a b).1 * byG a b) ((lo a b).2 * byG a b) = Int.gcd a b := by rw [h1, h2]
  rw [Int.gcd_mul_right, natAbs_byG] at h
  have hp : 0 < Int.gcd a b := Nat.pos_of_ne_zero fun z => hb (Int.gcd_eq_zero_iff.mp z).2
  exact Nat.eq_of_mul_eq_mul_right hp (by rw [h, Nat.one_mul])
theorem lo_cross {a b : Int} : (lo a b).1 * b = a * (lo a b).2 := by
  obtain ⟨h1, h2⟩ := lo_mul (a := a) (b := b)
  have e : (lo a b).1 * ((lo a b).2 * byG a b) = (lo a b).1 * byG a b * (lo a b).2 := by
    rw [Int.mul_comm (lo a b).2, Int.mul_assoc]
  rw [h2, h1] at e
  exact e
theorem lo_sz {a b : Int} {j k : Nat} (hb : b ≠ 0) (ha : Sz j a) (hk : Sz k b) : Sz j (lo a b).1 ∧ Sz k (lo a b).2 := by
  obtain ⟨h1, h2⟩ := lo_mul (a := a) (b := b)
  have hp : 1 ≤ (byG a b).natAbs := by
    have := byG_ne (a := a) hb
    omega
  have go : ∀ {x y : Int}, x * byG a b = y → x.natAbs ≤ y.natAbs := fun {x y} e => by
    rw [← e, Int.natAbs_mul]
    exact Nat.le_mul_of_pos_right _ hp
  exact ⟨Nat.lt_of_le_of_lt (go h1) ha, Nat.lt_of_le_of_lt (go h2) hk⟩

/-! ### places -/
theorem ixN_nat (len n : Nat) : ixN len (n : Int) = if n < len then some n else none := by
  unfold ixN
  rw [if_pos (Int.natCast_nonneg n)]
  by_cases h : n < len
  · rw [if_pos (show n < len from h), if_pos (by omega)]
    rfl
  · rw [if_neg (show ¬ n < len from h), if_neg (by omega)]
theorem ixN_0 (len : Nat) : ixN len 0 = if 0 < len then some 0 else none := ixN_nat len 0
theorem ixN_1 (len : Nat) : ixN len 1 = if 1 < len then some 1 else none := ixN_nat len 1
theorem ixN_2 (len : Nat) : ixN len 2 = if 2 < len then some 2 else none := ixN_nat len 2
theorem ixN_3 (len : Nat) : ixN len 3 = if 3 < len then some 3 else none := ixN_nat len 3
theorem ixN_4 (len : Nat) : ixN len 4 = if 4 < len then some 4 else none := ixN_nat len 4
theorem atI_nat {α : Type} (l : List α) (n : Nat) : atI l (n : Int) = l[n]? := by
  unfold atI
  rw [ixN_nat]
  by_cases h : n < l.length
  · rw [if_pos h]
    rfl
  · rw [if_neg h, List.getElem?_eq_none_iff.mpr (by omega)]
    rfl
theorem atI_0 {α : Type} (l : List α) : atI l 0 = l[0]? := atI_nat l 0
theorem atI_1 {α : Type} (l : List α) : atI l 1 = l[1]? := atI_nat l 1
theorem atI_2 {α : Type} (l : List α) : atI l 2 = l[2]? := atI_nat l 2
theorem atI_3 {α : Type} (l : List α) : atI l 3 = l[3]? := atI_nat l 3
theorem atI_4 {α : Type} (l : List α) : atI l 4 = l[4]? := atI_nat l 4
end Fm
set_option maxHeartbeats 390000
namespace Fm
open L2 PySem PySem.Spec PyProof.Rows

/-- turns enough for a number that goes down to 0 -/
def absFuel (i : Nat) (ρ : List SD) : Nat := match ρ[i]? with
  | some (.va (.int b)) => b.natAbs + 2
  | _ => 0
/-! ### what is wanted behind a piece: a calculus over data -/
structure Wp {α : Type} (m : M α) (ρ : List SD) (p : α → List SD → Prop) (E : Exn → List SD → Prop) : Prop where
  run : match m ρ with
    | .ok a ρ' => p a ρ'
    | .ex x ρ' => E x ρ'
    | .no => False
structure Fw (r : FR) (p : SD → List SD → Prop) (E : Exn → List SD → Prop) : Prop where
  run : match r with
    | .ok a o => p a o
    | .ex x o => E x o
    | .no => False
abbrev NoX : Exn → List SD → Prop := fun _ _ => False
def Ow (r : Option SD) (p : SD → Prop) : Prop := ∃ z, r = some z ∧ p z
theorem Wp.mono {α : Type} {m : M α} {ρ : List SD} {p q : α → List SD → Prop} {E F : Exn → List SD → Prop} (h : Wp m ρ p E) (f : ∀ a ρ', p a ρ' → q a ρ') (g : ∀ x ρ', E x ρ' → F x ρ') : Wp m ρ q F := by
  refine ⟨?_⟩
  have h := h.run
  split
  · rename_i e
    rw [e] at h
    exact f _ _ h
  · rename_i e
    rw [e] at h
    exact g _ _ h
  · rename_i e
    rw [e] at h
    exact h
theorem Fw.ok {f : FR} {p : SD → List SD → Prop} (h : Fw f p NoX) : ∃ r o, f = .ok r o ∧ p r o := by
  have h := h.run
  split at h
  · exact ⟨_, _, rfl, h⟩
  · exact h.elim
  · exact h.elim
section
variable {α β : Type} {ρ : List SD} {E : Exn → List SD → Prop}
theorem w_bind {m : M α} {k : α → M β} {p : β → List SD → Prop} (h : Wp m ρ (fun a ρ' => Wp (k a) ρ' p E) E) : Wp (m.bind k) ρ p E := by
  refine ⟨?_⟩
  have h := h.run
  unfold M.bind
  cases e : m ρ with
  | ok a ρ' =>
    rw [e] at h
    exact h.run
  | ex x ρ' =>
    rw [e] at h
    exact h
  | no =>
    rw [e] at h
    exact h
theorem w_pure {a : α} {p : α → List SD → Prop} (h : p a ρ) : Wp (M.ret a) ρ p E := ⟨h⟩
theorem w_opt {o : Option α} {p : α → List SD → Prop} (h : ∃ z, o = some z ∧ p z ρ) : Wp (M.opt o) ρ p E := by
  obtain ⟨z, rfl, h⟩ := h
  exact ⟨h⟩
variable {p : SD → List SD → Prop} {q : D → List SD → Prop} {t : Bool → List SD → Prop} {s : Fl → List SD → Prop} {pl : List D → List SD → Prop} {pa : List Ar → List SD → Prop}
theorem w_c {d : D} (h : p (.va d) ρ) : Wp (mC d) ρ p E := ⟨h⟩
theorem w_fz {m : M SD} (h : Wp m ρ (fun r ρ' => Wp (fzM r) ρ' q E) E) : Wp (fE m) ρ q E := w_bind h
theorem w_fzV {d : D} (h : q d ρ) : Wp (fzM (.va d)) ρ q E := ⟨h⟩
theorem w_fzL {b : Bool} {l : List D} (h : q (.lst false l) ρ) : Wp (fzM (.ow (.lst b l))) ρ q E := ⟨h⟩
theorem w_var {i : Nat} {d : D} (e : ρ[i]? = some (.va d)) (h : p (.va d) ρ) : Wp (mVar i) ρ p E := by
  refine ⟨?_⟩
  unfold mVar
  rw [e]
  exact h
theorem w_varO {i : Nat} {b : Bool} {l : List D} (e : ρ[i]? = some (.ow (.lst b l))) (h : p (.va (.lst false l)) (ρ.set i (.va (.lst false l)))) : Wp (mVar i) ρ p E := by
  refine ⟨?_⟩
  unfold mVar
  rw [e]
  exact h
theorem w_mov {i : Nat} {d : D} (e : ρ[i]? = some (.va d)) (h : p (.va d) ρ) : Wp (mMov i) ρ p E := by
  refine ⟨?_⟩
  unfold mMov
  rw [e]
  exact h
theorem w_movO {i : Nat} {d : D} (e : ρ[i]? = some (.ow d)) (h : p (.ow d) (ρ.set i .un)) : Wp (mMov i) ρ p E := by
  refine ⟨?_⟩
  unfold mMov
  rw [e]
  exact h
theorem w_op {g : D → D → Option SD} {ma mb : M SD} (h : Wp (fE ma) ρ (fun d ρ1 => Wp (fE mb) ρ1 (fun e ρ2 => Ow (g d e) fun z => p z ρ2) E) E) : Wp (mOp g ma mb) ρ p E := by
  refine w_bind (h.mono (fun d ρ1 h => w_bind (h.mono (fun e ρ2 h => w_opt h) fun _ _ z => z)) fun _ _ z => z)
theorem w_un {g : D → Option SD} {ma : M SD} (h : Wp (fE ma) ρ (fun d ρ1 => Ow (g d) fun z => p z ρ1) E) : Wp (mUn g ma) ρ p E := w_bind (h.mono (fun d ρ1 h => w_opt h) fun _ _ z => z)
theorem w_chain {g g' : D → D → Option SD} {ma mb mc : M SD} (h : Wp (fE ma) ρ (fun d ρ1 => Wp (fE mb) ρ1 (fun e ρ2 => Ow (g d e) fun z => Wp (chainK g' e mc z) ρ2 p E) E) E) : Wp (mChain g g' ma mb mc) ρ p E :=
  w_bind (h.mono (fun d ρ1 h => w_bind (h.mono (fun e ρ2 h => w_bind (w_opt h)) fun _ _ z => z)) fun _ _ z => z)
theorem w_chK {g' : D → D → Option SD} {e : D} {mc : M SD} {b : Bool} (h : (b = true → Wp (fE mc) ρ (fun f ρ1 => Ow (g' e f) fun z => p z ρ1) E) ∧ (b = false → p (.va (.bl false)) ρ)) : Wp (chainK g' e mc (.va (.bl b))) ρ p E := by
  cases b with
  | true => exact w_bind ((h.1 rfl).mono (fun _ _ h => w_opt h) fun _ _ z => z)
  | false => exact ⟨h.2 rfl⟩
theorem w_subV {i : Nat} {m : M SD} {d0 : D} (e : ρ[i]? = some (.va d0)) (h : Wp (fE m) ρ (fun k ρ' => ∃ d, ρ'[i]? = some (.va d) ∧ Ow (ixD d k) fun z => p z ρ') E) : Wp (mSub i m) ρ p E := by
  have g : isSet ρ[i]? = true := by
    rw [e]
    rfl
  show Wp (guardS i ((fE m).bind (atS i))) ρ p E
  refine ⟨?_⟩
  unfold guardS
  rw [if_pos g]
  refine Wp.run (E := E) (p := p) ?_
  refine w_bind (p := p) (h.mono (fun k ρ' h => ?_) fun _ _ z => z)
  obtain ⟨d, e1, z, e2, h⟩ := h
  refine ⟨?_⟩
  unfold atS
  simp only [e1, e2]
  exact h
theorem w_subO {i : Nat} {m : M SD} {d0 : D} (e : ρ[i]? = some (.ow d0)) (h : Wp (fE m) ρ (fun k ρ' => ∃ b l, ρ'[i]? = some (.ow (.lst b l)) ∧ Ow (ixD (.lst b l) k) fun z => p z ρ') E) : Wp (mSub i m) ρ p E := by
  have g : isSet ρ[i]? = true := by
    rw [e]
    rfl
  show Wp (guardS i ((fE m).bind (atS i))) ρ p E
  refine ⟨?_⟩
  unfold guardS
  rw [if_pos g]
  refine Wp.run (E := E) (p := p) ?_
  refine w_bind (p := p) (h.mono (fun k ρ' h => ?_) fun _ _ z => z)
  obtain ⟨b, l, e1, z, e2, h⟩ := h
  refine ⟨?_⟩
  unfold atS
  simp only [e1, e2]
  exact h
/-! tests -/
theorem w_tst {m : M SD} (h : Wp (fE m) ρ (fun d ρ' => ∃ b, d = .bl b ∧ t b ρ') E) : Wp (mTst m) ρ t E := w_bind (h.mono (fun d ρ' h => by
  obtain ⟨b, rfl, h⟩ := h
  exact ⟨h⟩) fun _ _ z => z)
theorem w_not {m : M Bool} (h : Wp m ρ (fun b ρ' => t (!b) ρ') E) : Wp (mNot m) ρ t E := w_bind (h.mono (fun _ _ h => ⟨h⟩) fun _ _ z => z)
theorem w_andT {m n : M Bool} (h : Wp m ρ (fun b ρ' => (b = true → Wp n ρ' t E) ∧ (b = false → t false ρ')) E) : Wp (mAnd m n) ρ t E := w_bind (h.mono (fun b ρ' h => by
  cases b with
  | true => exact h.1 rfl
  | false => exact ⟨h.2 rfl⟩) fun _ _ z => z)
theorem w_orT {m n : M Bool} (h : Wp m ρ (fun b ρ' => (b = true → t true ρ') ∧ (b = false → Wp n ρ' t E)) E) : Wp (mOr m n) ρ t E := w_bind (h.mono (fun b ρ' h => by
  cases b with
  | true => exact ⟨h.1 rfl⟩
  | false => exact h.2 rfl) fun _ _ z => z)
theorem w_andV {m n : M SD} (h : Wp (mTst m) ρ (fun b ρ' => (b = true → Wp n ρ' p E) ∧ (b = false → p (.va (.bl false)) ρ')) E) : Wp (mAndV m n) ρ p E := w_bind (h.mono (fun b ρ' h => by
  cases b with
  | true => exact h.1 rfl
  | false => exact ⟨h.2 rfl⟩) fun _ _ z => z)
theorem w_orV {m n : M SD} (h : Wp (mTst m) ρ (fun b ρ' => (b = true → p (.va (.bl true)) ρ') ∧ (b = false → Wp n ρ' p E)) E) : Wp (mOrV m n) ρ p E := w_bind (h.mono (fun b ρ' h => by
  cases b with
  | true => exact ⟨h.1 rfl⟩
  | false => exact h.2 rfl) fun _ _ z => z)
theorem w_notV {m : M SD} (h : Wp (mTst m) ρ (fun b ρ' => p (.va (.bl (!b))) ρ') E) : Wp (mNotV m) ρ p E := w_bind (h.mono (fun _ _ h => ⟨h⟩) fun _ _ z => z)
theorem w_ife {c : M Bool} {m n : M SD} (h : Wp c ρ (fun b ρ' => (b = true → Wp m ρ' p E) ∧ (b = false → Wp n ρ' p E)) E) : Wp (mIfE c m n) ρ p E := w_bind (h.mono (fun b ρ' h => by
  cases b with
  | true => exact h.1 rfl
  | false => exact h.2 rfl) fun _ _ z => z)
/-! arguments, displays, calls -/
theorem w_nil (h : pl [] ρ) : Wp mNil ρ pl E := ⟨h⟩
theorem w_cons {m : M SD} {n : M (List D)} (h : Wp (fE m) ρ (fun d ρ1 => Wp n ρ1 (fun ds ρ2 => pl (d :: ds) ρ2) E) E) : Wp (mCons m n) ρ pl E := w_bind (h.mono (fun _ _ h => w_bind (h.mono (fun _ _ h => ⟨h⟩) fun _ _ z => z)) fun _ _ z => z)
theorem w_anil (h : pa [] ρ) : Wp aNil ρ pa E := ⟨h⟩
theorem w_ava {m : M SD} {n : M (List Ar)} (h : Wp (fE m) ρ (fun d ρ1 => Wp n ρ1 (fun ds ρ2 => pa (.va d :: ds) ρ2) E) E) : Wp (aVa m n) ρ pa E := w_bind (h.mono (fun _ _ h => w_bind (h.mono (fun _ _ h => ⟨h⟩) fun _ _ z => z)) fun _ _ z => z)
theorem w_asl {i : Nat} {n : M (List Ar)} (g : isSet ρ[i]? = true) (h : Wp n ρ (fun ds ρ2 => pa (.sl i :: ds) ρ2) E) : Wp (aSl i n) ρ pa E := by
  refine ⟨?_⟩
  unfold aSl
  rw [if_pos g]
  exact (w_bind (p := pa) (h.mono (fun _ _ h => ⟨h⟩) fun _ _ z => z)).run
theorem w_tup {n : M (List D)} (h : Wp n ρ (fun ds ρ' => ds.length ≤ 1000 ∧ p (.va (.tup ds)) ρ') E) : Wp (mTup n) ρ p E := w_bind (h.mono (fun ds ρ' h => by
  rw [if_pos h.1]
  exact ⟨h.2⟩) fun _ _ z => z)
theorem w_lst {n : M (List D)} (h : Wp n ρ (fun ds ρ' => ds.length ≤ 1000 ∧ p (.ow (.lst false ds)) ρ') E) : Wp (mLst n) ρ p E := w_bind (h.mono (fun ds ρ' h => by
  rw [if_pos h.1]
  exact ⟨h.2⟩) fun _ _ z => z)
theorem w_cb {g : List D → Option SD} {n : M (List D)} (h : Wp n ρ (fun ds ρ' => Ow (g ds) fun z => p z ρ') E) : Wp (mCB g n) ρ p E := w_bind (h.mono (fun _ _ h => w_opt h) fun _ _ z => z)
theorem w_call {f : List SD → FR} {dd : List D} {n : M (List Ar)} (h : Wp n ρ (fun as ρ' => (slots as).Nodup ∧ ∃ xs, getAs ρ' as = some xs ∧ Fw (f (xs ++ dd.map SD.va)) (fun r o => p r (putAs ρ' as o)) fun x o => E x (putAs ρ' as o)) E) : Wp (mCall f dd n) ρ p E := w_bind (h.mono (fun as ρ' h => by
  obtain ⟨h1, xs, h2, h3⟩ := h
  refine ⟨?_⟩
  simp only [if_pos h1, h2]
  have h3 := h3.run
  split at h3
  · rename_i e
    simp only [e]
    exact h3
  · rename_i e
    simp only [e]
    exact h3
  · exact h3.elim) fun _ _ z => z)
theorem fw_ok {f : FR} {r : SD} {o : List SD} (e : f = .ok r o) (h : p r o) : Fw f p E := by
  rw [e]
  exact ⟨h⟩
theorem fw_ex {f : FR} {x : Exn} {o : List SD} (e : f = .ex x o) (h : E x o) : Fw f p E := by
  rw [e]
  exact ⟨h⟩
theorem w_app {i : Nat} {n : M (List D)} {b : Bool} {l : List D} (e : ρ[i]? = some (.ow (.lst b l))) (h : Wp n ρ (fun ds ρ' => ∃ b l v, ρ'[i]? = some (.ow (.lst b l)) ∧ ds = [v] ∧ l.length < 1000000 ∧ p (.va .non) (ρ'.set i (.ow (.lst b (l ++ [v]))))) E) : Wp (mApp i n) ρ p E := by
  refine ⟨?_⟩
  unfold mApp
  rw [if_pos (by rw [e]; rfl)]
  refine Wp.run (E := E) (p := p) ?_
  refine w_bind (p := p) (h.mono (fun ds ρ' h => ?_) fun _ _ z => z)
  obtain ⟨b, l, v, e1, rfl, hl, h⟩ := h
  refine ⟨?_⟩
  unfold appS
  simp only [e1, if_pos hl]
  exact h
theorem w_sl {m : M SD} {ml mh : M (Option Int)} (h : Wp (fE m) ρ (fun d ρ1 => Wp ml ρ1 (fun lo ρ2 => Wp mh ρ2 (fun hi ρ3 => Ow (slcD d lo hi) fun z => p z ρ3) E) E) E) : Wp (mSl m ml mh) ρ p E :=
  w_bind (h.mono (fun _ _ h => w_bind (h.mono (fun _ _ h => w_bind (h.mono (fun _ _ h => w_opt h) fun _ _ z => z)) fun _ _ z => z)) fun _ _ z => z)
variable {po : Option Int → List SD → Prop}
theorem w_pn (h : po none ρ) : Wp mPN ρ po E := ⟨h⟩
theorem w_ps {m : M SD} (h : Wp (fE m) ρ (fun d ρ' => ∃ i, d = .int i ∧ po (some i) ρ') E) : Wp (mPS m) ρ po E := w_bind (h.mono (fun d ρ' h => by
  obtain ⟨i, rfl, h⟩ := h
  exact ⟨h⟩) fun _ _ z => z)
theorem w_lc {it : M (List D)} {vs : List Nat} {g : D → List SD → Option (List SD)} {tt : M Bool} {te : M SD} (h : Wp it ρ (fun l ρ1 => Wp (lcL vs g tt te l []) ρ1 (fun ys ρ2 => p (.ow (.lst false ys)) ρ2) E) E) : Wp (mLc it vs g tt te) ρ p E := w_bind (h.mono (fun _ _ h => w_bind (h.mono (fun _ _ h => ⟨h⟩) fun _ _ z => z)) fun _ _ z => z)
/-! what is walked -/
theorem w_seq {m : M SD} (h : Wp (fE m) ρ (fun d ρ' => ∃ b l, d.seq = some (b, l) ∧ pl l ρ') E) : Wp (iSeq m) ρ pl E := w_bind (h.mono (fun d ρ' h => by
  obtain ⟨b, l, e, h⟩ := h
  cases d with
  | lst b' l' =>
    cases e
    exact ⟨h⟩
  | tup l' =>
    cases e
    exact ⟨h⟩
  | _ => cases e) fun _ _ z => z)
theorem w_rng1 {n : M (List D)} (h : Wp n ρ (fun ds ρ' => ∃ j, ds = [.int j] ∧ (-(2 ^ 62) ≤ j ∧ j < 2 ^ 62) ∧ pl (rngD 0 j.toNat) ρ') E) : Wp (iRg1 n) ρ pl E := w_bind (h.mono (fun ds ρ' h => by
  obtain ⟨j, rfl, hj, h⟩ := h
  show Wp (if -(2 ^ 62) ≤ j ∧ j < 2 ^ 62 then M.ret (rngD 0 j.toNat) else M.no) ρ' pl E
  rw [if_pos hj]
  exact ⟨h⟩) fun _ _ z => z)
theorem w_rng2 {n : M (List D)} (h : Wp n ρ (fun ds ρ' => ∃ i j, ds = [.int i, .int j] ∧ (-(2 ^ 62) ≤ i ∧ i < 2 ^ 62 ∧ -(2 ^ 62) ≤ j ∧ j < 2 ^ 62) ∧ pl (rngD i (j - i).toNat) ρ') E) : Wp (iRg2 n) ρ pl E := w_bind (h.mono (fun ds ρ' h => by
  obtain ⟨i, j, rfl, hj, h⟩ := h
  show Wp (if -(2 ^ 62) ≤ i ∧ i < 2 ^ 62 ∧ -(2 ^ 62) ≤ j ∧ j < 2 ^ 62 then M.ret (rngD i (j - i).toNat) else M.no) ρ' pl E
  rw [if_pos hj]
  exact ⟨h⟩) fun _ _ z => z)
theorem w_zip {n : M (List D)} (h : Wp n ρ (fun ds ρ' => ∃ d e b l c m, ds = [d, e] ∧ d.seq = some (b, l) ∧ e.seq = some (c, m) ∧ l.length = m.length ∧ pl (zipP l m) ρ') E) : Wp (iZp n) ρ pl E := w_bind (h.mono (fun ds ρ' h => by
  obtain ⟨d, e, b, l, c, m, rfl, e1, e2, hl, h⟩ := h
  show Wp (match d.seq, e.seq with
    | some (_, l), some (_, m) => if l.length = m.length then M.ret (zipP l m) else M.no
    | _, _ => M.no) ρ' pl E
  rw [e1, e2]
  dsimp only
  rw [if_pos hl]
  exact ⟨h⟩) fun _ _ z => z)
/-! statements -/
theorem w_sseq {a b : S} (h : Wp a ρ (fun f ρ1 => match f with | .nx => Wp b ρ1 s E | f => s f ρ1) E) : Wp (sSeq a b) ρ s E := by
  refine ⟨?_⟩
  have h := h.run
  unfold sSeq
  cases e : a ρ with
  | ok f ρ1 =>
    rw [e] at h
    cases f <;> first | exact h.run | exact h
  | ex x ρ1 =>
    rw [e] at h
    exact h
  | no =>
    rw [e] at h
    exact h
theorem w_nx (h : s .nx ρ) : Wp sNx ρ s E := ⟨h⟩
theorem w_ret {m : M SD} (h : Wp m ρ (fun r ρ' => s (.rt r) ρ') E) : Wp (sRet m) ρ s E := w_bind (h.mono (fun _ _ h => ⟨h⟩) fun _ _ z => z)
theorem w_retN (h : s (.rt (.va .non)) ρ) : Wp sRetN ρ s E := ⟨h⟩
theorem w_set {i : Nat} {m : M SD} (h : Wp m ρ (fun r ρ' => s .nx (ρ'.set i r)) E) : Wp (sSet i m) ρ s E := w_bind (h.mono (fun _ _ h => ⟨h⟩) fun _ _ z => z)
theorem w_drop {m : M SD} (h : Wp m ρ (fun r ρ' => s .nx ρ') E) : Wp (sDrop m) ρ s E := w_bind (h.mono (fun _ _ h => ⟨h⟩) fun _ _ z => z)
theorem w_if {c : M Bool} {a b : S} (h : Wp c ρ (fun k ρ' => (k = true → Wp a ρ' s E) ∧ (k = false → Wp b ρ' s E)) E) : Wp (sIf c a b) ρ s E := w_bind (h.mono (fun b ρ' h => by
  cases b with
  | true => exact h.1 rfl
  | false => exact h.2 rfl) fun _ _ z => z)
theorem w_asg {g : D → List SD → Option (List SD)} {m : M SD} (h : Wp (fE m) ρ (fun d ρ' => ∃ ρ2, g d ρ' = some ρ2 ∧ s .nx ρ2) E) : Wp (sAsg g m) ρ s E := w_bind (h.mono (fun d ρ' h => by
  obtain ⟨ρ2, e, h⟩ := h
  refine ⟨?_⟩
  simp only [e]
  exact h) fun _ _ z => z)
theorem w_par {i j : Nat} {m n : M SD} (h : Wp (fE m) ρ (fun d ρ1 => Wp (fE n) ρ1 (fun e ρ2 => s .nx ((ρ2.set i (.va d)).set j (.va e))) E) E) : Wp (sPar i j m n) ρ s E := w_bind (h.mono (fun _ _ h => w_bind (h.mono (fun _ _ h => ⟨h⟩) fun _ _ z => z)) fun _ _ z => z)
theorem w_par3 {i j l : Nat} {m n k : M SD} (h : Wp (fE m) ρ (fun d ρ1 => Wp (fE n) ρ1 (fun e ρ2 => Wp (fE k) ρ2 (fun f ρ3 => s .nx (((ρ3.set i (.va d)).set j (.va e)).set l (.va f))) E) E) E) : Wp (sPar3 i j l m n k) ρ s E :=
  w_bind (h.mono (fun _ _ h => w_bind (h.mono (fun _ _ h => w_bind (h.mono (fun _ _ h => ⟨h⟩) fun _ _ z => z)) fun _ _ z => z)) fun _ _ z => z)
theorem w_put {i : Nat} {mk me : M SD} (h : Wp (fE me) ρ (fun v ρ1 => isSet ρ1[i]? = true ∧ Wp (fE mk) ρ1 (fun k ρ2 => ∃ b l j n, ρ2[i]? = some (.ow (.lst b l)) ∧ k = .int j ∧ ixN l.length j = some n ∧ s .nx (ρ2.set i (.ow (.lst b (l.set n v))))) E) E) : Wp (sPut i mk me) ρ s E := w_bind (h.mono (fun v ρ1 h => by
  refine ⟨?_⟩
  unfold guardS
  rw [if_pos h.1]
  refine Wp.run (E := E) (p := s) ?_
  refine w_bind (p := s) (h.2.mono (fun k ρ2 h => ?_) fun _ _ z => z)
  obtain ⟨b, l, j, n, e1, rfl, e2, h⟩ := h
  refine ⟨?_⟩
  unfold putS
  simp only [e1, e2]
  exact h) fun _ _ z => z)
theorem w_for {m : M (List D)} {g : D → List SD → Option (List SD)} {b : S} (h : Wp m ρ (fun l ρ' => Wp (forL g b l) ρ' s E) E) : Wp (sFor m g b) ρ s E := w_bind h
/-- a for loop: I holds ahead of turn i -/
theorem w_forL {g : D → List SD → Option (List SD)} {b : S} {l : List D} (I : Nat → List SD → Prop)
    (step : ∀ (i : Nat) (d : D) (ρ : List SD), l[i]? = some d → I i ρ → ∃ ρ1, g d ρ = some ρ1 ∧ Wp b ρ1 (fun f ρ2 => match f with | .nx => I (i + 1) ρ2 | .ct => I (i + 1) ρ2 | .bk => s .nx ρ2 | .rt r => s (.rt r) ρ2) E)
    (h0 : I 0 ρ) (fin : ∀ ρ', I l.length ρ' → s .nx ρ') : Wp (forL g b l) ρ s E := by
  have go : ∀ (m : List D) (i : Nat) (ρ : List SD), l.drop i = m → i ≤ l.length → I i ρ → Wp (forL g b m) ρ s E := by
    intro m
    induction m with
    | nil =>
      intro i ρ hd hi hI
      have hi' : i = l.length := by
        have z := List.drop_eq_nil_iff.mp hd
        omega
      subst hi'
      exact ⟨fin ρ hI⟩
    | cons d m ih =>
      intro i ρ hd hi hI
      have hlt : i < l.length := by
        have z := congrArg List.length hd
        rw [List.length_drop, List.length_cons] at z
        omega
      have hgd : l[i]? = some d := by
        rw [List.drop_eq_getElem_cons hlt] at hd
        rw [List.getElem?_eq_getElem hlt]
        cases hd
        rfl
      have hm : l.drop (i + 1) = m := by
        rw [List.drop_eq_getElem_cons hlt] at hd
        cases hd
        rfl
      obtain ⟨ρ1, e1, h⟩ := step i d ρ hgd hI
      refine ⟨?_⟩
      have h := h.run
      unfold forL
      simp only [e1]
      cases eb : b ρ1 with
      | ok f ρ2 =>
        rw [eb] at h
        cases f with
        | nx => exact (ih (i + 1) ρ2 hm hlt h).run
        | ct => exact (ih (i + 1) ρ2 hm hlt h).run
        | bk => exact h
        | rt r => exact h
      | ex x ρ2 =>
        rw [eb] at h
        exact h
      | no =>
        rw [eb] at h
        exact h
  exact go l 0 ρ rfl (Nat.zero_le _) h0
/-- a while loop: I holds ahead of each turn, v goes down -/
theorem w_while {c : M Bool} {b : S} {fuel : List SD → Nat} (I : Nat → List SD → Prop)
    (step : ∀ (n : Nat) (ρ : List SD), I n ρ → Wp c ρ (fun k ρ1 => (k = true → Wp b ρ1 (fun f ρ2 => match f with | .nx => ∃ m, m < n ∧ I m ρ2 | .ct => ∃ m, m < n ∧ I m ρ2 | .bk => s .nx ρ2 | .rt r => s (.rt r) ρ2) E) ∧ (k = false → s .nx ρ1)) E)
    (n : Nat) (h0 : I n ρ) (hf : n < fuel ρ) : Wp (sWhile fuel c b) ρ s E := by
  have go : ∀ (k n : Nat) (ρ : List SD), n < k → I n ρ → Wp (whileF c b k) ρ s E := by
    intro k
    induction k with
    | zero => intro n ρ h; omega
    | succ k ih =>
      intro n ρ hn hI
      refine ⟨?_⟩
      have h := (step n ρ hI).run
      unfold whileF
      cases ec : c ρ with
      | ok kk ρ1 =>
        rw [ec] at h
        cases kk with
        | false => exact h.2 rfl
        | true =>
          have h2 := (h.1 rfl).run
          dsimp only
          cases eb : b ρ1 with
          | ok f ρ2 =>
            rw [eb] at h2
            cases f with
            | nx =>
              obtain ⟨m, hm, h3⟩ := h2
              exact (ih m ρ2 (by omega) h3).run
            | ct =>
              obtain ⟨m, hm, h3⟩ := h2
              exact (ih m ρ2 (by omega) h3).run
            | bk => exact h2
            | rt r => exact h2
          | ex x ρ2 =>
            rw [eb] at h2
            exact h2
          | no =>
            rw [eb] at h2
            exact h2
      | ex x ρ1 =>
        rw [ec] at h
        exact h
      | no =>
        rw [ec] at h
        exact h
  exact ⟨(go (fuel ρ) n ρ hf h0).run⟩
/-- a def's body -/
theorem fw_run {A : List Nat} {N : Nat} {b : S} {as : List SD} {p : SD → List SD → Prop} (ho : (ownIx 0 as).all (A.contains ·) = true)
    (h : Wp b (as ++ List.replicate (N - as.length) SD.un) (fun f ρ' => match f with | .rt r => p r (nrm as (ρ'.take as.length)) | .nx => p (.va .non) (nrm as (ρ'.take as.length)) | _ => False) fun x ρ' => E x (nrm as (ρ'.take as.length))) : Fw (Fm.runN A N b as) p E := by
  refine ⟨?_⟩
  unfold Fm.runN runF
  rw [if_pos ho]
  have h := h.run
  cases e : b (as ++ List.replicate (N - as.length) SD.un) with
  | ok f ρ' =>
    rw [e] at h
    cases f with
    | rt r => exact h
    | nx => exact h
    | bk => exact h.elim
    | ct => exact h.elim
  | ex x ρ' =>
    rw [e] at h
    exact h
  | no =>
    rw [e] at h
    exact h.elim
/-! turns of comprehensions -/
theorem lc_turn {vs : List Nat} {g : D → List SD → Option (List SD)} {te : M SD} {d : D} {ρ1 : List SD} {P : D → List SD → Prop} (e : g d (wipeR ρ vs) = some ρ1) (h : Wp (fE te) ρ1 (fun y ρ3 => P y (unw ρ ρ3 vs)) NoX) : ∃ y ρ', lcT vs g (M.ret true) te d ρ = .ok (some y) ρ' ∧ P y ρ' := by
  unfold lcT
  simp only [e, M.ret]
  have h := h.run
  cases e2 : fE te ρ1 with
  | ok y ρ3 =>
    rw [e2] at h
    exact ⟨y, _, rfl, h⟩
  | ex x ρ3 =>
    rw [e2] at h
    exact h.elim
  | no =>
    rw [e2] at h
    exact h.elim
theorem w_lcL {vs : List Nat} {g : D → List SD → Option (List SD)} {te : M SD} {l : List D} (I : Nat → List SD → Prop) (P : Nat → D → Prop)
    (step : ∀ (i : Nat) (d : D) (ρ : List SD), l[i]? = some d → I i ρ → ∃ ρ1, g d (wipeR ρ vs) = some ρ1 ∧ Wp (fE te) ρ1 (fun y ρ3 => P i y ∧ I (i + 1) (unw ρ ρ3 vs)) NoX) (h0 : I 0 ρ) (hl : l.length ≤ 1000000)
    (fin : ∀ ys ρ', ys.length = l.length → (∀ (i : Nat) (y : D), ys[i]? = some y → P i y) → I l.length ρ' → pl ys ρ') : Wp (lcL vs g (M.ret true) te l []) ρ pl E := by
  obtain ⟨ys, ρ', e, h1, h2, h3⟩ := lc_ex (vs := vs) (tg := g) (tt := M.ret true) (te := te) I P (fun i d ρ hd hI => by
    obtain ⟨ρ1, e1, h⟩ := step i d ρ hd hI
    obtain ⟨y, ρ', e2, e3⟩ := lc_turn (P := fun y ρ' => P i y ∧ I (i + 1) ρ') e1 h
    exact ⟨y, ρ', e2, e3⟩) h0 hl
  refine ⟨?_⟩
  rw [e]
  exact fin ys ρ' h1 h2 h3
/-- .. that changes nothing -/
theorem w_lcP {vs : List Nat} {g : D → List SD → Option (List SD)} {te : M SD} {l : List D} (f : D → D)
    (step : ∀ d ∈ l, ∃ ρ1, g d (wipeR ρ vs) = some ρ1 ∧ Wp (fE te) ρ1 (fun y ρ3 => y = f d ∧ unw ρ ρ3 vs = ρ) NoX) (hl : l.length ≤ 1000000) (fin : pl (l.map f) ρ) : Wp (lcL vs g (M.ret true) te l []) ρ pl E := by
  have e := lc_map (vs := vs) (tg := g) (tt := M.ret true) (te := te) (l := l) (ρ := ρ) f (fun d hd => by
    obtain ⟨ρ1, e1, h⟩ := step d hd
    obtain ⟨y, ρ', e2, e3, e4⟩ := lc_turn (P := fun y ρ' => y = f d ∧ ρ' = ρ) e1 h
    rw [e2, e3, e4]) hl
  refine ⟨?_⟩
  rw [e]
  exact fin
end
/-! operators -/
section
variable {p : SD → Prop} {a b : Int}
theorem o_add (h : p (.va (.int (a + b)))) : Ow (addD (.int a) (.int b)) p := ⟨_, rfl, h⟩
theorem o_sub (h : p (.va (.int (a - b)))) : Ow (subD (.int a) (.int b)) p := ⟨_, rfl, h⟩
theorem o_mul (h : p (.va (.int (a * b)))) (g : mulG a b) : Ow (repD (.int a) (.int b)) p := ⟨_, if_pos g, h⟩
theorem o_mod (h : p (.va (.int (a.fmod b)))) (g : b ≠ 0) : Ow (modD (.int a) (.int b)) p := ⟨_, if_neg g, h⟩
theorem o_div (h : p (.va (.int (a.fdiv b)))) (g : divG a b) : Ow (divD (.int a) (.int b)) p := ⟨_, if_pos g, h⟩
theorem o_pow (h : p (.va (.int (a ^ b.toNat)))) (g : powG a b) : Ow (powD (.int a) (.int b)) p := ⟨_, if_pos g, h⟩
theorem o_lt (h : p (.va (.bl (decide (a < b))))) : Ow (ltD (.int a) (.int b)) p := ⟨_, rfl, h⟩
theorem o_le (h : p (.va (.bl (decide (a ≤ b))))) : Ow (leD (.int a) (.int b)) p := ⟨_, rfl, h⟩
theorem o_gt (h : p (.va (.bl (decide (b < a))))) : Ow (gtD (.int a) (.int b)) p := ⟨_, rfl, h⟩
theorem o_ge (h : p (.va (.bl (decide (b ≤ a))))) : Ow (geD (.int a) (.int b)) p := ⟨_, rfl, h⟩
theorem o_eqI (h : p (.va (.bl (decide (a = b))))) : Ow (eqD (.int a) (.int b)) p := ⟨_, by
  unfold eqD
  rw [pl_int, pl_int, peq_int]
  rfl, h⟩
theorem o_neI (h : p (.va (.bl (!decide (a = b))))) : Ow (neD (.int a) (.int b)) p := ⟨_, by
  unfold neD
  rw [pl_int, pl_int, peq_int]
  rfl, h⟩
theorem o_eq {d e : D} (h : p (.va (.bl (peq d e)))) (g : d.pl 60 = true) (g' : e.pl 60 = true) : Ow (eqD d e) p := ⟨_, by
  unfold eqD
  rw [g, g']
  rfl, h⟩
theorem o_ne {d e : D} (h : p (.va (.bl (!peq d e)))) (g : d.pl 60 = true) (g' : e.pl 60 = true) : Ow (neD d e) p := ⟨_, by
  unfold neD
  rw [g, g']
  rfl, h⟩
theorem o_neg (h : p (.va (.int (-a)))) : Ow (negD (.int a)) p := ⟨_, rfl, h⟩
theorem o_ixT {l : List D} {d : D} (e : atI l a = some d) (h : p (.va d)) : Ow (ixD (.tup l) (.int a)) p := ⟨.va d, by
  show (atI l a).map SD.va = _
  rw [e]
  rfl, h⟩
theorem o_ixL {c : Bool} {l : List D} {d : D} (e : atI l a = some d) (h : p (.va d)) : Ow (ixD (.lst c l) (.int a)) p := ⟨.va d, by
  show (atI l a).map SD.va = _
  rw [e]
  rfl, h⟩
theorem o_rfl {r : Option SD} {z : SD} (e : r = some z) (h : p z) : Ow r p := ⟨z, e, h⟩
theorem o_rep {c : Bool} {l : List D} (h : p (.ow (.lst false (List.replicate a.toNat l).flatten))) (g : -(2 ^ 62) ≤ a ∧ a < 2 ^ 62 ∧ l.length * a.toNat ≤ 1000000) : Ow (repD (.lst c l) (.int a)) p := ⟨_, if_pos g, h⟩
theorem o_abs (h : p (.va (.int a.natAbs))) : Ow (absD [.int a]) p := ⟨_, by
  have e : (if a < 0 then -a else a) = (a.natAbs : Int) := by
    split <;> omega
  show some (SD.va (.int (if a < 0 then -a else a))) = _
  rw [e], h⟩
end
end Fm
set_option maxHeartbeats 390000
namespace Fm
open L2 PySem PySem.Spec PyProof.Rows
theorem fw_mono {f : FR} {p q : SD → List SD → Prop} {E : Exn → List SD → Prop} (h : Fw f p NoX) (g : ∀ r o, p r o → q r o) : Fw f q E := by
  obtain ⟨r, o, e, h⟩ := h.ok
  exact fw_ok e (g r o h)
section
variable {γ : Type} {ρ : List SD} {E : Exn → List SD → Prop} {pl : List D → List SD → Prop}
theorem list_eq {ys : List D} {L : List γ} {g : γ → D} (hl : ys.length = L.length) (h : ∀ (i : Nat) (y : D), ys[i]? = some y → ∃ c, L[i]? = some c ∧ y = g c) : ys = L.map g := by
  apply List.ext_getElem?
  intro i
  by_cases hi : i < ys.length
  · obtain ⟨c, e1, e2⟩ := h i ys[i] (List.getElem?_eq_getElem hi)
    rw [List.getElem?_eq_getElem hi, List.getElem?_map, e1, e2]
    rfl
  · rw [List.getElem?_eq_none_iff.mpr (by omega), List.getElem?_eq_none_iff.mpr (by rw [List.length_map]; omega)]
theorem list_of {ys : List D} {Q : γ → Prop} {g : γ → D} (h : ∀ y ∈ ys, ∃ c, Q c ∧ y = g c) : ∃ L : List γ, ys = L.map g ∧ ∀ c ∈ L, Q c := by
  induction ys with
  | nil => exact ⟨[], rfl, fun c hc => by cases hc⟩
  | cons y ys ih =>
    obtain ⟨c, h1, rfl⟩ := h y (List.mem_cons_self ..)
    obtain ⟨L, rfl, h2⟩ := ih fun z hz => h z (List.mem_cons_of_mem _ hz)
    refine ⟨c :: L, rfl, fun d hd => ?_⟩
    have in_or := List.mem_cons.mp hd; rcases in_or with rfl | hd
    · exact h1
    · exact h2 d hd
/-- a comprehension that gives the list L, and changes nothing -/
theorem w_lcG {vs : List Nat} {g : D → List SD → Option (List SD)} {te : M SD} {l : List D} (L : List γ) (m : γ → D) (hL : L.length = l.length)
    (step : ∀ (i : Nat) (d : D) (c : γ), l[i]? = some d → L[i]? = some c → ∃ ρ1, g d (wipeR ρ vs) = some ρ1 ∧ Wp (fE te) ρ1 (fun y ρ3 => y = m c ∧ unw ρ ρ3 vs = ρ) NoX) (hl : l.length ≤ 1000000) (fin : pl (L.map m) ρ) : Wp (lcL vs g (M.ret true) te l []) ρ pl E := by
  refine w_lcL (I := fun _ ρ' => ρ' = ρ) (P := fun i y => ∃ c, L[i]? = some c ∧ y = m c) (fun i d ρ' hd hρ => ?_) rfl hl fun ys ρ' h1 h2 h3 => ?_
  · subst hρ
    have hi : i < L.length := by
      rw [hL]
      exact (List.getElem?_eq_some_iff.mp hd).1
    obtain ⟨ρ1, e1, h⟩ := step i d L[i] hd (List.getElem?_eq_getElem hi)
    exact ⟨ρ1, e1, h.mono (fun y ρ3 ⟨a, b⟩ => ⟨⟨_, List.getElem?_eq_getElem hi, a⟩, b⟩) fun _ _ z => z⟩
  · subst h3
    rw [list_eq (h1.trans hL.symm) h2]
    exact fin
/-- a comprehension whose items each have Q; I: what changes -/
theorem w_lcQ {vs : List Nat} {g : D → List SD → Option (List SD)} {te : M SD} {l : List D} (I : Nat → List SD → Prop) (Q : γ → Prop) (m : γ → D)
    (step : ∀ (i : Nat) (d : D) (ρ : List SD), l[i]? = some d → I i ρ → ∃ ρ1, g d (wipeR ρ vs) = some ρ1 ∧ Wp (fE te) ρ1 (fun y ρ3 => (∃ c, Q c ∧ y = m c) ∧ I (i + 1) (unw ρ ρ3 vs)) NoX) (h0 : I 0 ρ) (hl : l.length ≤ 1000000)
    (fin : ∀ (L : List γ) ρ', L.length = l.length → (∀ c ∈ L, Q c) → I l.length ρ' → pl (L.map m) ρ') : Wp (lcL vs g (M.ret true) te l []) ρ pl E := by
  refine w_lcL (I := I) (P := fun i y => ∃ c, Q c ∧ y = m c) step h0 hl fun ys ρ' h1 h2 h3 => ?_
  obtain ⟨L, rfl, hQ⟩ := list_of (ys := ys) (Q := Q) (g := m) fun y hy => by
    obtain ⟨i, hi, e⟩ := List.mem_iff_getElem.mp hy
    exact h2 i y (by rw [List.getElem?_eq_getElem hi, e])
  exact fin L ρ' (by rw [← h1, List.length_map]) hQ h3
end
theorem o_len {p : SD → Prop} {l : List D} (h : p (.va (.int l.length))) : Ow (lenD [.tup l]) p := ⟨_, rfl, h⟩
theorem o_lenL {p : SD → Prop} {b : Bool} {l : List D} (h : p (.va (.int l.length))) : Ow (lenD [.lst b l]) p := ⟨_, rfl, h⟩
theorem o_tupT {p : SD → Prop} {l : List D} (h : p (.va (.tup l))) : Ow (tupD [.tup l]) p := ⟨_, rfl, h⟩
theorem o_tupL {p : SD → Prop} {b : Bool} {l : List D} (h : p (.va (.tup l))) : Ow (tupD [.lst b l]) p := ⟨_, rfl, h⟩
theorem o_listT {p : SD → Prop} {l : List D} (h : p (.ow (.lst false l))) : Ow (listD [.tup l]) p := ⟨_, rfl, h⟩
theorem o_listL {p : SD → Prop} {b : Bool} {l : List D} (h : p (.ow (.lst false l))) : Ow (listD [.lst b l]) p := ⟨_, rfl, h⟩
theorem o_isi {p : SD → Prop} {d : D} {n a : String} {r : Bool} (h1 : d.kind = some a) (h2 : kitT a n = some r) (h : p (.va (.bl r))) : Ow (isiD [d, .ty n]) p := ⟨.va (.bl r), by
  unfold isiD
  simp only [h1, h2, Option.bind_some, Option.map_some], h⟩
theorem o_isit {p : SD → Prop} {d : D} {l : List D} {a : String} {r : Bool} (h1 : d.kind = some a) (h2 : kitsT a l = some r) (h : p (.va (.bl r))) : Ow (isitD [d, .tup l]) p := ⟨.va (.bl r), by
  unfold isitD
  simp only [h1, h2, Option.bind_some, Option.map_some], h⟩
theorem boolsD_map (bs : List Bool) : boolsD (bs.map D.bl) = some bs := by
  induction bs with
  | nil => rfl
  | cons b bs ih =>
    show (boolsD (bs.map D.bl)).map (b :: ·) = _
    rw [ih]
    rfl
theorem o_all {p : SD → Prop} {b : Bool} {bs : List Bool} (h : p (.va (.bl (bs.all id)))) : Ow (allD [.lst b (bs.map D.bl)]) p := ⟨_, by
  unfold allD
  dsimp only
  rw [boolsD_map]
  rfl, h⟩
theorem o_any {p : SD → Prop} {b : Bool} {bs : List Bool} (h : p (.va (.bl (bs.any id)))) : Ow (anyD [.lst b (bs.map D.bl)]) p := ⟨_, by
  unfold anyD
  dsimp only
  rw [boolsD_map]
  rfl, h⟩
theorem ki_int (i : Int) : D.kind (.int i) = some "int" := rfl
theorem kt (a : String) (r : Bool) (n : String) (h : kitT a n = some r) : kitT a n = some r := h
theorem kit_int_int : kitT "int" "int" = some true := by decide +kernel
theorem kit_int_bool : kitT "int" "bool" = some false := by decide +kernel
theorem kit_int_tuple : kitT "int" "tuple" = some false := by decide +kernel
theorem kit_int_list : kitT "int" "list" = some false := by decide +kernel
theorem kit_int_dict : kitT "int" "dict" = some false := by decide +kernel
theorem kit_bool_bool : kitT "bool" "bool" = some true := by decide +kernel
theorem kit_bool_int : kitT "bool" "int" = some true := by decide +kernel
theorem kit_bool_tuple : kitT "bool" "tuple" = some false := by decide +kernel
theorem kit_bool_list : kitT "bool" "list" = some false := by decide +kernel
theorem kit_str_bool : kitT "str" "bool" = some false := by decide +kernel
theorem kit_str_int : kitT "str" "int" = some false := by decide +kernel
theorem kit_tuple_bool : kitT "tuple" "bool" = some false := by decide +kernel
theorem kit_tuple_int : kitT "tuple" "int" = some false := by decide +kernel
theorem kit_tuple_tuple : kitT "tuple" "tuple" = some true := by decide +kernel
theorem kit_tuple_list : kitT "tuple" "list" = some false := by decide +kernel
theorem kit_tuple_dict : kitT "tuple" "dict" = some false := by decide +kernel
theorem kit_list_bool : kitT "list" "bool" = some false := by decide +kernel
theorem kit_list_int : kitT "list" "int" = some false := by decide +kernel
theorem kit_list_tuple : kitT "list" "tuple" = some false := by decide +kernel
theorem kit_list_list : kitT "list" "list" = some true := by decide +kernel
theorem kit_list_dict : kitT "list" "dict" = some false := by decide +kernel
theorem kit_non_bool : kitT "NoneType" "bool" = some false := by decide +kernel
theorem kit_non_tuple : kitT "NoneType" "tuple" = some false := by decide +kernel
theorem kit_non_int : kitT "NoneType" "int" = some false := by decide +kernel
theorem kits_int : kitsT "int" [.ty "int", .ty "str"] = some true := by decide +kernel
theorem kits_str : kitsT "str" [.ty "int", .ty "str"] = some true := by decide +kernel
theorem kits_tuple : kitsT "tuple" [.ty "int", .ty "str"] = some false := by decide +kernel
theorem kits_list : kitsT "list" [.ty "int", .ty "str"] = some false := by decide +kernel
theorem o_isK {p : SD → Prop} {d : D} {n a : String} {r : Bool} (h2 : kitT a n = some r) (h : p (.va (.bl r))) (h1 : d.kind = some a) : Ow (isiD [d, .ty n]) p := o_isi h1 h2 h
theorem o_isKT {p : SD → Prop} {d : D} {l : List D} {a : String} {r : Bool} (h2 : kitsT a l = some r) (h : p (.va (.bl r))) (h1 : d.kind = some a) : Ow (isitD [d, .tup l]) p := o_isit h1 h2 h
/-- .. asked kind by kind -/
def OwI (d : D) (n : String) (p : SD → Prop) : Prop := Ow (isiD [d, .ty n]) p
def OwT (d : D) (l : List D) (p : SD → Prop) : Prop := Ow (isitD [d, .tup l]) p
theorem o_isi0 {p : SD → Prop} {d : D} {n : String} (h : OwI d n p) : Ow (isiD [d, .ty n]) p := h
theorem o_isit0 {p : SD → Prop} {d : D} {l : List D} (h : OwT d l p) : Ow (isitD [d, .tup l]) p := h
theorem o_isI {p : SD → Prop} {d : D} {n a : String} {r : Bool} (h2 : kitT a n = some r) (h1 : d.kind = some a) (h : p (.va (.bl r))) : OwI d n p := o_isi h1 h2 h
theorem o_isT {p : SD → Prop} {d : D} {l : List D} {a : String} {r : Bool} (h2 : kitsT a l = some r) (h1 : d.kind = some a) (h : p (.va (.bl r))) : OwT d l p := o_isit h1 h2 h
theorem nd1 (i : Nat) : [i].Nodup := by simp
theorem x_one {α : Type} {P Q : α → Prop} {a : α} (h : P a) (q : Q a) : ∃ a, P a ∧ Q a := ⟨a, h, q⟩
theorem x_two {α β : Type} {P Q : α → β → Prop} {a : α} {b : β} (h : P a b) (q : Q a b) : ∃ a b, P a b ∧ Q a b := ⟨a, b, h, q⟩
theorem x_call0 {α : Type} {N : Prop} {P Q : α → Prop} {a : α} (n : N) (h : P a) (q : Q a) : N ∧ ∃ a, P a ∧ Q a := ⟨n, a, h, q⟩
theorem x_len {n : Nat} {P : Prop} (h : n ≤ 1000) (p : P) : n ≤ 1000 ∧ P := ⟨h, p⟩
theorem peq_bl (a b : Bool) : peq (.bl a) (.bl b) = decide (a = b) := by cases a <;> cases b <;> rfl
theorem pl_bl (n : Nat) (a : Bool) : D.pl n (.bl a) = true := by cases n <;> rfl
theorem o_eqB {p : SD → Prop} {a b : Bool} (h : p (.va (.bl (decide (a = b))))) : Ow (eqD (.bl a) (.bl b)) p := ⟨_, by
  unfold eqD
  rw [pl_bl, pl_bl, peq_bl]
  rfl, h⟩
theorem o_neB {p : SD → Prop} {a b : Bool} (h : p (.va (.bl (!decide (a = b))))) : Ow (neD (.bl a) (.bl b)) p := ⟨_, by
  unfold neD
  rw [pl_bl, pl_bl, peq_bl]
  rfl, h⟩
theorem o_isnN {p : SD → Prop} (h : p (.va (.bl true))) : Ow (isnD .non .non) p := ⟨_, rfl, h⟩
theorem o_isnI {p : SD → Prop} {a : Int} (h : p (.va (.bl false))) : Ow (isnD (.int a) .non) p := ⟨_, rfl, h⟩
theorem o_isnB {p : SD → Prop} {a : Bool} (h : p (.va (.bl false))) : Ow (isnD (.bl a) .non) p := ⟨_, rfl, h⟩
theorem o_isnS {p : SD → Prop} {a : Str} (h : p (.va (.bl false))) : Ow (isnD (.str a) .non) p := ⟨_, rfl, h⟩
theorem o_isnT {p : SD → Prop} {a : List D} (h : p (.va (.bl false))) : Ow (isnD (.tup a) .non) p := ⟨_, rfl, h⟩
theorem o_isnL {p : SD → Prop} {b : Bool} {a : List D} (h : p (.va (.bl false))) : Ow (isnD (.lst b a) .non) p := ⟨_, rfl, h⟩
theorem o_ntnN {p : SD → Prop} (h : p (.va (.bl false))) : Ow (ntnD .non .non) p := ⟨_, rfl, h⟩
theorem o_ntnI {p : SD → Prop} {a : Int} (h : p (.va (.bl true))) : Ow (ntnD (.int a) .non) p := ⟨_, rfl, h⟩
theorem o_ntnT {p : SD → Prop} {a : List D} (h : p (.va (.bl true))) : Ow (ntnD (.tup a) .non) p := ⟨_, rfl, h⟩
theorem o_ntnL {p : SD → Prop} {b : Bool} {a : List D} (h : p (.va (.bl true))) : Ow (ntnD (.lst b a) .non) p := ⟨_, rfl, h⟩
/-- both ways of a test that is known -/
theorem br_t {P Q : Prop} (h : P) : ((true = true → P) ∧ (true = false → Q)) := ⟨fun _ => h, fun z => Bool.noConfusion z⟩
theorem br_f {P Q : Prop} (h : Q) : ((false = true → P) ∧ (false = false → Q)) := ⟨fun z => Bool.noConfusion z, fun _ => h⟩
theorem br_nt {P Q : Prop} (h : Q) : (((!true) = true → P) ∧ ((!true) = false → Q)) := ⟨fun z => Bool.noConfusion z, fun _ => h⟩
theorem br_nf {P Q : Prop} (h : P) : (((!false) = true → P) ∧ ((!false) = false → Q)) := ⟨fun _ => h, fun z => Bool.noConfusion z⟩
/-- plain, of no great size -/
def okS : Nat → D → Bool
  | _, .non => true
  | _, .bl _ => true
  | _, .int _ => true
  | n + 1, .tup l => decide (l.length ≤ 1000) && l.all (okS n)
  | n + 1, .lst _ l => decide (l.length ≤ 1000) && l.all (okS n)
  | _, _ => false
theorem br_d {α : Type} [DecidableEq α] {a : α} {P Q : Prop} (h : Q) : (((!decide (a = a)) = true → P) ∧ ((!decide (a = a)) = false → Q)) := ⟨fun z => by simp at z, fun _ => h⟩
theorem br_e {α : Type} [DecidableEq α] {a : α} {P Q : Prop} (h : P) : ((decide (a = a) = true → P) ∧ (decide (a = a) = false → Q)) := ⟨fun _ => h, fun z => by simp at z⟩
theorem x_is {o : Option SD} {P : Prop} (h : isSet o = true) (p : P) : isSet o = true ∧ P := ⟨h, p⟩
theorem x_put {o : Option SD} {k : D} {P : Bool → List D → Int → Nat → Prop} {b : Bool} {l : List D} {j : Int} {n : Nat} (e1 : o = some (.ow (.lst b l))) (e2 : k = .int j) (e3 : ixN l.length j = some n) (h : P b l j n) :
    ∃ b l j n, o = some (.ow (.lst b l)) ∧ k = .int j ∧ ixN l.length j = some n ∧ P b l j n := ⟨b, l, j, n, e1, e2, e3, h⟩
theorem w_mid {ρ : List SD} {E : Exn → List SD → Prop} {a : S} {p q : Fl → List SD → Prop} (h : Wp a ρ q E) (g : ∀ f ρ', q f ρ' → p f ρ') : Wp a ρ p E := h.mono g fun _ _ z => z
theorem at_int {cells : List Int} {i : Int} (h0 : 0 ≤ i) (h1 : i < ((cells.map D.int).length : Nat)) : ∃ z, atI (cells.map D.int) i = some (.int z) := by
  obtain ⟨n, rfl⟩ : ∃ n : Nat, i = n := Int.eq_ofNat_of_zero_le h0
  have hn : n < cells.length := by
    rw [List.length_map] at h1
    omega
  refine ⟨cells[n], ?_⟩
  rw [Fm.atI_nat, List.getElem?_map, List.getElem?_eq_getElem hn]
  rfl
theorem o_slS {p : SD → Prop} {l : List D} {lo hi : Option Int} (h : p (.ow (.lst false (cutD l lo hi)))) : Ow (slcD (.scr l) lo hi) p := ⟨_, rfl, h⟩
theorem o_slL {p : SD → Prop} {b : Bool} {l : List D} {lo hi : Option Int} (h : p (.ow (.lst false (cutD l lo hi)))) : Ow (slcD (.lst b l) lo hi) p := ⟨_, rfl, h⟩
theorem o_slT {p : SD → Prop} {l : List D} {lo hi : Option Int} (h : p (.va (.tup (cutD l lo hi)))) : Ow (slcD (.tup l) lo hi) p := ⟨_, rfl, h⟩
theorem cutD_map {γ : Type} (l : List γ) (m : γ → D) (lo hi : Option Int) : ∃ l' : List γ, cutD (l.map m) lo hi = l'.map m := by
  unfold cutD
  exact ⟨(l.drop _).take _, by rw [List.map_take, List.map_drop]⟩
theorem br_F {b : Bool} {P Q : Prop} (e : b = false) (h : Q) : (b = true → P) ∧ (b = false → Q) := ⟨fun z => (by rw [e] at z; cases z), fun _ => h⟩
theorem br_T {b : Bool} {P Q : Prop} (e : b = true) (h : P) : (b = true → P) ∧ (b = false → Q) := ⟨fun _ => h, fun z => by rw [e] at z; cases z⟩
section
variable {α : Type} {m : M α} {p : α → List SD → Prop} {E : Exn → List SD → Prop}
theorem w_stP {ρ o ρ' : List SD} {as : List Ar} (e : putAs ρ as o = ρ') (h : Wp m ρ' p E) : Wp m (putAs ρ as o) p E := by
  rw [e]
  exact h
theorem w_stS {ρ ρ' : List SD} {i : Nat} {x : SD} (e : ρ.set i x = ρ') (h : Wp m ρ' p E) : Wp m (ρ.set i x) p E := by
  rw [e]
  exact h
theorem w_stA {ρ r ρ' : List SD} (e : ρ ++ r = ρ') (h : Wp m ρ' p E) : Wp m (ρ ++ r) p E := by
  rw [e]
  exact h
end
end Fm
set_option maxHeartbeats 390000
namespace Fm
open L2 PySem PySem.Spec PyProof.Rows

/-! ### own exceptions, made without arguments -/
/-- what the making asks of the class's own __init__ -/
def tMk0 (C : Addr) (sp : Sp) : L2.St → Hp → XK → Prop := fun σ H Q => ∀ a, H a = none →
  sp [.ref a] (upd H a (exo a C none)) (fun v H2 => v = .non ∧ ∃ (d : Addr) (fs : List (Str × V)), H2 a = some (exo a C (some d)) ∧ H2 d = some (exd d fs) ∧ H d = none ∧ Q (.ref C) (some d) (upd (del H2 a) d (.xd fs))) fun _ _ _ => False
section
variable {X : Cx} {C fI : Addr} {CX : CXT} {k : Nat} {fd : FuncData} {sp : Sp} {x : Str} {p pos : Pos}
theorem pmk0 (T : OexC X.K C) (iC : PySem.W.findIn X.K (.ref C) "__init__" = some (some (.ref fI))) (tI : PySem.W.typeIn X.K (.ref fI) = some (.type "function")) (F1 : FnOk X.prog X.w X.K X.mg X.base CX k fI fd ["self"] sp)
    (hr : Room (k + 1) X.A) (hb : Binds X.K fd ["self"] []) (hx : Passes CX X fun _ _ _ => False) (hg : Gl X x) (hm : X.mg x = some (.ref C)) (hdb : (x == ("__debug__" : Str)) = false := by decide) : PMk X (.Call (.Name x p) [] [] pos) (tMk0 C sp) := by
  intro pins s σ H Q I h
  refine wpAny_Call_Name_kw (ld_glob I hg hm (PySem.W.callWith_K0 I.kIn T.kC ?_) hdb)
  obtain ⟨nm, q, N, bs, bm, sn, sub, ab, col, dd, k0, k1, k2, k3, k5, hC, own⟩ := T.cls
  obtain ⟨hp, gs, dw, tk, os⟩ := s
  have free : H (hp.objs.size + 1) = none := I.hok.fresh (Nat.le_succ hp.objs.size)
  have grown : ∀ b o, hp.get? b = some o → ((hp.push (PySem.W.kdv_tup [])).push (PySem.HandSPX.excO C hp.objs.size)).get? b = some o := fun b o e => Heap.get?_push_of_some _ (Heap.get?_push_of_some _ e)
  have I2 := I.laid (t' := tk) (a := hp.objs.size + 1) (o := exo (hp.objs.size + 1) C none) grown (Nat.le_succ hp.objs.size) (exo_ok (t1 := hp.objs.size) (by heap_get))
  have run := F1.run _ X.stack _ _ ⟨[.ref (hp.objs.size + 1)], []⟩ [.ref (hp.objs.size + 1)] [.ref (hp.objs.size + 1)] _ (fun _ _ _ => False) (hr.make C [] []) (I2.env0.make C [] []) (hb _ [.ref (hp.objs.size + 1)] I2.kIn rfl) (.cons (show RelV (.ref _) _ from rfl) .nil) (h _ free)
  refine wpAny_call (PySem.HandSPX.call_own F.excBase_ValueError (fun Y => PySem.HandSPX.refsVE_contains Y bm own) (I.kIn _ _ hC) (PySem.W.looks_findIn I.kIn iC) (fun self => PySem.W.bind_fn I.kIn self tI) (Nat.zero_le _) (codeAny_mono run fun r s' back => ?_))
  match r, back with
  | .error e, z => exact hx pins σ _ _ e s' I2 z
  | .ok .next, z => exact z.elim
  | .ok .brk, z => exact z.elim
  | .ok .cont, z => exact z.elim
  | .ok (.ret u), ⟨v, H2, o2, b2, un, ok2, rv, ev, d, fs, ea, ed, hd, q2⟩ =>
    subst ev
    exact ⟨rv, mk_end (raises_own T.exC T.tyC) I (Nat.le_succ _) grown un ok2 o2 b2 ea ed hd q2⟩
end
/-- what such an __init__ keeps: one field, a text -/
def spI (K : PySem.W.Frag) (f z : Str) : Sp := fun vs H Q E => ∃ a C : Addr, vs = [.ref a] ∧ OexC K C ∧ PySem.W.findIn K (.ref C) f = some none ∧ H a = some (exo a C none) ∧ ∀ dx, H dx = none → dx ≠ a → Q .non (upd (upd H dx (exd dx [(f, .str z)])) a (exo a C (some dx)))
theorem init_ok {P : Program} {w : World} {K : PySem.W.Frag} {mg : Str → Option Value} {base : Heap} {qual f z : Str} {params : Arguments} {scope : Scope} {fI : Addr} {fd : FuncData} {p1 p2 p3 p4 : Pos} {j : Nat}
    (F : FunD K "__init__" qual params [.Assign [.Attribute (.Name "self" p1) f p2] (.Constant (.str z) j p3) p4] scope [] [] fI fd) (Sc : FnScope ["self"] ["self"] scope) : FnOk P w K mg base (L2.CX P w) 1 fI fd ["self"] (spI K f z) := by
  refine F.ok Sc (fun vs H Q E ⟨a, C, e, _⟩ => by rw [e]; rfl) fun cdv A outer s H vs Q E hr ⟨a, C, e, T, no, ha, q⟩ => ?_
  subst e
  refine ⟨_, pss_one (ps_ost (pe_var (i := 0) rfl ((Sc.par _ (by simp)).imp id .inl)) pe_str), ?_⟩
  exact ⟨.ref a, rfl, a, C, rfl, T, no, .inl ⟨ha, fun dx n ne => q dx n ne⟩⟩
/-- a class of exceptions that the program raises without arguments -/
structure ExC (P : Program) (w : World) (K : PySem.W.Frag) (mg : Str → Option Value) (base : Heap) (κ : Ctx) (x : Str) (c : String) (f z : Str) (fI : Addr) (fd : FuncData) : Prop where
  T : OexC K (κ.cl c)
  no : PySem.W.findIn K (.ref (κ.cl c)) f = some none
  iC : PySem.W.findIn K (.ref (κ.cl c)) "__init__" = some (some (.ref fI))
  tI : PySem.W.typeIn K (.ref fI) = some (.type "function")
  ok : FnOk P w K mg base (L2.CX P w) 1 fI fd ["self"] (spI K f z)
  bd : Binds K fd ["self"] []
  gl : mg x = some (.ref (κ.cl c))
def sEx (x : Exn) : S := fun ρ => .ex x ρ
theorem made_heap {H : Hp} {a dx C : Addr} {fs : List (Str × V)} (ha : H a = none) (ne : dx ≠ a) : upd (del (upd (upd (upd H a (exo a C none)) dx (exd dx fs)) a (exo a C (some dx))) a) dx (.xd fs) = upd H dx (.xd fs) := by
  funext b
  by_cases h1 : b = dx
  · rw [h1, upd_same, upd_same]
  · rw [upd_ne h1, upd_ne h1]
    by_cases h2 : b = a
    · rw [h2, del_same, ha]
    · rw [del_ne h2, upd_ne h2, upd_ne h1, upd_ne h2]
section
variable {X : Cx} {κ : Ctx} {A : List Nat} {W : WX} {x : Str} {c : String} {f z : Str} {fI : Addr} {fd : FuncData} {p p2 pos : Pos}
theorem s_raise (C : ExC X.prog X.w X.K X.mg X.base κ x c f z fI fd) (hc : X.calm = true) (tk : Takes X W) (hr : Room 2 X.A) (hx : Passes (L2.CX X.prog X.w) X fun _ _ _ => False) (hg : Gl X x) (hdb : (x == ("__debug__" : Str)) = false := by decide) :
    PS X (.Raise (some (.Call (.Name x p) [] [] p2)) none pos) (tS κ A W (sEx ⟨c, [(f, .str z)]⟩)) := by
  refine PS.imp (ps_raise hc tk (pmk0 C.T C.iC C.tI C.ok hr C.bd hx hg C.gl hdb)) fun D σ H ⟨B, ρ, G, _, o, q⟩ a ha => ?_
  refine ⟨a, _, rfl, C.T, C.no, upd_same, fun dx hd ne => ⟨rfl, dx, [(f, .str z)], upd_same, ?_, ?_, ?_⟩⟩
  · rw [upd_ne ne, upd_same]
  · rw [upd_ne ne] at hd
    exact hd
  · rw [upd_ne ne] at hd
    rw [made_heap ha ne]
    exact q _ _ σ _ G (o.allocOwn hd) (Same.refl G) ⟨rfl, dx, _, rfl, upd_same, .str z, [], rfl, rfl, rfl⟩
end
end Fm
set_option maxHeartbeats 390000
namespace Fm
open L2 PySem PySem.Spec PyProof.Rows

/-! ### try: body, several clauses except x as n: suite -/
/-- the exception a in a handler's hand: noted in this frame, its flight at an end, and the state one of ours -/
structure Hand (X : Cx) (pins : List (Addr × Obj)) (σ : L2.St) (H : Hp) (cls : Value) (d : Option Addr) (a : Addr) (s : Shared) : Prop where
  na : H a = none
  air : ∃ (B : Heap) (sI : Shared), L2.Inv X pins σ H sI ∧ (∀ b o, sI.heap.get? b = some o → b ∉ frs X.stack → B.get? b = some o) ∧ sI.heap.UpToSlots s.heap ∧ PySem.HandSPX.FlyingZ B X.stack a (Zc cls d) s.heap ∧ s.os = sI.os ∧ AllBare s.gens
section
variable {X : Cx} {pins : List (Addr × Obj)} {σ : L2.St} {H : Hp} {cls : Value} {d : Option Addr} {a : Addr} {s : Shared}
theorem Hand.inv (h : Hand X pins σ H cls d a s) : L2.Inv X pins σ H s := by
  obtain ⟨B, sI, I, nb, up, fl, os, ag⟩ := h.air
  exact I.landed nb fl.1 up os ag
theorem Hand.obj (h : Hand X pins σ H cls d a s) : ∃ oe vs, s.heap.get? a = some oe ∧ Zc cls d oe ∧ oe.data = .fields vs := by
  obtain ⟨B, sI, I, nb, up, fl, os, ag⟩ := h.air
  exact fl.there
theorem Hand.away (h : Hand X pins σ H cls d a s) : a ∉ frs X.stack := by
  obtain ⟨B, sI, I, nb, up, fl, os, ag⟩ := h.air
  obtain ⟨oe, vs, e, _, dt⟩ := fl.there
  intro m
  obtain ⟨_, o, eo, no⟩ := fl.2.2.1.mem m
  rw [e] at eo
  cases eo
  exact no _ dt
theorem Hand.to {s2 : Heap} (h : Hand X pins σ H cls d a s) (f : ∀ B, PySem.HandSPX.FlyingZ B X.stack a (Zc cls d) s.heap → PySem.HandSPX.FlyingZ B X.stack a (Zc cls d) s2) (u : s.heap.UpToSlots s2) : Hand X pins σ H cls d a { s with heap := s2 } := by
  obtain ⟨B, sI, I, nb, up, fl, os, ag⟩ := h.air
  exact ⟨h.na, B, sI, I, nb, up.trans u, f B fl, os, ag⟩
/-- the state as an except suite sees it -/
theorem Hand.within (h : Hand X pins σ H cls d a s) (hs : X.stack = X.env :: X.outer) (hf : X.env.frame = some X.env.locals) {oe : Obj} {vs : Array Value} (e : s.heap.get? a = some oe) (dt : oe.data = .fields vs) : L2.Inv (X.suite a ((a, oe) :: (X.pn ++ pins))) [] σ H s := by
  have out := h.away
  rw [hs] at out
  refine h.inv.suite e dt h.na (fun z => out ?_) fun m => out ?_
  · exact List.mem_filterMap.mpr ⟨X.env, List.mem_cons_self .., by rw [hf, z]⟩
  · obtain ⟨v, m1, m2⟩ := List.mem_filterMap.mp m
    exact List.mem_filterMap.mpr ⟨v, List.mem_cons_of_mem _ m1, m2⟩
end
/-- a clause: its class, the slot of its name, what its suite does -/
structure Cl where
  c : Value
  i : Nat
  ts : Addr → Value → Option Addr → TS
/-- behind a suite its name is gone -/
def Ends.less (D : Ends) (i : Nat) : Ends := { nx := fun σ H => D.nx (σ.set i none) H, rt := D.rt, bk := fun σ H => D.bk (σ.set i none) H, ct := fun σ H => D.ct (σ.set i none) H }
/-- what the clauses, one behind another, wish of an exception of the body -/
def wCls (K : PySem.W.Frag) (Wout : WX) (D : Ends) : List Cl → WX
  | [] => Wout
  | q :: r => fun cls d σ H => ∃ b, PySem.W.exmOne K cls q.c = some b ∧ (b = true → ∀ a, H a = none → q.ts a cls d (Ends.less D q.i) (σ.set q.i (some (.ref a))) H) ∧ (b = false → wCls K Wout D r cls d σ H)
inductive ClsOk (X : Cx) : List ExceptHandler → List Cl → Prop
  | nil : ClsOk X [] []
  | cons {x n : Str} {q : Cl} {b₀ : Stmt} {suite : List Stmt} {np pos : Pos} {hds : List ExceptHandler} {l : List Cl} (hc : Names X x q.c) (hi : X.N[q.i]? = some n) (hl : X.env.kindOf n = some .local)
      (go : ∀ (a : Addr) (oe : Obj) (cls : Value) (d : Option Addr) (pn : List (Addr × Obj)), Zc cls d oe → (∃ vs, oe.data = .fields vs) → PSs (X.suite a ((a, oe) :: pn)) (b₀ :: suite) (q.ts a cls d)) (r : ClsOk X hds l) :
      ClsOk X (.ExceptHandler (some (.Name x np)) (some n) (b₀ :: suite) pos :: hds) (q :: l)
section
variable {X : Cx} {pins : List (Addr × Obj)} {Wout : WX} {D : Ends}
/-- no clause is left: it goes on -/
theorem Hand.on {σ : L2.St} {H : Hp} {cls : Value} {d : Option Addr} {a : Addr} {s : Shared} (h : Hand X pins σ H cls d a s) (hs : X.stack = X.env :: X.outer) (hf : X.env.frame = some X.env.locals) (tk : Takes X Wout) (w : Wout cls d σ H) :
    wpAny (model X.prog X.w) X.A (handleBy (.ref a) X.env []) (SP X pins D) X.xe s := by
  obtain ⟨B, sI, I, nb, up, fl, os, ag⟩ := h.air
  have last : wpAny (model X.prog X.w) X.A (setFlight (.ref a) X.env.frame) (fun _ s2 => wpAny (model X.prog X.w) X.A (throw (.ref a) : Sem Flow) (SP X pins D) X.xe s2) X.xe s := by
    rw [hf]
    refine PySem.HandSPX.setFlight_upZ (hs ▸ fl) fun h2 held up2 => wpAny_throw (tk _ _ ?_)
    exact ⟨a, B, sI, pins, σ, H, cls, d, rfl, I, nb, up.trans up2, .inr (.inr (by rw [hs]; exact held)), h.na, os, ag, w⟩
  obtain ⟨_, _, _, oe, vs, T, _, _, e, _, dt, tb, _⟩ := id fl
  refine wpAny_handleBy_nil (wpAny_bind (wpAny_field e dt tb ?_))
  rw [if_neg (show ¬ ((Value.ref T == Value.none) = true) from fun z => nomatch z)]
  first
    | exact wpAny_bind last
    | exact wpAny_bind (wpAny_pure (wpAny_bind last))
theorem Hand.by_ {cls : Value} {d : Option Addr} {a : Addr} {s : Shared} {σ : L2.St} {H : Hp} {hds : List ExceptHandler} {l : List Cl} (k : ClsOk X hds l) (h : Hand X pins σ H cls d a s) (hs : X.stack = X.env :: X.outer) (hf : X.env.frame = some X.env.locals)
    (hN : X.N.Nodup) (ok : X.Ok) (tk : Takes X Wout) (w : wCls X.K Wout D l cls d σ H) : wpAny (model X.prog X.w) X.A (handleBy (.ref a) X.env hds) (SP X pins D) X.xe s := by
  induction k with
  | nil => exact h.on hs hf tk w
  | @cons x n q b₀ suite np pos hds l hc hi hl go r ih =>
    obtain ⟨b, hb, yes, no⟩ := w
    obtain ⟨oe, vs, e, z, dt⟩ := h.obj
    have S := h.within hs hf e dt
    have ty : PySem.W.Looks (model X.prog X.w) s.heap (typeOf (.ref a)) cls := fun A Q E s1 k q => wpAny_typeOf_ref (k _ _ e) (by rw [z.1]; exact q)
    refine wpAny_handleBy_cons (codeAny_handlers_test ?_) fun q => nomatch q
    have name : ∀ {Q : Value → Shared → Prop} {E : Value → Shared → Prop}, Q q.c s → wpAny (model X.prog X.w) (X.A.mark (some (.ref a))) (eval (.Name x np) X.env) Q E s := fun {Q E} y => by
      obtain ⟨g, db, m | ⟨m, v, nn⟩⟩ := hc
      · exact ld_glob (X := X.suite a ((a, oe) :: (X.pn ++ pins))) S g m y db
      · exact ld_blt (X := X.suite a ((a, oe) :: (X.pn ++ pins))) S g m v y nn db
    refine name ((PySem.W.exm_one (M := model X.prog X.w) h.inv.kIn ty hb).here ?_)
    cases b with
    | false => exact ih (no rfl)
    | true =>
      obtain ⟨B, sI, I, nb, up, fl, os, ag⟩ := h.air
      refine codeAny_handlers_suite_as (PySem.HandSPX.lands_againZ fl fun h2 fl2 up2 => ?_)
      have H2 : Hand X pins σ H cls d a { s with heap := h2 } := ⟨h.na, B, sI, I, nb, up.trans up2, fl2, os, ag⟩
      obtain ⟨oe2, vs2, e2, z2, dt2⟩ := H2.obj
      have S2 := H2.within hs hf e2 dt2
      refine store_ok (X := X.suite a ((a, oe2) :: (X.pn ++ pins))) (v := .ref a) S2 hN hi (.inl hl) rfl (fun s3 S3 => ?_) (.inr hl)
      refine wpAny_mono ((go a oe2 cls d (X.pn ++ pins) z2 ⟨_, dt2⟩).run [] s3 _ H _ S3 (yes rfl a h.na)) (fun fl' s4 out => ?_) fun _ _ z => z.elim
      have leave : ∀ {σ4 : L2.St} {H4 : Hp} {Q : Shared → Prop}, L2.Inv (X.suite a ((a, oe2) :: (X.pn ++ pins))) [] σ4 H4 s4 → (∀ s5, L2.Inv X pins (σ4.set q.i none) H4 s5 → Q s5) →
          wpAny (model X.prog X.w) X.A (do bindName X.env n .none; unbindBehindTheSuite X.env n pos) (fun _ s5 => Q s5) X.xe s4 := fun J f => gone_ok (J.unsuite ok) hN hi hl f
      match fl', out with
      | .next, ⟨σ4, H4, J, y⟩ => exact leave J fun s5 J5 => ⟨_, _, J5, y⟩
      | .brk, ⟨σ4, H4, J, y⟩ => exact leave J fun s5 J5 => ⟨_, _, J5, y⟩
      | .cont, ⟨σ4, H4, J, y⟩ => exact leave J fun s5 J5 => ⟨_, _, J5, y⟩
      | .ret u, ⟨v, σ4, H4, J, r4, y⟩ => exact leave J fun s5 J5 => ⟨_, _, _, J5, r4, y⟩
theorem ps_try_cls {body : List Stmt} {hd : ExceptHandler} {hds : List ExceptHandler} {l : List Cl} {pos : Pos} {tb : WX → TS} (hs : X.stack = X.env :: X.outer) (hf : X.env.frame = some X.env.locals) (hN : X.N.Nodup) (tk : Takes X Wout)
    (hb : ∀ (W : WX) (pn : List (Addr × Obj)) (xe : Value → Shared → Prop), Takes (X.tr pn xe) W → PassesOwn (model X.prog X.w) X.A X.env xe → PSs (X.tr pn xe) body (tb W)) (k : ClsOk X (hd :: hds) l) :
    PS X (.Try body (hd :: hds) [] [] pos) (fun D σ H => tb (wCls X.K Wout D l) D σ H) := by
  refine ⟨fun pins s σ H D I h => wpAny_Try_except ?_⟩
  have ok := I.ok
  have catches : Takes (X.tr (X.pn ++ pins) fun e s1 => wpAny (model X.prog X.w) X.A (noteFrame e X.env) (fun _ s2 => wpAny (model X.prog X.w) X.A (setFlight e none) (fun _ s3 => wpAny (model X.prog X.w) X.A (handleBy e X.env (hd :: hds)) (SP X pins D) X.xe s3) X.xe s2) X.xe s1) (wCls X.K Wout D l) := by
    rintro u s1 ⟨a, B, sI, pn, σ1, H1, cls, d, rfl, J, nb, up, sky, na, os, ag, w⟩
    refine Sky.land Zc.steady (by rw [ok.frames, hs]) hf (by rw [← hs]; exact sky) fun h3 fl3 up3 => ?_
    exact Hand.by_ k ⟨na, B, sI, J.ofTry ok, nb, up.trans up3, by rw [hs]; exact fl3, os, ag⟩ hs hf hN ok tk w
  refine wpAny_mono ((hb _ _ _ catches PassesOwn.looking).run [] s σ H D (I.toTry _) h) (fun fl s1 out => ?_) fun _ _ z => z
  match fl, out with
  | .next, ⟨σ1, H1, J, y⟩ => exact wpAny_execs_nil ⟨σ1, H1, J.ofTry ok, y⟩
  | .brk, ⟨σ1, H1, J, y⟩ => exact ⟨σ1, H1, J.ofTry ok, y⟩
  | .cont, ⟨σ1, H1, J, y⟩ => exact ⟨σ1, H1, J.ofTry ok, y⟩
  | .ret u, ⟨v, σ1, H1, J, r, y⟩ => exact ⟨v, σ1, H1, J.ofTry ok, r, y⟩
end
end Fm
set_option maxHeartbeats 390000
namespace Fm
open L2 PySem PySem.Spec PyProof.Rows

/-! ### a lambda handed to a def that calls it -/
section
variable {X : Cx} {pins pinsZ pn : List (Addr × Obj)} {σ σZ : L2.St} {H HZ : Hp} {s sZ : Shared} {CXg : CXT} {E Eg : XK} {Ng : List Str} {qg : Str} {sg scope : Scope} {g f c' : Addr} {cdg pm ctv : Value} {params : Arguments} {body : Expr} {k : Nat} {xe : Value → Shared → Prop} {tb : TE} {tc : XK → TE} {Q : VK}
/-- the frame of the def that got it -/
abbrev cxG (X : Cx) (CXg : CXT) (Ng : List Str) (qg : Str) (sg : Scope) (g : Addr) (cdg : Value) (s : Shared) (H : Hp) (Eg : XK) (pn : List (Addr × Obj)) (xe : Value → Shared → Prop) : Cx := (cxOf CXg X.prog X.w X.K X.mg X.base Ng qg sg g cdg X.A X.stack s H Eg).tr pn xe
/-- the lambda's code, run from there -/
theorem lam_code (I : L2.Inv X pins σ H s) (L : LamX.LamS X.env.scope scope) (hf : s.heap.get? f = some (PySem.W.kla_obj "<lambda>" (X.env.qual ++ "<lambda>") params body scope (cloFrom X.env.cells scope.names []) pm c' ctv)) (hn : H f = none) (out : f ∉ frs X.stack)
    (bind : bindArgs (PySem.W.kla_fn "<lambda>" (X.env.qual ++ "<lambda>") params body scope (cloFrom X.env.cells scope.names []) pm (.ref c') ctv) ⟨[], []⟩ = pure [])
    (hbody : ∀ (A : Around) (outer : List Env) (s : Shared) (H : Hp), Room k (A.deeper (LamX.lamEnv X scope s.heap.objs.size f c')) → PE (LamX.lamCx X A outer s H E scope f c') body tb)
    (hr : Room (k + 1) (cxG X CXg Ng qg sg g cdg s H Eg pn xe).A) (IZ : L2.Inv (cxG X CXg Ng qg sg g cdg s H Eg pn xe) pinsZ σZ HZ sZ) (hc : HZ c' = some (LamX.CodeO c' (X.env.qual ++ "<lambda>"))) (h : tb σ HZ Q) :
    codeAny (model X.prog X.w) (cxG X CXg Ng qg sg g cdg s H Eg pn xe).A (.call (.ref f) ⟨[], []⟩) (CR (L2.CX X.prog X.w) (cxG X CXg Ng qg sg g cdg s H Eg pn xe).stack X.prog X.w HZ sZ Q E) sZ := by
  have there := IZ.base.keep f _ hf hn out fun z => nomatch (show f ∈ ([] : List Addr) from z)
  obtain ⟨⟨oc, vs, t, e1, e2, e3⟩, _⟩ := IZ.hok c' _ hc
  refine PySem.W.kla_callFunE hr.depth there rfl L.co L.gen rfl ⟨c', oc, vs, t, rfl, e1, e2, e3⟩ (bind ▸ wpAny_pure (wpAny_newFunctionEnv (fun y m => (L.own y m).2) (fun y m => absurd m (by simp)) (fun h1 ns sb => ⟨IZ.nolimit.fresh _ sb, ?_⟩) L.kind))
  have old : ∀ b o, sZ.heap.get? b = some o → h1.get? b = some o := fun b o e => sb.extBut b o (Nat.ne_of_lt (Heap.lt_size e)) (Heap.get?_push_of_some _ e)
  have J := LamX.lam_start2 (E := E) (f := f) (c' := c') (tk := sZ.toks + ([] : List (Str × Value)).length) I L IZ.env0 hr.hd IZ.base ns old
  exact PySem.W.kla_codeExpr (wpAny_mono ((hbody _ _ sZ HZ (hr.deeper _)).run [] _ _ HZ Q J h) (fun v s1 ⟨u, H1, J1, r1, q1⟩ => ⟨u, H1, J1.os, J1.bare, J1.base, J1.hok, r1, q1⟩) fun _ _ z => z)
/-- x(), x the parameter that got it -/
theorem pe_ask {i : Nat} {a : Str} {p1 p2 : Pos} (I : L2.Inv X pins σ H s) (L : LamX.LamS X.env.scope scope) (hf : s.heap.get? f = some (PySem.W.kla_obj "<lambda>" (X.env.qual ++ "<lambda>") params body scope (cloFrom X.env.cells scope.names []) pm c' ctv)) (hn : H f = none) (out : f ∉ frs X.stack)
    (bind : bindArgs (PySem.W.kla_fn "<lambda>" (X.env.qual ++ "<lambda>") params body scope (cloFrom X.env.cells scope.names []) pm (.ref c') ctv) ⟨[], []⟩ = pure [])
    (hbody : ∀ (E : XK) (A : Around) (outer : List Env) (s : Shared) (H : Hp), Room k (A.deeper (LamX.lamEnv X scope s.heap.objs.size f c')) → PE (LamX.lamCx X A outer s H E scope f c') body (tc E))
    (hr : Room (k + 1) (cxG X CXg Ng qg sg g cdg s H Eg pn xe).A) (hN : Ng[i]? = some a) (hv : Vis sg a) (hd : (a == ("__debug__" : Str)) = false := by decide) (hcd : (a == ("__classdict__" : Str)) = false := by decide) :
    PE (cxG X CXg Ng qg sg g cdg s H Eg pn xe) (.Call (.Name a p1) [] [] p2) (fun σZ HZ Q => σZ[i]? = some (some (.ref f)) ∧ HZ c' = some (LamX.CodeO c' (X.env.qual ++ "<lambda>")) ∧
      ∃ E : XK, PassesAt (L2.CX X.prog X.w) (cxG X CXg Ng qg sg g cdg s H Eg pn xe) σZ E ∧ tc E σ HZ Q) := by
  refine ⟨fun pinsZ sZ σZ HZ Q IZ ⟨at_, hc, E, hx, h⟩ => wpAny_Call_Name_kw (thn ((pe_var (pos := p1) (i := i) hN hv hd hcd).run pinsZ sZ σZ HZ (fun v H1 => v = .ref f ∧ H1 = HZ) IZ ⟨_, at_, rfl, rfl⟩) fun u s1 ⟨v, H1, I1, r1, ev, eH⟩ => ?_)⟩
  subst ev eH
  have ru : u = Value.ref f := r1
  subst ru
  refine PySem.W.callWith_F0 ⟨_, _, _, _, I1.base.keep f _ hf hn out fun z => nomatch (show f ∈ ([] : List Addr) from z)⟩ (wpAny_call (codeAny_mono (lam_code I L hf hn out bind (hbody E) hr I1 hc h) fun r s2 back => ?_))
  match r, back with
  | .error e, z => exact hx pinsZ _ s1 e s2 I1 z
  | .ok .next, z => exact z.elim
  | .ok .brk, z => exact z.elim
  | .ok .cont, z => exact z.elim
  | .ok (.ret u), z => exact I1.after z
end
end Fm
set_option maxHeartbeats 390000
namespace Fm
open L2 PySem PySem.Spec PyProof.Rows

/-! ### tried(lambda: e): what e gives and no word, or None and the word of the exception -/
def mTried (hit : String → Bool) (f : Str) (m : M SD) : M SD := fun ρ => match fE m ρ with
  | .ok d ρ' => .ok (.va (.tup [d, .str ""])) ρ'
  | .ex x ρ' => if hit x.c then (match x.fs.lookup f with
    | some w => .ok (.va (.tup [.non, w])) ρ'
    | none => .no) else .no
  | .no => .no
/-- what is asked of the classes: CM and CK catch those that hit tells of -/
structure TryK (K : PySem.W.Frag) (κ : Ctx) (CM CK : Value) (f : Str) (hit : String → Bool) : Prop where
  on : ∀ c, hit c = true → ∃ b, PySem.W.exmOne K (.ref (κ.cl c)) CM = some b ∧ (b = false → PySem.W.exmOne K (.ref (κ.cl c)) CK = some true)
  xf : ∀ c, hit c = true → XfC K (κ.cl c) ∧ PySem.W.findIn K (.ref (κ.cl c)) f = some none
/-- a new pair -/
def tPair (u v : V) : Hp → VK → Prop := fun H Q => ∀ p, H p = none → Q (.ref p) (upd H p (.tup [u, v]))
/-- what the def that tries makes of the lambda's reading -/
def TTried (K : PySem.W.Frag) (CM CK : Value) (f : Str) : (XK → Hp → VK → Prop) → Hp → VK → Prop := fun tl H Q =>
  tl (fun cls d H' => ∃ b, PySem.W.exmOne K cls CM = some b ∧ (b = false → PySem.W.exmOne K cls CK = some true) ∧
    ∃ (C dd : Addr) (fs : List (Str × V)) (w : V), cls = .ref C ∧ XfC K C ∧ PySem.W.findIn K (.ref C) f = some none ∧ d = some dd ∧ H' dd = some (.xd fs) ∧ fs.lookup f = some w ∧ tPair .non w H' Q) H fun v H' => tPair v (.str "") H' Q
/-- the suite of a clause: word = e.called -/
def tWord (K : PySem.W.Frag) (f : Str) (a : Addr) (cls : Value) (d : Option Addr) : TS := fun D σ H => ∃ C, XfC K C ∧ PySem.W.findIn K (.ref C) f = some none ∧ tAsg (tXf a cls d C f (tVar 3)) (gName 2) D σ H
section
variable {X : Cx} {x a nf nw n xm xk f : Str} {g CM CK : Addr} {sg : Scope} {cdg : Value} {p1 p2 p3 p4 p5 p6 p7 p8 p9 q1 q2 q3 q4 q5 q6 q7 q8 q9 r1 r2 r3 r4 r5 o1 o2 o3 o4 : Pos} {j1 j2 j3 : Nat}
theorem ret_pair {σ : L2.St} {H : Hp} {Q : VK} {u v : V} {D : Ends} (h1 : σ[1]? = some (some u)) (h2 : σ[2]? = some (some v)) (hq : tPair u v H Q) : tRet (tTup (tCons (tVar 1) (tCons (tVar 2) tNil))) { D with rt := Q } σ H :=
  ⟨u, h1, v, h2, Nat.le_trans (Nat.le_of_eq (show [u, v].length = 2 from rfl)) (by decide), hq⟩
/-- the def that tries, walked: ask is the reading of the parameter's call -/
theorem tried_body {f0 : V} {s : Shared} {H : Hp} {Q : VK} {tl : XK → Hp → VK → Prop} (nd : [a, nf, nw, n].Nodup) (l1 : sg.names.lookup nf = some .local) (l2 : sg.names.lookup nw = some .local) (l3 : sg.names.lookup n = some .local)
    (gm : sg.names.lookup xm = some .globalImplicit) (gk : sg.names.lookup xk = some .globalImplicit) (hm : X.mg xm = some (.ref CM)) (hk : X.mg xk = some (.ref CK))
    (ask : ∀ (W : WX) (pn : List (Addr × Obj)) (xe : Value → Shared → Prop), Takes (cxG X C8.CX0 [a, nf, nw, n] x sg g cdg s H C8.E0 pn xe) W →
      PE (cxG X C8.CX0 [a, nf, nw, n] x sg g cdg s H C8.E0 pn xe) (.Call (.Name a p1) [] [] p2) (fun σZ HZ Q => σZ[0]? = some (some f0) ∧ HZ = H ∧ tl (fun cls d H' => W cls d σZ H') H Q))
    (h : TTried X.K (.ref CM) (.ref CK) f tl H Q) (mono : ∀ {E E' : XK} {H : Hp} {Q Q' : VK}, (∀ cls d H', E cls d H' → E' cls d H') → (∀ v H', Q v H' → Q' v H') → tl E H Q → tl E' H Q')
    (dm : (xm == ("__debug__" : Str)) = false := by decide) (dk : (xk == ("__debug__" : Str)) = false := by decide) (d1 : (nf == ("__debug__" : Str)) = false := by decide) (d2 : (nw == ("__debug__" : Str)) = false := by decide) (d3 : (n == ("__debug__" : Str)) = false := by decide)
    (e1 : (nf == ("__classdict__" : Str)) = false := by decide) (e2 : (nw == ("__classdict__" : Str)) = false := by decide) (e3 : (n == ("__classdict__" : Str)) = false := by decide) :
    ∃ t, PSs (cxOf C8.CX0 X.prog X.w X.K X.mg X.base [a, nf, nw, n] x sg g cdg X.A X.stack s H C8.E0).nox [.Assign [.Name nf p3] (.Constant .none j1 p4) p5, .Assign [.Name nw p6] (.Constant (.str "") j2 p7) p8,
        .Try [.Assign [.Name nf p9] (.Call (.Name a p1) [] [] p2) q1] [.ExceptHandler (some (.Name xm q2)) (some n) [.Assign [.Name nw q3] (.Attribute (.Name n q4) f q5) q6] q7, .ExceptHandler (some (.Name xk q8)) (some n) [.Assign [.Name nw q9] (.Attribute (.Name n r1) f r2) r3] r4] [] [] r5,
        .Return (some (.Tuple [.Name nf o1, .Name nw o2] j3 o3)) o4] t ∧ t { nx := fun _ H' => Q .non H', rt := Q } (L2.start [a, nf, nw, n] [f0]) H := by
  let Z := (cxOf C8.CX0 X.prog X.w X.K X.mg X.base [a, nf, nw, n] x sg g cdg X.A X.stack s H C8.E0).nox
  have i1 : Z.N[1]? = some nf := rfl
  have i2 : Z.N[2]? = some nw := rfl
  have i3 : Z.N[3]? = some n := rfl
  have word : ∀ {t1 t2 t3 t4 : Pos}, ∀ (y : Addr) (oe : Obj) (cls : Value) (d : Option Addr) (pn : List (Addr × Obj)), Zc cls d oe → (∃ vs, oe.data = .fields vs) → PSs (Z.suite y ((y, oe) :: pn)) [.Assign [.Name nw t1] (.Attribute (.Name n t2) f t3) t4] (tWord X.K f y cls d) := fun y oe cls d pn z dt =>
    ⟨fun pins s σ H D I ⟨C, xc, no, q⟩ => (pss_one (ps_set (X := Z.suite y ((y, oe) :: pn)) (i := 2) nd i2 (.inl l2) (pe_xf (X := Z) xc no z dt (pe_var (X := Z.suite y ((y, oe) :: pn)) (i := 3) i3 (.inl l3) d3 e3)) rfl (.inr l2))).run pins s σ H D I q⟩
  refine ⟨_, pss_cons (ps_set (i := 1) nd i1 (.inl l1) pe_non rfl (.inr l1)) (pss_cons (ps_set (i := 2) nd i2 (.inl l2) pe_str rfl (.inr l2)) (pss_cons (ps_try_cls (X := Z) (Wout := fun _ _ _ _ => False) (l := [⟨.ref CM, 3, tWord X.K f⟩, ⟨.ref CK, 3, tWord X.K f⟩])
    (tb := fun W => tAsg (fun σZ HZ Q => σZ[0]? = some (some f0) ∧ HZ = H ∧ tl (fun cls d H' => W cls d σZ H') H Q) (gName 1)) rfl rfl nd LamX.takes0
    (fun W pn xe tk _ => pss_one (ps_set (i := 1) nd i1 (.inl l1) (ask W pn xe tk) rfl (.inr l1)))
    (.cons ⟨gm, dm, .inl hm⟩ i3 l3 word (.cons ⟨gk, dk, .inl hk⟩ i3 l3 word .nil)))
    (pss_one (ps_ret (pe_tup (pa_cons (pe_var (i := 1) i1 (.inl l1) d1 e1) (pa_cons (pe_var (i := 2) i2 (.inl l2) d2 e2) pa_nil))))))), ?_⟩
  refine ⟨rfl, rfl, mono (fun cls d H' w => ?_) (fun v H' w => ?_) h⟩
  · obtain ⟨b, b1, b2, C, dd, fs, y, rfl, xc, no, rfl, hd, hf, pr⟩ := w
    have suite : ∀ c : Addr, tWord X.K f c (.ref C) (some dd) (Ends.less { nx := fun σ H => tRet (tTup (tCons (tVar 1) (tCons (tVar 2) tNil))) { nx := fun _ H' => Q .non H', rt := Q } σ H, rt := Q } 3) ([some f0, some .non, some (.str ""), some (.ref c)] : L2.St) H' := fun c =>
      ⟨C, xc, no, .ref c, rfl, rfl, rfl, dd, fs, y, rfl, hd, hf, ret_pair (D := { nx := fun _ H' => Q .non H', rt := Q }) rfl rfl pr⟩
    refine ⟨b, b1, fun _ c _ => suite c, fun z => ⟨true, b2 z, fun _ c _ => suite c, fun z => nomatch z⟩⟩
  · exact ret_pair (D := { nx := fun _ H' => Q .non H', rt := Q }) rfl rfl w
end
/-- the tables of code grow: the state stands -/
theorem Ok.ext {κ : Ctx} {B : Bas} {ρ : List SD} {σ : L2.St} {H H1 G : Hp} (o : Ok κ B ρ σ H G) (e : LamX.ExtN H H1) (t : LamX.Tabs κ.tabs H1) : Ok κ B ρ σ H1 G where
  fr := ⟨fun a u h n => e a u (o.fr.keep a u h n) n, o.fr.nt, o.fr.frz, o.fr.sub, fun a u h => e a u (o.fr.gh a u h) fun ps z => o.fr.notb a ps (by rw [h, z]), o.fr.notb, t, o.fr.lent⟩
  len := o.len
  val := o.val
  own := fun i d h => by
    obtain ⟨p, h1, h2, h3, h4⟩ := o.own i d h
    obtain ⟨u, u1, u2, _⟩ := h4.obj
    exact ⟨p, h1, h2, h3, h4.mono (Same.refl G) ((e p u u1 u2).trans u1.symm)⟩
  sep := o.sep
  anch := o.anch
theorem RepF.look {κ : Ctx} {T : Pd} {G : Hp} {f : Str} {w : D} : ∀ {l : List (Str × D)} {vs : List (Str × V)}, RepF κ T G l vs → l.lookup f = some w → ∃ y, vs.lookup f = some y ∧ Rep κ T G w y
  | [], _, _, e => nomatch e
  | (k, d) :: l, vs, h, e => by
    obtain ⟨v, ws, rfl, h1, h2⟩ := h
    by_cases hk : f == k
    · rw [List.lookup_cons, hk] at e
      cases e
      exact ⟨v, by rw [List.lookup_cons, hk], h1⟩
    · have hk' : (f == k) = false := by simpa using hk
      rw [List.lookup_cons, hk'] at e
      obtain ⟨y, y1, y2⟩ := RepF.look h2 e
      exact ⟨y, by rw [List.lookup_cons, hk']; exact y1, y2⟩
theorem fE_ex {κ : Ctx} {W W' : WX} {B : Bas} {σ : L2.St} {G : Hp} {α : Type} {r : Rs α} {k k' : α → List SD → Hp → Hp → Prop} (h : Pst κ W B σ G r k) (f : ∀ a ρ' H' G', k a ρ' H' G' → k' a ρ' H' G') (g : ∀ cls d H', W cls d σ H' → W' cls d σ H') : Pst κ W' B σ G r k' := by
  cases r with
  | ok a ρ' => exact fun H' G' o s => f _ _ _ _ (h H' G' o s)
  | ex x ρ' => exact fun cls d H' G' o s rx => g _ _ _ (h cls d H' G' o s rx)
  | no => exact h
section
variable {X : Cx} {κ : Ctx} {W : WX} {x a nf nw n xm xk f : Str} {g CM CK : Addr} {sg scope : Scope} {pg params : Arguments} {fd : FuncData} {body : Expr} {m : M SD} {hit : String → Bool} {c P : Addr} {k : Nat} {p pos lpos p1 p2 p3 p4 p5 p6 p7 p8 p9 q1 q2 q3 q4 q5 q6 q7 q8 q9 r1 r2 r3 r4 r5 o1 o2 o3 o4 : Pos} {j1 j2 j3 : Nat}
theorem tried_law {B : Bas} {ρ : List SD} {σ : L2.St} {H G : Hp} {Q : VK} (hK : X.K = κ.K) (T : TryK X.K κ (.ref CM) (.ref CK) f hit) (o : Ok κ B ρ σ H G)
    (q : Pst κ W B σ G (mTried hit f m ρ) fun r ρ' H' G' => ∀ v, RepR κ B ρ' σ H' G' r v → Q v H') : TTried X.K (.ref CM) (.ref CK) f (fun E H' Q' => tE κ (fun cls d _ H => E cls d H) m σ H' Q') H Q := by
  have pair : ∀ {d e : D} {ρ' : List SD} {H' G' : Hp} {u v : V}, Ok κ B ρ' σ H' G' → Rep κ B.T G' d u → Rep κ B.T G' e v → (∀ H2 G2, Ok κ B ρ' σ H2 G2 → Same G' G2 → ∀ y, RepR κ B ρ' σ H2 G2 (.va (.tup [d, e])) y → Q y H2) → tPair u v H' Q := fun {d e ρ' H' G' u v} o' r1 r2 h p hp => by
    have gp := o'.gnone hp
    have sm : Same G' (upd G' p (.tup [u, v])) := Same.upd gp
    exact h _ _ (o'.alloc hp fun _ z => by cases z) sm _ ⟨p, [u, v], rfl, .inl upd_same, u, [v], rfl, Rep.mono (.of sm) d r1, v, [], rfl, Rep.mono (.of sm) e r2, rfl⟩
  unfold mTried at q
  show tE κ _ m σ H _
  cases e : fE m ρ with
  | ok d ρ' =>
    rw [e] at q
    refine tE_fz (k := fun d' ρ2 H' G' => d' = d ∧ ρ2 = ρ' ∧ Ok κ B ρ' σ H' G' ∧ Same G G') o ?_ fun d' ρ2 H' G' o' s ⟨e1, e2, o2, s2⟩ v r => ?_
    · rw [e]
      exact fun H' G' o' s => ⟨rfl, rfl, o', s⟩
    · subst e1 e2
      exact pair o2 r (show Rep κ B.T G' (.str "") (.str "") from rfl) fun H2 G2 o3 s3 => q H2 G2 o3 (s2.trans s3)
  | ex x ρ' =>
    rw [e] at q
    refine tE_fz (k := fun _ _ _ _ => False) o ?_ fun _ _ _ _ _ _ z => z.elim
    rw [e]
    intro cls d H' G' o' s ⟨ec, dx, vs, ed, hd, rf⟩
    subst ec ed
    by_cases hx : hit x.c = true
    · simp only [hx, if_true] at q
      cases ew : x.fs.lookup f with
      | none =>
        simp only [ew] at q
        exact q.elim
      | some w =>
        simp only [ew] at q
        obtain ⟨b, b1, b2⟩ := T.on x.c hx
        obtain ⟨xc, no⟩ := T.xf x.c hx
        obtain ⟨y, y1, y2⟩ := RepF.look rf ew
        exact ⟨b, b1, b2, κ.cl x.c, dx, vs, y, rfl, xc, no, rfl, hd, y1, pair o' (show Rep κ B.T G' .non .non from rfl) y2 fun H2 G2 o3 s3 => q H2 G2 o3 (s.trans s3)⟩
    · simp only [hx, if_false] at q
      exact q.elim
  | no =>
    rw [e] at q
    exact q.elim
theorem tl_mono {κ : Ctx} {m : M SD} {σ : L2.St} {E E' : XK} {H : Hp} {Q Q' : VK} (f : ∀ cls d H', E cls d H' → E' cls d H') (g : ∀ v H', Q v H' → Q' v H') (h : tE κ (fun cls d _ H => E cls d H) m σ H Q) : tE κ (fun cls d _ H => E' cls d H) m σ H Q' := by
  obtain ⟨B, ρ, G, o, q⟩ := h
  exact ⟨B, ρ, G, o, fE_ex q (fun a ρ' H' G' z v r => g _ _ (z v r)) f⟩
/-- tried(lambda: e) -/
theorem e_tried (hK : X.K = κ.K) (T : TryK X.K κ (.ref CM) (.ref CK) f hit)
    (F : FunD X.K x x pg [.Assign [.Name nf p3] (.Constant .none j1 p4) p5, .Assign [.Name nw p6] (.Constant (.str "") j2 p7) p8,
        .Try [.Assign [.Name nf p9] (.Call (.Name a p1) [] [] p2) q1] [.ExceptHandler (some (.Name xm q2)) (some n) [.Assign [.Name nw q3] (.Attribute (.Name n q4) f q5) q6] q7, .ExceptHandler (some (.Name xk q8)) (some n) [.Assign [.Name nw q9] (.Attribute (.Name n r1) f r2) r3] r4] [] [] r5,
        .Return (some (.Tuple [.Name nf o1, .Name nw o2] j3 o3)) o4] sg [] [] g fd) (Sg : FnScope [a, nf, nw, n] [a] sg) (hb : Binds X.K fd [a] [])
    (l1 : sg.names.lookup nf = some .local) (l2 : sg.names.lookup nw = some .local) (l3 : sg.names.lookup n = some .local) (gm : sg.names.lookup xm = some .globalImplicit) (gk : sg.names.lookup xk = some .globalImplicit) (hm : X.mg xm = some (.ref CM)) (hk : X.mg xk = some (.ref CK))
    (hg : Gl X x) (mx : X.mg x = some (.ref g)) (TB : LamX.TabB X.base X.mg c P) (hcode : X.env.code = .ref c) (hmT : (P, X.env.qual ++ "<lambda>") ∈ κ.tabs) (hu : ∀ p ∈ κ.tabs, p.1 = P → p.2 = X.env.qual ++ "<lambda>") (hr : Room (k + 2) X.A)
    (L : LamX.LamS X.env.scope scope) (hdef : defaultsOf params X.env = ([], [])) (hbind : ∀ (q : Str) (cl : List (Str × Addr)) (pm cv ctv : Value), bindArgs (PySem.W.kla_fn "<lambda>" q params body scope cl pm cv ctv) ⟨[], []⟩ = pure [])
    (hbody : ∀ (A : Around) (outer : List Env) (s : Shared) (H : Hp) (E : XK) (f c' : Addr), Room k (A.deeper (LamX.lamEnv X scope s.heap.objs.size f c')) → PE (LamX.lamCx X A outer s H E scope f c') body (tE κ (fun cls d _ H => E cls d H) m))
    (hdb : (x == ("__debug__" : Str)) = false := by decide) (d0 : (a == ("__debug__" : Str)) = false := by decide) (c0 : (a == ("__classdict__" : Str)) = false := by decide)
    (dm : (xm == ("__debug__" : Str)) = false := by decide) (dk : (xk == ("__debug__" : Str)) = false := by decide) (d1 : (nf == ("__debug__" : Str)) = false := by decide) (d2 : (nw == ("__debug__" : Str)) = false := by decide) (d3 : (n == ("__debug__" : Str)) = false := by decide)
    (e1 : (nf == ("__classdict__" : Str)) = false := by decide) (e2 : (nw == ("__classdict__" : Str)) = false := by decide) (e3 : (n == ("__classdict__" : Str)) = false := by decide) :
    PE X (.Call (.Name x p) [.Lambda params body scope lpos] [] pos) (tE κ W (mTried hit f m)) := by
  refine ⟨fun pins s σ H Q I ⟨B, ρ, G, o, q⟩ => wpAny_Call_Name_kw (ld_glob I hg mx ?_ hdb)⟩
  obtain ⟨_, _, _, _, _, _, _, cdv, _, _, rfl, lk, cd, _⟩ := F.ex
  refine PySem.W.callWith_K (h₀ := X.base) I.ok.mod.kin F.kp ?_ (by rfl) (by rfl)
  refine Calls.spliced_cons (LamX.lam_make2 I TB hcode hmT hu o.fr.tabs hdef (L.has I.ok) fun fl c' pm ctv H1 s1 I1 eN T1 hfl hn out co => Calls.spliced_nil ⟨I1.kIn, ?_⟩)
  have law := tried_law hK T (o.ext eN T1) (Q := Q) q
  have run : codeAny (model X.prog X.w) X.A (.call (.ref g) ⟨[.ref fl], []⟩) (CR C8.CX0 X.stack X.prog X.w H1 s1 Q C8.E0) s1 := by
    refine LamX.run_ofS (N := [a, nf, nw, n]) (ps := [a]) (us := [.ref fl]) (vs := [.ref fl]) lk cd Sg hr I1.env0 (hb s1 [.ref fl] I1.kIn rfl) (.cons (show RelV (.ref _) _ from rfl) .nil) rfl fun hr' => ?_
    have ask : ∀ (W : WX) (pn : List (Addr × Obj)) (xe : Value → Shared → Prop), Takes (cxG X C8.CX0 [a, nf, nw, n] x sg g cdv s1 H1 C8.E0 pn xe) W → PE (cxG X C8.CX0 [a, nf, nw, n] x sg g cdv s1 H1 C8.E0 pn xe) (.Call (.Name a p1) [] [] p2)
        (fun σZ HZ Q => σZ[0]? = some (some (.ref fl)) ∧ HZ = H1 ∧ tE κ (fun cls d _ H' => W cls d σZ H') m σ H1 Q) := fun W pn xe tk => by
      refine PE.imp (pe_ask (i := 0) (Ng := [a, nf, nw, n]) (tc := fun E => tE κ (fun cls d _ H => E cls d H) m) I1 L hfl hn out (hbind _ _ _ _ _) (fun E A outer s H hr2 => hbody A outer s H E fl c' hr2) hr' rfl ((Sg.par a (by simp)).imp id .inl) d0 c0) fun σZ HZ Q' z => ?_
      obtain ⟨z1, z2, z3⟩ := z
      subst z2
      exact ⟨z1, co, _, passAt tk σZ, z3⟩
    obtain ⟨t, ht, hq⟩ := tried_body (X := X) (x := x) (sg := sg) (g := g) (cdg := cdv) (f0 := .ref fl) (s := s1) (H := H1) (Q := Q) (tl := fun E H' Q' => tE κ (fun cls d _ H => E cls d H) m σ H' Q') Sg.nd l1 l2 l3 gm gk hm hk ask law tl_mono dm dk d1 d2 d3 e1 e2 e3
    exact ⟨t, ht.nox, hq⟩
  refine wpAny_call (codeAny_mono run fun r s2 back => ?_)
  match r, back with
  | .error e, z => exact z.elim
  | .ok .next, z => exact z.elim
  | .ok .brk, z => exact z.elim
  | .ok .cont, z => exact z.elim
  | .ok (.ret u), z => exact I1.after z
end
end Fm
set_option maxHeartbeats 390000
namespace Fm
open L2 PySem PySem.Spec PyProof.Rows

/-! ### calls that leave the last parameters to their defaults; calls by keywords alone -/
/-- the defaults that fill up -/
def BindsV (K : PySem.W.Frag) (fd : FuncData) (ps : List Str) (dvs : List V) : Prop := ∃ ds, Vals dvs ds ∧ Binds K fd ps ds
/-- all parameters by name -/
def BindsKw (K : PySem.W.Frag) (fd : FuncData) (ps ks : List Str) : Prop := ∀ (s : Shared) (ws : List Value), K.In s.heap → ws.length = ps.length → BindsTo s fd ⟨[], ks.zip ws⟩ (ps.zip ws)
theorem FunD.bindsKw {K : PySem.W.Frag} {x qual : Str} {params : Arguments} {body : List Stmt} {scope : Scope} {dvs : List V} {f : Addr} {fd : FuncData} {ps ks : List Str} (F : FunD K x qual params body scope dvs [] f fd) (hd : dvs ≠ [])
    (h : ∀ (T : Addr) (kV doc pm : Value) (an : Option Addr) (cdv ct : Value) (ws its : List Value), ws.length = ps.length → its.length = dvs.length →
      ∃ k, bindArgs (PySem.W.fnOf x qual params body scope (.ref T) kV doc pm an cdv ct) ⟨[], ks.zip ws⟩ = seqItems? (.ref T) >>= k ∧ k (some its.toArray) = pure (ps.zip ws)) : BindsKw K fd ps ks := by
  obtain ⟨_, _, _, kV, doc, pm, an, cdv, ct, _, rfl, _, _, hD, _⟩ := F.ex
  rcases hD with ⟨none, _⟩ | ⟨_, T, o, its, m, rfl, lT, oT, rT⟩
  · exact absurd none hd
  · intro s ws X l
    obtain ⟨k, e1, e2⟩ := h T kV doc pm an cdv ct ws its l rT.length.symm
    exact BindsTo.of_looks fun M => by
      rw [e1]
      exact looks_items X lT oT (e2 ▸ PySem.W.Looks.now)
section
variable {X : Cx} {κ : Ctx} {W : WX} {k k' : Nat} {f : Addr} {fd : FuncData} {ps ks : List Str} {fn : List SD → FR} {x : Str} {p pos kpos : Pos} {e : Expr} {es : List Expr} {n : M (List Ar)} {kws : List Keyword} {nm : Option Str}
/-- f(e, ..), the last parameters by their defaults -/
theorem e_callD {dd : List D} {dvs : List V} (C : Callee X.prog X.w X.K X.mg X.base κ x k ps fn f fd) (hb : BindsV X.K fd ps dvs) (hd : ∀ T G, RepL κ T G dd dvs) (hr : Room k' X.A) (hk : k ≤ k') (hg : Gl X x) (hx : PassW X W) (ha : PA X (e :: es) (tAr κ W n)) {j : Nat} (hl : ALen n j) (hj : j + dd.length = ps.length)
    (hdb : (x == ("__debug__" : Str)) = false := by decide) (he : starEach (e :: es) X.env = (false, eval e X.env) :: starEach es X.env := by rfl) (hpl : (backTo pos (starEach es X.env)).any (·.1) = false := by rfl) : PE X (.Call (.Name x p) (e :: es) [] pos) (tE κ W (mCall fn dd n)) := by
  obtain ⟨ds, hv, hb⟩ := hb
  exact e_call C.ok rfl (hr.mono hk) hg C.gl C.kp hb hv hd hx ha (alen_ok hl hj) hdb he hpl
theorem PK.imp {t t' : TA} (h : PK X kws t) (f : ∀ σ H Q, t' σ H Q → t σ H Q) : PK X kws t' := ⟨fun pos pins s σ H Q I q => h.run pos pins s σ H Q I (f σ H Q q)⟩
theorem kr_nil : PK X [] (tAr κ W aNil) := PK.imp pk_nil fun σ H Q ⟨B, ρ, G, o, q⟩ => Pst.ret q o [] rfl
theorem kr_va {m : M SD} (h : PE X e (tE κ W m)) (h2 : PK X kws (tAr κ W n)) : PK X (⟨nm, e, kpos⟩ :: kws) (tAr κ W (aVa m n)) := by
  refine PK.imp (pk_cons h h2) fun σ H Q ⟨B, ρ, G, o, q⟩ => ?_
  refine tE_fz o (Pst.bind q) fun d ρ1 H1 G1 o1 s1 q1 v1 r1 => ?_
  exact ⟨B, ρ1, G1, o1, Pst.mono (Pst.bind q1) fun ds ρ2 H2 G2 o2 s2 q2 vs rs => Pst.ret q2 o2 _ ⟨v1, vs, rfl, Rep.mono (.of s2) d r1, rs⟩⟩
theorem e_callKw (C : Callee X.prog X.w X.K X.mg X.base κ x k ps fn f fd) (hb : BindsKw X.K fd ps ks) (hr : Room k' X.A) (hk : k ≤ k') (hg : Gl X x) (hx : PassW X W) (ha : PK X kws (tAr κ W n)) (hl : ALen n ps.length)
    (hdb : (x == ("__debug__" : Str)) = false := by decide) (hall : (backToKw pos (keywordEach kws X.env)).all (·.1.isSome) = true := by rfl) (hks : (backToKw pos (keywordEach kws X.env)).filterMap (·.1) = ks := by rfl)
    (hpl : ((backTo pos (starEach [] X.env)).any (·.1) || (backToKw pos (keywordEach kws X.env)).any (·.1.isNone)) = false := by rfl) : PE X (.Call (.Name x p) [] kws pos) (tE κ W (mCall fn [] n)) := by
  have w : PE X (.Call (.Name x p) [] kws pos) (tCallSD (spF κ ps.length fn) [] (fun σ cls d H => W cls d σ H) (tAr κ W n)) := by
    refine ⟨fun pins s σ H Q I h => wpAny_Call_Name_kw (ld_glob I hg C.gl ?_ hdb)⟩
    refine PySem.W.callWith_KW0 (h₀ := X.base) I.ok.mod.kin C.kp hall (thn (ha.run pos pins s σ H _ I h) fun ws s1 ⟨zs, H1, I1, r, q⟩ => ⟨I1.kIn, ?_⟩) hpl
    rw [hks]
    have q : spF κ ps.length fn zs H1 Q fun cls d H => W cls d σ H := by
      have q' : spF κ ps.length fn (zs ++ []) H1 Q (fun cls d H => W cls d σ H) := q
      rwa [List.append_nil] at q'
    have l : ws.length = ps.length := by rw [← r.length]; exact C.ok.len _ _ _ _ q
    refine wpAny_call (codeAny_mono (C.ok.run X.A X.stack s1 H1 ⟨[], ks.zip ws⟩ ws zs Q _ (hr.mono hk) I1.env0 (hb s1 ws I1.kIn l) r q) fun r2 s2 back => ?_)
    match r2, back with
    | .error e, z => exact hx σ pins H1 s1 e s2 I1 z
    | .ok .next, z => exact z.elim
    | .ok .brk, z => exact z.elim
    | .ok .cont, z => exact z.elim
    | .ok (.ret u), z => exact I1.after z
  exact PE.imp w fun σ H Q => call_ok rfl (fun _ _ => rfl) (alen_ok hl (Nat.add_zero _))
end
end Fm
set_option maxHeartbeats 390000
namespace Fm
open L2 PySem PySem.Spec PyProof.Rows

/-! ### what the written part says of exception classes and of a def's code, as a test -/
/-- C is a class over ValueError, perhaps over own ones between them -/
def overVE (C : Addr) (o : Obj) : Bool := match o with
  | ⟨.type m, _, .cls cd, ⟨[_, _, _, _, some (.builtin n), _]⟩⟩ => m == "type" && (n == "ValueError.__new__" && (cd.hasDict && (!cd.hasDel && (match cd.mro with
    | .ref D :: bm => D == C && PySem.HandSPX.refsVE bm
    | _ => false))))
  | _ => false
def oexB (K : PySem.W.Frag) (C : Addr) : Bool := (K.lookup C).any (overVE C) && (decide (PySem.W.findIn K (.ref C) "__setattr__" = some (some (.builtin "object.__setattr__"))) && (decide (PySem.W.subIn K (.ref C) (.type "BaseException") = some true) &&
  (decide (PySem.W.typeIn K (.ref C) = some (.type "type")) && PySem.W.keepIn K (.ref C))))
theorem and2 {a b : Bool} (h : (a && b) = true) : a = true ∧ b = true := Bool.and_eq_true_iff.mp h
theorem overVE_ok {C : Addr} {o : Obj} (h : overVE C o = true) : ∃ nm q N bs bm sn sub ab col dd k0 k1 k2 k3 k5, o = excClassObj nm q C N bs bm true sn sub ab col dd k0 k1 k2 k3 k5 "ValueError.__new__" ∧ PySem.HandSPX.refsVE bm = true := by
  unfold overVE at h
  split at h
  · rename_i m dd cd k0 k1 k2 k3 n k5
    obtain ⟨h1, g1⟩ := and2 h
    obtain ⟨h2, g2⟩ := and2 g1
    obtain ⟨h3, g3⟩ := and2 g2
    obtain ⟨h4, g4⟩ := and2 g3
    clear h g1 g2 g3
    obtain ⟨nm, bs, mro, ns, qn, hd, sn, sb, abs, col, del⟩ := cd
    dsimp only at g4 h3 h4
    split at g4
    · rename_i D tail
      obtain ⟨h5, h6⟩ := and2 g4
      have e1 := eq_of_beq h1
      have e2 := eq_of_beq h2
      have e5 := eq_of_beq h5
      have e4 : del = false := by simpa using h4
      subst e1 e2 e4 e5 h3
      exact ⟨nm, qn, ns, bs, tail, sn, sb, abs, col, dd, k0, k1, k2, k3, k5, rfl, h6⟩
    · cases g4
  · cases h
theorem oexB_ok {K : PySem.W.Frag} {C : Addr} (h : oexB K C = true) : OexC K C := by
  obtain ⟨h1, h⟩ := and2 h
  obtain ⟨h2, h⟩ := and2 h
  obtain ⟨h3, h⟩ := and2 h
  obtain ⟨h4, h5⟩ := and2 h
  refine ⟨?_, of_decide_eq_true h2, of_decide_eq_true h3, of_decide_eq_true h4, h5⟩
  cases e : K.lookup C with
  | none =>
    rw [e] at h1
    cases h1
  | some o =>
    rw [e] at h1
    obtain ⟨nm, q, N, bs, bm, sn, sub, ab, col, dd, k0, k1, k2, k3, k5, rfl, r⟩ := overVE_ok (show overVE C o = true from h1)
    exact ⟨nm, q, N, bs, bm, sn, sub, ab, col, dd, k0, k1, k2, k3, k5, rfl, r⟩
/-- .. that its own __init__ at fI fills: the field f -/
def excB (K : PySem.W.Frag) (C fI : Addr) (f : Str) : Bool := oexB K C && (decide (PySem.W.findIn K (.ref C) f = some none) && (decide (PySem.W.findIn K (.ref C) "__init__" = some (some (.ref fI))) && decide (PySem.W.typeIn K (.ref fI) = some (.type "function"))))
theorem excB_ok {P : Program} {w : World} {K : PySem.W.Frag} {mg : Str → Option Value} {base : Heap} {κ : Ctx} {x : Str} {c : String} {f z : Str} {fI : Addr} {fd : FuncData} (h : excB K (κ.cl c) fI f = true) (gl : mg x = some (.ref (κ.cl c)))
    (ok : FnOk P w K mg base (L2.CX P w) 1 fI fd ["self"] (spI K f z)) (bd : Binds K fd ["self"] []) : ExC P w K mg base κ x c f z fI fd := by
  obtain ⟨h1, h⟩ := and2 h
  obtain ⟨h2, h⟩ := and2 h
  obtain ⟨h3, h4⟩ := and2 h
  exact ⟨oexB_ok h1, of_decide_eq_true h2, of_decide_eq_true h3, of_decide_eq_true h4, ok, bd, gl⟩
/-- C is caught by CM, or else by CK; its field f may be read -/
def catB (K : PySem.W.Frag) (CM CK C : Addr) (f : Str) : Bool := (match PySem.W.exmOne K (.ref C) (.ref CM) with
  | some true => true
  | some false => decide (PySem.W.exmOne K (.ref C) (.ref CK) = some true)
  | none => false) && (xfB K C && decide (PySem.W.findIn K (.ref C) f = some none))
theorem catB_ok {K : PySem.W.Frag} {κ : Ctx} {CM CK : Addr} {f : Str} {cs : List String} (h : ∀ c ∈ cs, catB K CM CK (κ.cl c) f = true) : TryK K κ (.ref CM) (.ref CK) f (cs.contains ·) where
  on := fun c hc => by
    obtain ⟨h1, _⟩ := and2 (h c (List.contains_iff_mem.mp hc))
    cases e : PySem.W.exmOne K (.ref (κ.cl c)) (.ref CM) with
    | none =>
      rw [e] at h1
      cases h1
    | some b =>
      rw [e] at h1
      cases b with
      | true => exact ⟨true, rfl, fun z => nomatch z⟩
      | false => exact ⟨false, rfl, fun _ => of_decide_eq_true h1⟩
  xf := fun c hc => by
    obtain ⟨_, h2⟩ := and2 (h c (List.contains_iff_mem.mp hc))
    obtain ⟨h3, h4⟩ := and2 h2
    exact ⟨xfB_ok h3, of_decide_eq_true h4⟩
/-- a def's code object -/
theorem FunD.code_at {K : PySem.W.Frag} {x qual : Str} {params : Arguments} {body : List Stmt} {scope : Scope} {dvs : List V} {kws : List (Str × V)} {fd : FuncData} {p : Str × Option Str} (F : FunD K x qual params body scope dvs kws (He.fAd K p) fd) : fd.code = .ref (He.codeOf K p) := by
  obtain ⟨oc, od, dV, kV, doc, pm, an, cdv, ct, osl, rfl, lk, cd, _⟩ := F.ex
  cases cdv with
  | ref c => exact congrArg Value.ref (He.codeOf_eq lk (show (PySem.W.fnOf x qual params body scope dV kV doc pm an (.ref c) ct).code = .ref c from rfl)).symm
  | _ => cases cd
/-- the body of a class -/
def bodyOfCls : Stmt → List Stmt
  | .ClassDef _ _ _ b _ _ _ _ _ _ _ => b
  | _ => []
end Fm
set_option maxHeartbeats 390000
namespace Fm
open L2 PySem PySem.Spec PyProof.Rows

/-! ### the calculus: exceptions -/
section
variable {ρ : List SD} {E : Exn → List SD → Prop} {p : SD → List SD → Prop} {s : Fl → List SD → Prop}
theorem w_ex {x : Exn} (h : E x ρ) : Wp (sEx x) ρ s E := ⟨h⟩
theorem w_no {α : Type} {q : α → List SD → Prop} (h : False) : Wp (M.no : M α) ρ q E := h.elim
theorem w_tried {hit : String → Bool} {f : Str} {m : M SD} (h : Wp (fE m) ρ (fun d ρ' => p (.va (.tup [d, .str ""])) ρ') fun x ρ' => hit x.c = true ∧ ∃ w, x.fs.lookup f = some w ∧ p (.va (.tup [.non, w])) ρ') : Wp (mTried hit f m) ρ p E := by
  refine ⟨?_⟩
  have h := h.run
  unfold mTried
  cases e : fE m ρ with
  | ok d ρ' =>
    rw [e] at h
    exact h
  | ex x ρ' =>
    rw [e] at h
    obtain ⟨h1, w, h2, h3⟩ := h
    simp only [h1, h2, if_true]
    exact h3
  | no =>
    rw [e] at h
    exact h
/-- a def that raises -/
theorem fw_exc {f : FR} {p : SD → List SD → Prop} {E F : Exn → List SD → Prop} (h : Fw f (fun _ _ => False) E) (g : ∀ y o, E y o → F y o) : Fw f p F := by
  refine ⟨?_⟩
  have h := h.run
  cases f with
  | ok a o => exact h.elim
  | ex x o => exact g _ _ h
  | no => exact h
/-- the same with itself -/
theorem o_neS {d : D} {q : SD → Prop} (h1 : d.pl 60 = true) (h2 : peq d d = true) (h : q (.va (.bl false))) : Ow (neD d d) q := ⟨_, by
  unfold neD
  rw [h1, h2]
  rfl, h⟩
theorem o_eqS {d : D} {q : SD → Prop} (h1 : d.pl 60 = true) (h2 : peq d d = true) (h : q (.va (.bl true))) : Ow (eqD d d) q := ⟨_, by
  unfold eqD
  rw [h1, h2]
  rfl, h⟩
end
mutual
theorem eqv_self : ∀ (d : D) {n : Nat}, d.pl n = true → PyData.eqv d.py d.py = true
  | .non, _, _ => rfl
  | .bl b, _, _ => by cases b <;> rfl
  | .int i, _, _ => by show (i == i) = true; simp
  | .str s, _, _ => by show (s == s) = true; simp
  | .tup l, 0, h => by cases h
  | .tup l, n + 1, h => eqvL_self l (n := n) h
  | .lst _ l, 0, h => by cases h
  | .lst _ l, n + 1, h => eqvL_self l (n := n) h
  | .dk _ _, n, h => by cases n <;> cases h
  | .ins _ _ _, n, h => by cases n <;> cases h
  | .ty _, n, h => by cases n <;> cases h
  | .adr _, n, h => by cases n <;> cases h
  | .scr _, n, h => by cases n <;> cases h
theorem eqvL_self : ∀ (l : List D) {n : Nat}, plL n l = true → PyData.eqvAll (pyL l) (pyL l) = true
  | [], _, _ => rfl
  | d :: l, n, h => by
    obtain ⟨h1, h2⟩ := and2 (show (D.pl n d && plL n l) = true from by unfold plL at h; exact h)
    show (PyData.eqv d.py d.py && PyData.eqvAll (pyL l) (pyL l)) = true
    rw [eqv_self d h1, eqvL_self l h2]
    rfl
end
theorem peq_refl {d : D} {n : Nat} (h : d.pl n = true) : peq d d = true := eqv_self d h
/-- the same with itself -/
theorem o_neR {d : D} {q : SD → Prop} (h1 : d.pl 60 = true) (h : q (.va (.bl false))) : Ow (neD d d) q := o_neS h1 (peq_refl h1) h
theorem o_eqR {d : D} {q : SD → Prop} (h1 : d.pl 60 = true) (h : q (.va (.bl true))) : Ow (eqD d d) q := o_eqS h1 (peq_refl h1) h
end Fm
set_option maxHeartbeats 390000
namespace Fm
open L2 PySem PySem.Spec PyProof.Rows

/-! ### methods of a text with one argument -/
def mM1 (g : Str → D → Option SD) (ma mb : M SD) : M SD := (fE ma).bind fun d => match d with
  | .str s => (fE mb).bind fun e => M.opt (g s e)
  | _ => M.no
def MtD (κ : Ctx) (r : V → List V → Hp → VK → Prop) (g : Str → D → Option SD) : Prop := ∀ (B : Bas) (ρ : List SD) (σ : L2.St) (H G : Hp) (s : Str) (e : D) (y : V) (z : SD) (Q : VK), Ok κ B ρ σ H G → Rep κ B.T G e y → g s e = some z →
  (∀ v H' G', Ok κ B ρ σ H' G' → Same G G' → RepR κ B ρ σ H' G' z v → Q v H') → r (.str s) [y] H Q
section
variable {X : Cx} {κ : Ctx} {W : WX}
theorem e_m1 {o e : Expr} {ma mb : M SD} {id : String} {name : Str} {apos pos : Pos} {r : V → List V → Hp → VK → Prop} {g : Str → D → Option SD} (slot : Slot "str" name id) (ty : typeOf (.builtin id) = pure (.type "method_descriptor")) (rule : MtR X id r) (hr : MtD κ r g)
    (ho : PE X o (tE κ W ma)) (he : PE X e (tE κ W mb)) (hs : starEach [e] X.env = [(false, eval e X.env)] := by rfl) (hbase : attributeBase o name X.env (eval o X.env) = eval o X.env := by rfl) (hline : (apos.endLine == pos.line) = true := by rfl) :
    PE X (.Call (.Attribute o name apos) [e] [] pos) (tE κ W (mM1 g ma mb)) := by
  refine PE.imp (pe_m1 slot ty rule ho he hs hbase hline) fun σ H Q ⟨B, ρ, G, o, q⟩ => ?_
  refine tE_fz o (Pst.bind q) fun d ρ1 H1 G1 o1 s1 q1 v1 r1 => ?_
  cases d with
  | str s =>
    cases (show v1 = V.str s from r1)
    refine ⟨⟨s, rfl⟩, tE_fz o1 (Pst.bind q1) fun e ρ2 H2 G2 o2 s2 q2 v2 r2 => ?_⟩
    obtain ⟨z, hz, q3⟩ := Pst.opt q2
    exact hr B ρ2 σ H2 G2 s e v2 z Q o2 r2 hz fun v H' G' o' s' rv => q3 H' G' o' s' v rv
  | _ => exact q1.elim
def splitG (s : Str) : D → Option SD
  | .str b => if b.length ≠ 0 ∧ s.length ≤ 1000000 then some (.ow (.lst false ((Txt.split s b).map D.str))) else none
  | _ => none
def partG (s : Str) : D → Option SD
  | .str b => if b.length ≠ 0 ∧ s.length ≤ 1000000 then some (.va (.tup [.str (Txt.partition s b).1, .str (Txt.partition s b).2.1, .str (Txt.partition s b).2.2])) else none
  | _ => none
/-- the texts of a list of texts -/
def strsOf : List D → Option (List Str)
  | [] => some []
  | .str s :: l => (strsOf l).map (s :: ·)
  | _ :: _ => none
def joinG (s : Str) : D → Option SD
  | .lst _ l => (strsOf l).bind fun ys => if (ys.map (·.length)).sum + ys.length * s.length ≤ 1000000 then some (.va (.str (Txt.join s ys))) else none
  | .tup l => (strsOf l).bind fun ys => if (ys.map (·.length)).sum + ys.length * s.length ≤ 1000000 then some (.va (.str (Txt.join s ys))) else none
  | _ => none
theorem strsOf_eq : ∀ {l : List D} {ys : List Str}, strsOf l = some ys → l = ys.map D.str
  | [], ys, h => by cases h; rfl
  | d :: l, ys, h => by
    cases d with
    | str s =>
      obtain ⟨zs, h1, rfl⟩ := Option.map_eq_some_iff.mp (show (strsOf l).map (s :: ·) = some ys from h)
      rw [strsOf_eq h1]
      rfl
    | _ => cases h
theorem strsOf_map : ∀ ys : List Str, strsOf (ys.map D.str) = some ys
  | [] => rfl
  | y :: ys => by
    show (strsOf (ys.map D.str)).map (y :: ·) = _
    rw [strsOf_map ys]
    rfl
theorem strs_rep {T : Pd} {G : Hp} : ∀ (ys : List Str), RepL κ T G (ys.map D.str) (ys.map V.str)
  | [] => rfl
  | y :: ys => ⟨.str y, ys.map V.str, rfl, rfl, strs_rep ys⟩
theorem strs_un {T : Pd} {G : Hp} : ∀ {ys : List Str} {vs : List V}, RepL κ T G (ys.map D.str) vs → vs = ys.map V.str
  | [], _, h => h
  | y :: ys, vs, h => by
    obtain ⟨v, ws, rfl, h1, h2⟩ := h
    rw [strs_un h2, show v = V.str y from h1]
    rfl
theorem beq0 {b : Str} (h : b.length ≠ 0) : (b.length == 0) = false := beq_eq_false_iff_ne.mpr h
theorem e_split {o e : Expr} {ma mb : M SD} {apos pos : Pos} (ho : PE X o (tE κ W ma)) (he : PE X e (tE κ W mb)) (hs : starEach [e] X.env = [(false, eval e X.env)] := by rfl) (hbase : attributeBase o "split" X.env (eval o X.env) = eval o X.env := by rfl) (hline : (apos.endLine == pos.line) = true := by rfl) :
    PE X (.Call (.Attribute o "split" apos) [e] [] pos) (tE κ W (mM1 splitG ma mb)) :=
  e_m1 F.slot_str_split F.type_str_split mt_split (fun B ρ σ H G s e y z Q o r hz q => by
    cases e with
    | str b =>
      have hz' : (if b.length ≠ 0 ∧ s.length ≤ 1000000 then some (SD.ow (.lst false ((Txt.split s b).map D.str))) else none) = some z := hz
      split at hz'
      · rename_i h
        cases hz'
        cases (show y = V.str b from r)
        exact ⟨s, b, rfl, rfl, beq0 h.1, line_of2 h.2, fun p hp => q _ _ _ (o.allocOwn hp) (Same.refl G) (o.newOwn hp ⟨_, upd_same, strs_rep _⟩)⟩
      · cases hz'
    | _ => cases hz) ho he hs hbase hline
where line_of2 {n : Nat} (h : n ≤ 1000000) : n + 2 ≤ sizeLine := by rw [sizeLine_eq]; omega
theorem e_part {o e : Expr} {ma mb : M SD} {apos pos : Pos} (ho : PE X o (tE κ W ma)) (he : PE X e (tE κ W mb)) (hs : starEach [e] X.env = [(false, eval e X.env)] := by rfl) (hbase : attributeBase o "partition" X.env (eval o X.env) = eval o X.env := by rfl) (hline : (apos.endLine == pos.line) = true := by rfl) :
    PE X (.Call (.Attribute o "partition" apos) [e] [] pos) (tE κ W (mM1 partG ma mb)) :=
  e_m1 F.slot_str_partition F.type_str_partition mt_partition (fun B ρ σ H G s e y z Q o r hz q => by
    cases e with
    | str b =>
      have hz' : (if b.length ≠ 0 ∧ s.length ≤ 1000000 then some (SD.va (.tup [.str (Txt.partition s b).1, .str (Txt.partition s b).2.1, .str (Txt.partition s b).2.2])) else none) = some z := hz
      split at hz'
      · rename_i h
        cases hz'
        cases (show y = V.str b from r)
        refine ⟨s, b, rfl, rfl, beq0 h.1, line_of h.2, fun p hp => ?_⟩
        exact q _ _ _ (o.alloc hp fun _ z => by cases z) (Same.upd (o.gnone hp)) ⟨p, _, rfl, .inl upd_same, _, _, rfl, rfl, _, _, rfl, rfl, _, _, rfl, rfl, rfl⟩
      · cases hz'
    | _ => cases hz) ho he hs hbase hline
theorem e_join (hK : X.K = κ.K) {o e : Expr} {ma mb : M SD} {apos pos : Pos} (ho : PE X o (tE κ W ma)) (he : PE X e (tE κ W mb)) (hs : starEach [e] X.env = [(false, eval e X.env)] := by rfl) (hbase : attributeBase o "join" X.env (eval o X.env) = eval o X.env := by rfl) (hline : (apos.endLine == pos.line) = true := by rfl) :
    PE X (.Call (.Attribute o "join" apos) [e] [] pos) (tE κ W (mM1 joinG ma mb)) :=
  e_m1 F.slot_str_join F.type_str_join mt_join (fun B ρ σ H G s e y z Q o r hz q => by
    have fin : ∀ {l : List D} {p : Addr} {vs : List V}, y = .ref p → RepL κ B.T G l vs → (SqL X.K H p vs ∨ SqT X.K H p vs) → ((strsOf l).bind fun ys => if (ys.map (·.length)).sum + ys.length * s.length ≤ 1000000 then some (SD.va (.str (Txt.join s ys))) else none) = some z →
        ∃ a p, ∃ ys : List Str, V.str s = .str a ∧ [y] = [.ref p] ∧ (SqL X.K H p (ys.map V.str) ∨ SqT X.K H p (ys.map V.str)) ∧ (ys.map (·.length)).sum + ys.length * a.length ≤ 16777216 ∧ Q (.str (Txt.join a ys)) H := fun {l p vs} ey rl sq hz => by
      obtain ⟨ys, h1, h2⟩ := Option.bind_eq_some_iff.mp hz
      have el := strsOf_eq h1
      subst el
      have ev := strs_un rl
      subst ev ey
      split at h2
      · rename_i h
        cases h2
        exact ⟨s, p, ys, rfl, rfl, sq, by omega, q _ H G o (Same.refl G) rfl⟩
      · cases h2
    cases e with
    | lst b l =>
      obtain ⟨a, vs, rfl, ⟨h1, _⟩, h2⟩ := r
      exact fin rfl h2 (.inl (SqL.of (o.fr.gh _ _ h1))) hz
    | tup l =>
      obtain ⟨a, vs, rfl, h1, h2⟩ := r
      exact fin rfl h2 (.inr (hK ▸ h1.sq o.fr.gh)) hz
    | _ => cases hz) ho he hs hbase hline
end
/-! ### str(int), int(text) -/
def strD : List D → Option SD
  | [.int i] => if i.natAbs.log2 < 1920 then some (.va (.str (toString i))) else none
  | _ => none
def intSD : List D → Option SD
  | [.str a] => if a.length ≤ 640 then (PySem.intText? a).map fun n => .va (.int n) else none
  | ds => intD ds
section
variable {X : Cx} {κ : Ctx}
theorem cd_str : CallD κ (fun xs H Q => ∃ i, xs = [.int i] ∧ i.natAbs.log2 < 1920 ∧ Q (.str (toString i)) H) strD := by
  intro B ρ σ H G ds xs z Q o r hz q
  unfold strD at hz
  split at hz
  · rename_i i
    split at hz
    · rename_i hi
      obtain ⟨v, ws, rfl, h, rfl⟩ := r
      cases (show v = V.int i from h)
      cases hz
      exact ⟨i, rfl, hi, q _ H G o (Same.refl G) rfl⟩
    · cases hz
  · cases hz
theorem call_intSX : CallR X (.type "int") (fun xs H Q => ((∃ i, xs = [.int i] ∧ Q (.int i) H) ∨ ∃ k, xs = [.bl k] ∧ Q (.int (if k then 1 else 0)) H) ∨ ∃ a n, xs = [.str a] ∧ PySem.intText? a = some n ∧ a.length ≤ 640 ∧ Q (.int n) H) := by
  rintro pins s σ H xs us Q I rs (h | h)
  · exact call_int1 pins s σ H xs us Q I rs h
  · exact call_int_str pins s σ H xs us Q I rs h
theorem cd_intS : CallD κ (fun xs H Q => ((∃ i, xs = [.int i] ∧ Q (.int i) H) ∨ ∃ k, xs = [.bl k] ∧ Q (.int (if k then 1 else 0)) H) ∨ ∃ a n, xs = [.str a] ∧ PySem.intText? a = some n ∧ a.length ≤ 640 ∧ Q (.int n) H) intSD := by
  intro B ρ σ H G ds xs z Q o r hz q
  unfold intSD at hz
  split at hz
  · rename_i a
    split at hz
    · rename_i ha
      obtain ⟨n, hn, rfl⟩ := Option.map_eq_some_iff.mp hz
      obtain ⟨v, ws, rfl, h, rfl⟩ := r
      cases (show v = V.str a from h)
      exact .inr ⟨a, n, rfl, hn, ha, q _ H G o (Same.refl G) rfl⟩
    · cases hz
  · exact .inl (cd_int B ρ σ H G ds xs z Q o r hz q)
end
/-! ### x in y: a sign in a text, data in a list -/
def inB : D → D → Option Bool
  | .str x, .str z => match x.cps.toList with
    | [c] => some (decide (c ∈ z.cps.toList))
    | _ => none
  | d, .lst _ l => if d.pl 60 && (D.lst false l).pl 60 then some (l.any fun e => peq e d) else none
  | _, _ => none
def inD (d e : D) : Option SD := (inB d e).map fun b => .va (.bl b)
def ninD (d e : D) : Option SD := (inB d e).map fun b => .va (.bl (!b))
theorem any_py (d : D) : ∀ l : List D, (pyL l).any (fun z => PyData.eqv z d.py) = l.any fun e => peq e d
  | [] => rfl
  | e :: l => by
    show (PyData.eqv e.py d.py || (pyL l).any fun z => PyData.eqv z d.py) = _
    rw [any_py d l]
    rfl
section
variable {X : Cx} {κ : Ctx}
theorem in_cases {T : Pd} {G H : Hp} {d e : D} {x y : V} {b : Bool} (s : Same G H) (r1 : Rep κ T G d x) (r2 : Rep κ T G e y) (h : inB d e = some b) :
    (∃ (c : Nat) (z : Str), x = .str ⟨#[c]⟩ ∧ y = .str z ∧ b = decide (c ∈ z.cps.toList)) ∨ ∃ (p : PyData) (ps : List PyData), Dp κ.K H x p ∧ Dp κ.K H y (.list ps) ∧ SeqAt.shaped p = true ∧ SeqAt.shaped (.list ps) = true ∧ b = ps.any fun z => PyData.eqv z p := by
  have deep : ∀ {bb : Bool} {l : List D}, e = .lst bb l → (if d.pl 60 && (D.lst false l).pl 60 then some (l.any fun e => peq e d) else none) = some b →
      ∃ (p : PyData) (ps : List PyData), Dp κ.K H x p ∧ Dp κ.K H y (.list ps) ∧ SeqAt.shaped p = true ∧ SeqAt.shaped (.list ps) = true ∧ b = ps.any fun z => PyData.eqv z p := fun {bb l} he g => by
    subst he
    split at g
    · rename_i hp
      cases g
      obtain ⟨p1, p2⟩ := and2 hp
      have p3 : (D.lst bb l).pl 60 = true := p2
      exact ⟨d.py, pyL l, rep_dp s d p1 r1, rep_dp s (.lst bb l) p3 r2, shaped_of p1, shaped_of (d := .lst bb l) p3, (any_py d l).symm⟩
    · cases g
  cases e with
  | lst bb l =>
    refine .inr (deep rfl ?_)
    cases d <;> exact h
  | str z =>
    cases d with
    | str w =>
      left
      have h' : (match w.cps.toList with
        | [c] => some (decide (c ∈ z.cps.toList))
        | _ => none) = some b := h
      split at h'
      · rename_i c ec
        cases h'
        have ew : w = ⟨#[c]⟩ := by
          obtain ⟨a⟩ := w
          have : a = #[c] := by rw [← Array.toArray_toList (xs := a), ec]
          rw [this]
        subst ew
        exact ⟨c, z, r1, r2, rfl⟩
      · cases h'
    | _ => cases h
  | _ => cases d <;> cases h
abbrev rIn2 (K : PySem.W.Frag) : R2 := fun x y H Q => (∃ (c : Nat) (z : Str), x = .str ⟨#[c]⟩ ∧ y = .str z ∧ Q (.bl (decide (c ∈ z.cps.toList))) H) ∨ rInD K x y H Q
abbrev rNin2 (K : PySem.W.Frag) : R2 := fun x y H Q => (∃ (c : Nat) (z : Str), x = .str ⟨#[c]⟩ ∧ y = .str z ∧ Q (.bl (!decide (c ∈ z.cps.toList))) H) ∨ rNotInD K x y H Q
theorem op_in2 (hu : X.A.units + 65 < cLine) : OpR X (compareOp .In) (rIn2 X.K) := op_in_sign.or (op_inD hu)
theorem op_nin2 (hu : X.A.units + 65 < cLine) : OpR X (compareOp .NotIn) (rNin2 X.K) := op_notIn_sign.or (op_notInD hu)
theorem od_in : OpD κ (rIn2 κ.K) inD := by
  intro B ρ σ H G d e x y z Q o r1 r2 hz q
  obtain ⟨b, hb, rfl⟩ := Option.map_eq_some_iff.mp hz
  have fin := q (.bl b) H G o (Same.refl G) rfl
  rcases in_cases o.fr.gh r1 r2 hb with ⟨c, w, h1, h2, rfl⟩ | ⟨p, ps, h1, h2, h3, h4, rfl⟩
  · exact .inl ⟨c, w, h1, h2, fin⟩
  · exact .inr ⟨p, ps, h1, h2, h3, h4, fin⟩
theorem od_nin : OpD κ (rNin2 κ.K) ninD := by
  intro B ρ σ H G d e x y z Q o r1 r2 hz q
  obtain ⟨b, hb, rfl⟩ := Option.map_eq_some_iff.mp hz
  have fin := q (.bl (!b)) H G o (Same.refl G) rfl
  rcases in_cases o.fr.gh r1 r2 hb with ⟨c, w, h1, h2, rfl⟩ | ⟨p, ps, h1, h2, h3, h4, rfl⟩
  · exact .inl ⟨c, w, h1, h2, fin⟩
  · exact .inr ⟨p, ps, h1, h2, h3, h4, fin⟩
end
end Fm
set_option maxHeartbeats 390000
namespace Fm
open L2 PySem PySem.Spec PyProof.Rows

/-! ### calls with values and names -/
/-- n values, the others by name -/
def BindsPK (K : PySem.W.Frag) (fd : FuncData) (ps : List Str) (n : Nat) (ks : List Str) : Prop := ∀ (s : Shared) (us ws : List Value), K.In s.heap → us.length = n → ws.length = ks.length → BindsTo s fd ⟨us, ks.zip ws⟩ (ps.zip (us ++ ws))
theorem FunD.bindsPK {K : PySem.W.Frag} {x qual : Str} {params : Arguments} {body : List Stmt} {scope : Scope} {kws : List (Str × V)} {f : Addr} {fd : FuncData} {ps ks : List Str} {n : Nat} (F : FunD K x qual params body scope [] kws f fd)
    (h : ∀ (kV doc pm : Value) (an : Option Addr) (cdv ct : Value) (us ws : List Value), us.length = n → ws.length = ks.length → bindArgs (PySem.W.fnOf x qual params body scope .none kV doc pm an cdv ct) ⟨us, ks.zip ws⟩ = pure (ps.zip (us ++ ws))) : BindsPK K fd ps n ks := by
  obtain ⟨_, _, _, kV, doc, pm, an, cdv, ct, _, rfl, _, _, hD, _⟩ := F.ex
  rcases hD with ⟨_, rfl⟩ | ⟨no, _⟩
  · exact fun s us ws _ l1 l2 => BindsTo.of_looks fun M => h kV doc pm an cdv ct us ws l1 l2 ▸ PySem.W.Looks.now
  · exact absurd rfl no
def aApp (n k : M (List Ar)) : M (List Ar) := n.bind fun as => k.bind fun bs => M.ret (as ++ bs)
theorem alen_app {n k : M (List Ar)} {i j : Nat} (h : ALen n i) (g : ALen k j) : ALen (aApp n k) (i + j) := fun ρ as ρ' e => by
  unfold aApp M.bind at e
  cases e1 : n ρ with
  | ok a1 ρ1 =>
    rw [e1] at e
    dsimp only at e
    cases e2 : k ρ1 with
    | ok a2 ρ2 =>
      rw [e2] at e
      cases e
      rw [List.length_append, h _ _ _ e1, g _ _ _ e2]
    | ex x ρ2 =>
      rw [e2] at e
      cases e
    | no =>
      rw [e2] at e
      cases e
  | ex x ρ1 =>
    rw [e1] at e
    cases e
  | no =>
    rw [e1] at e
    cases e
theorem RepAs.append {κ : Ctx} {T : Pd} {σ : L2.St} {G : Hp} : ∀ {as bs : List Ar} {vs ws : List V}, RepAs κ T σ G as vs → RepAs κ T σ G bs ws → RepAs κ T σ G (as ++ bs) (vs ++ ws)
  | [], bs, vs, ws, h, g => by
    rw [show vs = [] from h]
    exact g
  | a :: as, bs, vs, ws, h, g => by
    obtain ⟨v, us, rfl, h1, h2⟩ := h
    exact ⟨v, us ++ ws, rfl, h1, RepAs.append h2 g⟩
theorem RepAs.len {κ : Ctx} {T : Pd} {σ : L2.St} {G : Hp} : ∀ {as : List Ar} {vs : List V}, RepAs κ T σ G as vs → vs.length = as.length
  | [], vs, h => by rw [show vs = [] from h]; rfl
  | a :: as, vs, h => by
    obtain ⟨v, us, rfl, _, h2⟩ := h
    rw [List.length_cons, List.length_cons, RepAs.len h2]
section
variable {X : Cx} {κ : Ctx} {W : WX} {k k' : Nat} {f : Addr} {fd : FuncData} {ps ks : List Str} {fn : List SD → FR} {x : Str} {p pos : Pos} {e : Expr} {es : List Expr} {n m : M (List Ar)} {kws : List Keyword}
/-- f(e, .., k = e, ..) -/
theorem e_callPK {i : Nat} (C : Callee X.prog X.w X.K X.mg X.base κ x k ps fn f fd) (hb : BindsPK X.K fd ps i ks) (hr : Room k' X.A) (hk : k ≤ k') (hg : Gl X x) (hx : PassW X W) (ha : PA X (e :: es) (tAr κ W n)) (hkw : PK X kws (tAr κ W m)) (hi : ALen n i) (hj : ALen m ks.length) (hl : i + ks.length = ps.length)
    (hdb : (x == ("__debug__" : Str)) = false := by decide) (he : starEach (e :: es) X.env = (false, eval e X.env) :: starEach es X.env := by rfl) (hall : (backToKw pos (keywordEach kws X.env)).all (·.1.isSome) = true := by rfl) (hks : (backToKw pos (keywordEach kws X.env)).filterMap (·.1) = ks := by rfl)
    (hpl : ((backTo pos (starEach (e :: es) X.env)).any (·.1) || (backToKw pos (keywordEach kws X.env)).any (·.1.isNone)) = false := by rfl) : PE X (.Call (.Name x p) (e :: es) kws pos) (tE κ W (mCall fn [] (aApp n m))) := by
  have w : PE X (.Call (.Name x p) (e :: es) kws pos) (fun σ H Q => tAr κ W n σ H fun vs H1 => tAr κ W m σ H1 fun zs H2 => vs.length = i ∧ zs.length = ks.length ∧ spF κ ps.length fn (vs ++ zs) H2 Q fun cls d H => W cls d σ H) := by
    refine ⟨fun pins s σ H Q I h => wpAny_Call_Name_kw (ld_glob I hg C.gl ?_ hdb)⟩
    refine PySem.W.callWith_KW (h₀ := X.base) I.ok.mod.kin C.kp hall (thn (ha.run pos pins s σ H _ I h) fun us s1 ⟨vs, H1, I1, r, q⟩ => ?_) hpl he
    refine thn (hkw.run pos pins s1 σ H1 _ I1 q) fun ws s2 ⟨kvs, H2, I2, rz, l1, l2, q2⟩ => ⟨I2.kIn, ?_⟩
    rw [hks]
    refine wpAny_call (codeAny_mono (C.ok.run X.A X.stack s2 H2 ⟨us, ks.zip ws⟩ (us ++ ws) (vs ++ kvs) Q _ (hr.mono hk) I2.env0 (hb s2 us ws I2.kIn (r.length.symm.trans l1) (rz.length.symm.trans l2)) (r.append rz) q2) fun r2 s3 back => ?_)
    match r2, back with
    | .error e, z => exact hx σ pins H2 s2 e s3 I2 z
    | .ok .next, z => exact z.elim
    | .ok .brk, z => exact z.elim
    | .ok .cont, z => exact z.elim
    | .ok (.ret u), z => exact I2.after z
  refine PE.imp w fun σ H Q h => ?_
  obtain ⟨B, ρ, G, o, q⟩ := call_ok (κ := κ) (W := W) (dvs := []) (dd := []) (N := ps.length) (ps := ps) rfl (fun _ _ => rfl) (alen_ok (alen_app hi hj) (by rw [List.length_nil, Nat.add_zero]; exact hl)) h
  refine ⟨B, ρ, G, o, ?_⟩
  have q1 := Pst.bind (m := n) (f := fun as => m.bind fun bs => M.ret (as ++ bs)) q
  cases en : n ρ with
  | no =>
    rw [en] at q1
    exact q1
  | ex x ρ' =>
    rw [en] at q1
    exact q1
  | ok as ρ1 =>
    rw [en] at q1
    intro H1 G1 o1 s1 vs rs
    have q2 := Pst.bind (m := m) (f := fun bs => M.ret (as ++ bs)) (q1 H1 G1 o1 s1)
    refine ⟨B, ρ1, G1, o1, ?_⟩
    cases em : m ρ1 with
    | no =>
      rw [em] at q2
      exact q2
    | ex x ρ' =>
      rw [em] at q2
      exact q2
    | ok bs ρ2 =>
      rw [em] at q2
      intro H2 G2 o2 s2 zs rz
      have q3 := Pst.ret (q2 H2 G2 o2 s2) o2 (vs ++ zs) ((rs.mono s2).append rz)
      have q4 : spF κ ps.length fn (vs ++ zs ++ []) H2 Q (fun cls d H => W cls d σ H) := q3
      rw [List.append_nil] at q4
      exact ⟨rs.len.trans (hi _ _ _ en), rz.len.trans (hj _ _ _ em), q4⟩
end
end Fm
set_option maxHeartbeats 390000
namespace Fm
open L2 PySem PySem.Spec PyProof.Rows

/-! ### an own exception made with one value -/
/-- what such an __init__ keeps: a text in the field f, the value in the field g -/
def spI2 (K : PySem.W.Frag) (f z g : Str) : Sp := fun vs H Q E => ∃ (a C : Addr) (y : V), vs = [.ref a, y] ∧ OexC K C ∧ PySem.W.findIn K (.ref C) f = some none ∧ PySem.W.findIn K (.ref C) g = some none ∧ H a = some (exo a C none) ∧
  ∀ dx, H dx = none → dx ≠ a → Q .non (upd (upd (upd H dx (exd dx [(f, .str z)])) a (exo a C (some dx))) dx (exd dx [(g, y), (f, .str z)]))
theorem init2_ok {P : Program} {w : World} {K : PySem.W.Frag} {mg : Str → Option Value} {base : Heap} {qual f z g n : Str} {params : Arguments} {scope : Scope} {fI : Addr} {fd : FuncData} {p1 p2 p3 p4 p5 p6 p7 p8 : Pos} {j : Nat}
    (F : FunD K "__init__" qual params [.Assign [.Attribute (.Name "self" p1) f p2] (.Constant (.str z) j p3) p4, .Assign [.Attribute (.Name "self" p5) g p6] (.Name n p7) p8] scope [] [] fI fd) (Sc : FnScope ["self", n] ["self", n] scope)
    (dn : (n == ("__debug__" : Str)) = false := by decide) (cn : (n == ("__classdict__" : Str)) = false := by decide) : FnOk P w K mg base (L2.CX P w) 1 fI fd ["self", n] (spI2 K f z g) := by
  refine F.ok Sc (fun vs H Q E ⟨a, C, y, e, _⟩ => by rw [e]; rfl) fun cdv A outer s H vs Q E hr ⟨a, C, y, e, T, no, no2, ha, q⟩ => ?_
  subst e
  have v0 : Vis scope "self" := (Sc.par _ (by simp)).imp id .inl
  have v1 : Vis scope n := (Sc.par _ (by simp)).imp id .inl
  refine ⟨_, pss_cons (ps_ost (pe_var (i := 0) rfl v0) pe_str) (pss_one (ps_ost (pe_var (i := 0) rfl v0) (pe_var (i := 1) rfl v1 dn cn))), ?_⟩
  refine ⟨.ref a, rfl, a, C, rfl, T, no, .inl ⟨ha, fun dx hd ne => ?_⟩⟩
  refine ⟨y, rfl, .ref a, rfl, a, C, rfl, T, no2, .inr ⟨dx, _, upd_same, by rw [upd_ne ne, upd_same], by simp, q dx hd ne⟩⟩
/-- a class of exceptions that the program raises with one value -/
structure ExC2 (P : Program) (w : World) (K : PySem.W.Frag) (mg : Str → Option Value) (base : Heap) (κ : Ctx) (x : Str) (c : String) (f z g n : Str) (fI : Addr) (fd : FuncData) : Prop where
  T : OexC K (κ.cl c)
  no : PySem.W.findIn K (.ref (κ.cl c)) f = some none
  no2 : PySem.W.findIn K (.ref (κ.cl c)) g = some none
  iC : PySem.W.findIn K (.ref (κ.cl c)) "__init__" = some (some (.ref fI))
  tI : PySem.W.typeIn K (.ref fI) = some (.type "function")
  ok : FnOk P w K mg base (L2.CX P w) 1 fI fd ["self", n] (spI2 K f z g)
  bd : Binds K fd ["self", n] []
  gl : mg x = some (.ref (κ.cl c))
theorem excB_ok2 {P : Program} {w : World} {K : PySem.W.Frag} {mg : Str → Option Value} {base : Heap} {κ : Ctx} {x : Str} {c : String} {f z g n : Str} {fI : Addr} {fd : FuncData} (h : excB K (κ.cl c) fI f = true) (h2 : PySem.W.findIn K (.ref (κ.cl c)) g = some none) (gl : mg x = some (.ref (κ.cl c)))
    (ok : FnOk P w K mg base (L2.CX P w) 1 fI fd ["self", n] (spI2 K f z g)) (bd : Binds K fd ["self", n] []) : ExC2 P w K mg base κ x c f z g n fI fd := by
  obtain ⟨g1, h⟩ := and2 h
  obtain ⟨g2, h⟩ := and2 h
  obtain ⟨g3, g4⟩ := and2 h
  exact ⟨oexB_ok g1, of_decide_eq_true g2, h2, of_decide_eq_true g3, of_decide_eq_true g4, ok, bd, gl⟩
def sEx1 (c : String) (f z g : Str) (m : M SD) : S := (fE m).bind fun d => sEx ⟨c, [(g, d), (f, .str z)]⟩
theorem made_heap2 {H : Hp} {a dx C : Addr} {fs gs : List (Str × V)} (ha : H a = none) (ne : dx ≠ a) : upd (del (upd (upd (upd (upd H a (exo a C none)) dx (exd dx fs)) a (exo a C (some dx))) dx (exd dx gs)) a) dx (.xd gs) = upd H dx (.xd gs) := by
  funext b
  by_cases h1 : b = dx
  · rw [h1, upd_same, upd_same]
  · rw [upd_ne h1, upd_ne h1]
    by_cases h2 : b = a
    · rw [h2, del_same, ha]
    · rw [del_ne h2, upd_ne h1, upd_ne h2, upd_ne h1, upd_ne h2]
section
variable {X : Cx} {κ : Ctx} {A : List Nat} {W : WX} {x : Str} {c : String} {f z g n : Str} {fI : Addr} {fd : FuncData} {e : Expr} {m : M SD} {p p2 pos : Pos}
theorem s_raise1 (C : ExC2 X.prog X.w X.K X.mg X.base κ x c f z g n fI fd) (hc : X.calm = true) (tk : Takes X W) (hr : Room 2 X.A) (hx : Passes (L2.CX X.prog X.w) X fun _ _ _ => False) (hg : Gl X x) (he : PE X e (tE κ W m)) (hdb : (x == ("__debug__" : Str)) = false := by decide)
    (hs : starEach [e] X.env = (false, eval e X.env) :: starEach [] X.env := by rfl) (hpl : (backTo p2 (starEach [] X.env)).any (·.1) = false := by rfl) : PS X (.Raise (some (.Call (.Name x p) [e] [] p2)) none pos) (tS κ A W (sEx1 c f z g m)) := by
  refine PS.imp (ps_raise hc tk (pmk_oex (dvs := []) C.T C.iC C.tI C.ok hr C.bd .nil hx hg C.gl (pa_cons he pa_nil hs) hdb hs hpl)) fun D σ H ⟨B, ρ, G, _, o, q⟩ => ?_
  refine tE_fz o (PstS.bind q) fun d ρ1 H1 G1 o1 s1 q1 y r1 => ?_
  refine ⟨by simp, fun a ha => ⟨a, _, y, rfl, C.T, C.no, C.no2, upd_same, fun dx hd ne => ⟨rfl, dx, [(g, y), (f, .str z)], ?_, upd_same, ?_, ?_⟩⟩⟩
  · rw [upd_ne (Ne.symm ne), upd_same]
  · rw [upd_ne ne] at hd
    exact hd
  · rw [upd_ne ne] at hd
    rw [made_heap2 ha ne]
    exact q1 _ _ σ _ G1 (o1.allocOwn hd) (Same.refl G1) ⟨rfl, dx, _, rfl, upd_same, y, _, rfl, r1, .str z, [], rfl, rfl, rfl⟩
end
/-! ### try: .. except C as e: x = e.f -/
/-- a slot is forgotten -/
theorem Ok.unset {κ : Ctx} {B : Bas} {ρ : List SD} {σ : L2.St} {H G : Hp} (o : Ok κ B ρ σ H G) (i : Nat) (na : ∀ p, (i, p) ∉ B.an) : Ok κ B (ρ.set i .un) (σ.set i none) H G := by
  have back : ∀ {j : Nat} {x : SD}, (ρ.set i .un)[j]? = some x → x ≠ .un → ρ[j]? = some x ∧ (σ.set i none)[j]? = σ[j]? := fun {j x} z n => by
    by_cases hj : i = j
    · subst hj
      rw [List.getElem?_set] at z
      split at z
      · split at z
        · exact absurd (Option.some.inj z).symm n
        · cases z
      · exact absurd rfl (by assumption)
    · rw [List.getElem?_set_ne hj] at z
      exact ⟨z, List.getElem?_set_ne hj⟩
  refine ⟨o.fr, by rw [List.length_set, List.length_set, o.len], fun j d z => ?_, fun j d z => ?_, fun j l p d e hjl z1 z2 z3 z4 => ?_, fun j p hp => ?_⟩
  · obtain ⟨z1, z2⟩ := back z (by simp)
    rw [z2]
    exact o.val j d z1
  · obtain ⟨z1, z2⟩ := back z (by simp)
    rw [z2]
    exact o.own j d z1
  · obtain ⟨y1, y2⟩ := back z1 (by simp)
    obtain ⟨w1, w2⟩ := back z2 (by simp)
    rw [y2] at z3
    rw [w2] at z4
    exact o.sep j l p d e hjl y1 w1 z3 z4
  · have hj : i ≠ j := fun z => na p (by rw [z]; exact hp)
    rw [List.getElem?_set_ne hj]
    exact o.anch j p hp
def sTryF (b : S) (hit : String → Bool) (i j : Nat) (f : Str) : S := fun ρ => match b ρ with
  | .ex x ρ' => if hit x.c = true ∧ i < ρ'.length then (match x.fs.lookup f with
    | some w => .ok .nx (((ρ'.set i .un).set j (.va w)).set i .un)
    | none => .no) else .no
  | r => r
/-- what is asked of the class: CM catches those that hit tells of -/
structure Try1K (K : PySem.W.Frag) (κ : Ctx) (CM : Value) (f : Str) (hit : String → Bool) : Prop where
  on : ∀ c, hit c = true → PySem.W.exmOne K (.ref (κ.cl c)) CM = some true
  xf : ∀ c, hit c = true → XfC K (κ.cl c) ∧ PySem.W.findIn K (.ref (κ.cl c)) f = some none
def tField (K : PySem.W.Frag) (f : Str) (i j : Nat) (a : Addr) (cls : Value) (d : Option Addr) : TS := fun D σ H => ∃ C, XfC K C ∧ PySem.W.findIn K (.ref C) f = some none ∧ tAsg (tXf a cls d C f (tVar i)) (gName j) D σ H
section
variable {X : Cx} {κ : Ctx} {A : List Nat} {Wout : WX} {i j : Nat} {f nw n xm : Str} {CM : Addr} {body : List Stmt} {b : S} {hit : String → Bool} {q1 q2 q3 q4 q5 q6 pos : Pos}
theorem s_tryF (T : Try1K X.K κ (.ref CM) f hit) (hs : X.stack = X.env :: X.outer) (hf : X.env.frame = some X.env.locals) (hN : X.N.Nodup) (tk : Takes X Wout) (i1 : X.N[i]? = some n) (i2 : X.N[j]? = some nw) (ne : j ≠ i) (l1 : X.env.kindOf n = some .local) (l2 : X.env.scope.names.lookup nw = some .local)
    (gm : Gl X xm) (hm : X.mg xm = some (.ref CM)) (ni : A.contains i = false) (nj : A.contains j = false) (hb : ∀ (W : WX) (pn : List (Addr × Obj)) (xe : Value → Shared → Prop), Takes (X.tr pn xe) W → PassesOwn (model X.prog X.w) X.A X.env xe → PSs (X.tr pn xe) body (tS κ A W b))
    (dm : (xm == ("__debug__" : Str)) = false := by decide) (dn : (n == ("__debug__" : Str)) = false := by decide) (cn : (n == ("__classdict__" : Str)) = false := by decide) (hat : attributeBase (.Name n q4) f X.env (eval (.Name n q4) X.env) = eval (.Name n q4) X.env := by rfl)
    (hsw : swapsWith (.Attribute (.Name n q4) f q5) (some (.Name nw q3)) q6.line X.env = pure false := by rfl) :
    PS X (.Try body [.ExceptHandler (some (.Name xm q1)) (some n) [.Assign [.Name nw q3] (.Attribute (.Name n q4) f q5) q6] q2] [] [] pos) (tS κ A Wout (sTryF b hit i j f)) := by
  have suite : ∀ (y : Addr) (oe : Obj) (cls : Value) (d : Option Addr) (pn : List (Addr × Obj)), Zc cls d oe → (∃ vs, oe.data = .fields vs) → PSs (X.suite y ((y, oe) :: pn)) [.Assign [.Name nw q3] (.Attribute (.Name n q4) f q5) q6] (tField X.K f i j y cls d) := fun y oe cls d pn z dt =>
    ⟨fun pins s σ H D I ⟨C, xc, no, q⟩ => (pss_one (ps_set (X := X.suite y ((y, oe) :: pn)) (i := j) hN i2 (.inl l2) (pe_xf (X := X) xc no z dt (pe_var (X := X.suite y ((y, oe) :: pn)) (i := i) i1 (.inl l1) dn cn) hat) hsw (.inr l2))).run pins s σ H D I q⟩
  refine PS.imp (ps_try_cls (l := [⟨.ref CM, i, tField X.K f i j⟩]) hs hf hN tk hb (.cons ⟨gm, dm, .inl hm⟩ i1 l1 suite .nil)) fun D σ H ⟨B, ρ, G, an, o, q⟩ => ⟨B, ρ, G, an, o, ?_⟩
  unfold sTryF at q
  cases e : b ρ with
  | no =>
    rw [e] at q
    exact q
  | ok fl ρ' =>
    rw [e] at q
    cases fl <;> exact q
  | ex x ρ' =>
    rw [e] at q
    intro cls d σ' H' G' o' s ⟨ec, dx, vs, ed, hd, rf⟩
    subst ec ed
    by_cases hx : hit x.c = true ∧ i < ρ'.length
    · simp only [if_pos hx] at q
      obtain ⟨hx, hl⟩ := hx
      cases ew : x.fs.lookup f with
      | none =>
        simp only [ew] at q
        exact q.elim
      | some w =>
        simp only [ew] at q
        obtain ⟨y, y1, y2⟩ := RepF.look rf ew
        obtain ⟨xc, no⟩ := T.xf x.c hx
        refine ⟨true, T.on x.c hx, fun _ c hc => ⟨κ.cl x.c, xc, no, .ref c, ?_, rfl, rfl, dx, vs, y, rfl, hd, y1, ?_⟩, fun z => nomatch z⟩
        · rw [List.getElem?_set_self (by rw [o'.len]; exact hl)]
        · have o2 := (((o'.unset i (not_anch an ni)).set j (show RepR κ B _ _ H' G' (.va w) y from y2) (not_anch an nj)).unset i (not_anch an ni))
          have z : D.nx _ _ := q _ _ _ o2 s
          show D.nx ((((σ'.set i (some (.ref c))).set j (some y))).set i none) H'
          rw [List.set_comm _ _ (Ne.symm ne), List.set_set]
          rw [List.set_comm _ _ (Ne.symm ne), List.set_set] at z
          exact z
    · simp only [if_neg hx] at q
      exact q.elim
end
theorem room65 {k : Nat} {A : Around} (r : Room k A) : A.units + 65 < cLine := by have := r.un; omega
/-- C is caught by CM; its field f may be read -/
def cat1B (K : PySem.W.Frag) (CM C : Addr) (f : Str) : Bool := decide (PySem.W.exmOne K (.ref C) (.ref CM) = some true) && (xfB K C && decide (PySem.W.findIn K (.ref C) f = some none))
theorem cat1B_ok {K : PySem.W.Frag} {κ : Ctx} {CM : Addr} {f : Str} {cs : List String} (h : ∀ c ∈ cs, cat1B K CM (κ.cl c) f = true) : Try1K K κ (.ref CM) f (cs.contains ·) where
  on := fun c hc => of_decide_eq_true (and2 (h c (List.contains_iff_mem.mp hc))).1
  xf := fun c hc => by
    obtain ⟨h3, h4⟩ := and2 (and2 (h c (List.contains_iff_mem.mp hc))).2
    exact ⟨xfB_ok h3, of_decide_eq_true h4⟩
end Fm
set_option maxHeartbeats 390000
namespace Fm
open L2 PySem PySem.Spec PyProof.Rows

/-! ### the calculus: texts -/
/-- a plain text of at most n signs -/
structure Tx (n : Nat) (s : Str) : Prop where
  len : s.length ≤ n
  asc : ∀ c ∈ s.cps.toList, c < 128
theorem Tx.ok {n : Nat} {s : Str} (h : Tx n s) : PyData.strOk s = true := by
  unfold PyData.strOk
  rw [← Array.all_toList]
  refine List.all_eq_true.mpr fun c hc => ?_
  have := h.asc c hc
  simp only [decide_eq_true_eq]
  omega
theorem Tx.mono {m n : Nat} {s : Str} (h : Tx m s) (l : m ≤ n) : Tx n s := ⟨Nat.le_trans h.len l, h.asc⟩
def D.items : D → Option (List D)
  | .lst _ l => some l
  | .tup l => some l
  | .str s => some (s.cps.toList.map fun c => D.str ⟨#[c]⟩)
  | _ => none
section
variable {α : Type} {ρ : List SD} {E : Exn → List SD → Prop} {p : SD → List SD → Prop} {s : Fl → List SD → Prop} {pl : List D → List SD → Prop} {pa : List Ar → List SD → Prop}
theorem w_seqX {m : M SD} (h : Wp (fE m) ρ (fun d ρ' => ∃ l, d.items = some l ∧ pl l ρ') E) : Wp (iSeq m) ρ pl E := w_bind (h.mono (fun d ρ' h => by
  obtain ⟨l, e, h⟩ := h
  cases d <;> first
    | (cases e; exact ⟨h⟩)
    | cases e) fun _ _ z => z)
theorem w_aapp {n k : M (List Ar)} (h : Wp n ρ (fun as ρ1 => Wp k ρ1 (fun bs ρ2 => pa (as ++ bs) ρ2) E) E) : Wp (aApp n k) ρ pa E := w_bind (h.mono (fun _ _ h => w_bind (h.mono (fun _ _ h => w_pure h) fun _ _ z => z)) fun _ _ z => z)
theorem w_ex1 {c : String} {f z g : Str} {m : M SD} (h : Wp (fE m) ρ (fun d ρ' => E ⟨c, [(g, d), (f, .str z)]⟩ ρ') E) : Wp (sEx1 c f z g m) ρ s E := w_bind (h.mono (fun _ _ h => w_ex h) fun _ _ z => z)
theorem w_tryF {b : S} {hit : String → Bool} {i j : Nat} {f : Str} (h : Wp b ρ s fun x ρ' => (hit x.c = true ∧ i < ρ'.length) ∧ ∃ w, x.fs.lookup f = some w ∧ s .nx (((ρ'.set i .un).set j (.va w)).set i .un)) : Wp (sTryF b hit i j f) ρ s E := by
  refine ⟨?_⟩
  have h := h.run
  unfold sTryF
  cases e : b ρ with
  | ok fl ρ' =>
    rw [e] at h
    exact h
  | ex x ρ' =>
    rw [e] at h
    obtain ⟨h1, w, h2, h3⟩ := h
    simp only [if_pos h1, h2]
    exact h3
  | no =>
    rw [e] at h
    exact h
/-- a method's step -/
structure Mw (g : Str → D → Option SD) (mb : M SD) (d : D) (ρ : List SD) (p : SD → List SD → Prop) (E : Exn → List SD → Prop) : Prop where
  run : ∃ z, d = .str z ∧ Wp (fE mb) ρ (fun e ρ2 => Ow (g z e) fun r => p r ρ2) E
theorem w_m1 {g : Str → D → Option SD} {ma mb : M SD} (h : Wp (fE ma) ρ (fun d ρ1 => Mw g mb d ρ1 p E) E) : Wp (mM1 g ma mb) ρ p E := w_bind (h.mono (fun d ρ1 h => by
  obtain ⟨z, rfl, k⟩ := h.run
  exact w_bind (k.mono (fun _ _ h => w_opt h) fun _ _ z => z)) fun _ _ z => z)
theorem w_mw {g : Str → D → Option SD} {mb : M SD} {z : Str} (h : Wp (fE mb) ρ (fun e ρ2 => Ow (g z e) fun r => p r ρ2) E) : Mw g mb (.str z) ρ p E := ⟨z, rfl, h⟩
end
section
variable {p : SD → Prop} {a b : Str} {l : List D} {lo hi : Option Int} {i : Int}
theorem peq_str (a b : Str) : peq (.str a) (.str b) = decide (a = b) := rfl
theorem pl_str {n : Nat} (h : PyData.strOk a = true) : D.pl n (.str a) = true := by cases n <;> exact h
theorem o_eqStr (h : p (.va (.bl (decide (a = b))))) (ha : PyData.strOk a = true) (hb : PyData.strOk b = true) : Ow (eqD (.str a) (.str b)) p := ⟨_, by
  unfold eqD
  rw [pl_str ha, pl_str hb, peq_str]
  rfl, h⟩
theorem o_neStr (h : p (.va (.bl (!decide (a = b))))) (ha : PyData.strOk a = true) (hb : PyData.strOk b = true) : Ow (neD (.str a) (.str b)) p := ⟨_, by
  unfold neD
  rw [pl_str ha, pl_str hb, peq_str]
  rfl, h⟩
theorem o_lenStr (h : p (.va (.int a.length))) (g : a.length ≤ 1000000) : Ow (lenD [.str a]) p := ⟨_, if_pos g, h⟩
theorem o_slStr (h : p (.va (.str (cutS a lo hi)))) (g : a.length ≤ 1000000) : Ow (slcD (.str a) lo hi) p := ⟨_, if_pos g, h⟩
theorem o_addStr (h : p (.va (.str (a ++ b)))) (g : a.length + b.length ≤ 1000000) : Ow (addD (.str a) (.str b)) p := ⟨_, if_pos g, h⟩
theorem o_addL {x y : Bool} {m : List D} (h : p (.ow (.lst false (l ++ m)))) (g : l.length + m.length ≤ 1000000) : Ow (addD (.lst x l) (.lst y m)) p := ⟨_, if_pos g, h⟩
theorem o_ixStr {c : Nat} (h : p (.va (.str ⟨#[c]⟩))) (e : atI a.cps.toList i = some c) (g : a.length ≤ 1000000) : Ow (ixD (.str a) (.int i)) p := ⟨_, by
  show (if a.length ≤ 1000000 then (atI a.cps.toList i).map fun c => SD.va (.str ⟨#[c]⟩) else none) = _
  rw [if_pos g, e]
  rfl, h⟩
theorem o_inS {c : Nat} (h : p (.va (.bl (decide (c ∈ a.cps.toList))))) : Ow (inD (.str ⟨#[c]⟩) (.str a)) p := ⟨_, rfl, h⟩
theorem o_ninS {c : Nat} (h : p (.va (.bl (!decide (c ∈ a.cps.toList))))) : Ow (ninD (.str ⟨#[c]⟩) (.str a)) p := ⟨_, rfl, h⟩
theorem o_inL {x : Bool} (h : p (.va (.bl (l.any fun e => peq e .non)))) (g : (D.lst false l).pl 60 = true) : Ow (inD .non (.lst x l)) p := ⟨_, by
  show (if (D.non.pl 60 && (D.lst false l).pl 60) = true then some (l.any fun e => peq e .non) else none).map _ = _
  rw [if_pos (show (D.non.pl 60 && (D.lst false l).pl 60) = true by rw [g]; rfl)]
  rfl, h⟩
theorem o_split (h : p (.ow (.lst false ((Txt.split a b).map D.str)))) (g : a.length ≤ 1000000) (gb : b.length ≠ 0) : Ow (splitG a (.str b)) p := ⟨_, if_pos ⟨gb, g⟩, h⟩
theorem o_part (h : p (.va (.tup [.str (Txt.partition a b).1, .str (Txt.partition a b).2.1, .str (Txt.partition a b).2.2]))) (g : a.length ≤ 1000000) (gb : b.length ≠ 0) : Ow (partG a (.str b)) p := ⟨_, if_pos ⟨gb, g⟩, h⟩
theorem o_join {x : Bool} {ys : List Str} (h : p (.va (.str (Txt.join a ys)))) (g : (ys.map (·.length)).sum + ys.length * a.length ≤ 1000000) : Ow (joinG a (.lst x (ys.map D.str))) p := ⟨_, by
  show (strsOf (ys.map D.str)).bind _ = _
  rw [strsOf_map]
  exact if_pos g, h⟩
theorem o_strI (h : p (.va (.str (toString i)))) (g : i.natAbs.log2 < 1920) : Ow (strD [.int i]) p := ⟨_, if_pos g, h⟩
theorem o_intS {n : Int} (h : p (.va (.int n))) (e : PySem.intText? a = some n) (g : a.length ≤ 640) : Ow (intSD [.str a]) p := ⟨_, by
  show (if a.length ≤ 640 then (PySem.intText? a).map fun n => SD.va (.int n) else none) = _
  rw [if_pos g, e]
  rfl, h⟩
end
end Fm
set_option maxHeartbeats 390000
namespace Lw
open L2 PySem PySem.Spec PyProof.Rows Fm
def top (i : Nat) : Stmt := PySem.Challenge.pw_farmesh_k56_walk_texts_read_or_refused.main.body.getD i (.Pass ⟨0, 0, 0, 0⟩)
abbrev kx (K : PySem.W.Frag) (cl : String → Addr) (tabs : List (Addr × Str)) : Fm.Ctx := ⟨K, cl, tabs⟩
@[reducible] def c_LONGEST : D := .int 8
@[reducible] def c_LETTERS : D := .str "abcdefghijklmnopqrstuvwxyz"
@[reducible] def c_MOST_FIGURES : D := .int 7
@[reducible] def c_MOST_COUNT : D := .int 30
@[reducible] def c_FIGURES : D := .str "0123456789"
def hits_BadText : String → Bool := fun c => ["BadText"].contains c
abbrev t_BadText_i : Stmt := (bodyOfCls (top 2)).getD 0 (.Pass ⟨0, 0, 0, 0⟩)
theorem sc_BadText_i : FnScope ["self", "row"] ["self", "row"] (defScope t_BadText_i) := ⟨rfl, rfl, rfl, by decide +kernel, rfl, by decide +kernel, by decide +kernel⟩
abbrev t_is_name : Stmt := top 6
theorem sc_is_name : FnScope ["text", "sign"] ["text"] (defScope t_is_name) := ⟨rfl, rfl, rfl, by decide +kernel, rfl, by decide +kernel, by decide +kernel⟩
@[reducible] def s_is_name : S := sRet (mAndV (mChain ltD leD (mC (.int 0)) (mCB lenD (mCons (mVar 0) (mNil))) (mC c_LONGEST)) (mCB allD (mCons (mLc (iSeq (mVar 0)) [1] (gN 1) (M.ret true) (mOp inD (mVar 1) (mC c_LETTERS))) (mNil))))
@[reducible] def f_is_name : List SD → FR := Fm.runN [] 2 s_is_name
theorem ok_is_name {P : Program} {w : World} {K : PySem.W.Frag} {mg : Str → Option Value} {base : Heap} {cl : String → Addr} {tabs : List (Addr × Str)} {f : Addr} {fd : FuncData} (F : FunD K "is_name" "is_name" (defArgs t_is_name) (defBody t_is_name) (defScope t_is_name) [] [] f fd) (m_all : mg "all" = none) {z_LETTERS : Tok} (g_LETTERS : mg "LETTERS" = some (.str "abcdefghijklmnopqrstuvwxyz" z_LETTERS)) {z_LONGEST : Tok} (g_LONGEST : mg "LONGEST" = some (.int 8 z_LONGEST)) (m_len : mg "len" = none) : FnOk P w K mg base (L2.CX P w) 1 f fd ["text"] (spF (kx K cl tabs) 1 f_is_name) :=
  def_okN (k := 0) (A := []) (N := ["text", "sign"]) F sc_is_name fun cdv Ar outer s0 H E hr => by
    exact (s_one (s_ret (e_and (e_chain op_lt od_lt op_le od_le e_int (e_callB call_len cd_len rfl m_len (by decide +kernel) (a_cons (e_var (pv 0)) a_nil)) (e_glob (v := .int 8) rfl g_LONGEST ⟨_, rfl⟩ (fun _ _ => rfl))) (e_one (e_callB (cr_all rfl) cd_all rfl m_all (by decide +kernel) (a_cons (e_lc (A := []) (own := [("sign", 1)]) rfl sc_is_name.nd (i_seq rfl (e_var (pv 0))) (blkOk_by (by kernel_rfl)) (fun _ _ _ _ _ => (g_name (pg_name sc_is_name.nd (i := 1) rfl (by first | exact Or.inl rfl | exact Or.inr rfl)))) (fun _ _ _ _ _ => ts_nil) (fun _ _ _ _ _ => (e_cmp (op_in2 (room65 hr)) od_in (e_var (pv 1)) (e_glob (v := .str "abcdefghijklmnopqrstuvwxyz") rfl g_LETTERS ⟨_, rfl⟩ (fun _ _ => rfl)) rfl))) a_nil))))))
abbrev t_number_in : Stmt := top 11
theorem sc_number_in : FnScope ["word", "figures", "bare", "sign"] ["word", "figures"] (defScope t_number_in) := ⟨rfl, rfl, rfl, by decide +kernel, rfl, by decide +kernel, by decide +kernel⟩
@[reducible] def s_number_in : S := sSeq (sSet 2 (mIfE (mTst (mOp eqD (mSl (mVar 0) (mPN) (mPS (mC (.int 1)))) (mC (.str "-")))) (mSl (mVar 0) (mPS (mC (.int 1))) (mPN)) (mVar 0))) (sSeq (sIf (mOr (mNot (mTst (mChain ltD leD (mC (.int 0)) (mCB lenD (mCons (mVar 2) (mNil))) (mVar 1)))) (mTst (mCB anyD (mCons (mLc (iSeq (mVar 2)) [3] (gN 3) (M.ret true) (mOp ninD (mVar 3) (mC c_FIGURES))) (mNil))))) (sRet (mC .non)) (sNx)) (sSeq (sIf (mAnd (mTst (mOp eqD (mSub 2 (mC (.int 0))) (mC (.str "0")))) (mTst (mOp neD (mVar 0) (mC (.str "0"))))) (sRet (mC .non)) (sNx)) (sRet (mCB intSD (mCons (mVar 0) (mNil))))))
@[reducible] def f_number_in : List SD → FR := Fm.runN [] 4 s_number_in
theorem ok_number_in {P : Program} {w : World} {K : PySem.W.Frag} {mg : Str → Option Value} {base : Heap} {cl : String → Addr} {tabs : List (Addr × Str)} {f : Addr} {fd : FuncData} (F : FunD K "number_in" "number_in" (defArgs t_number_in) (defBody t_number_in) (defScope t_number_in) [] [("figures", V.int 7)] f fd) (m_any : mg "any" = none) {z_FIGURES : Tok} (g_FIGURES : mg "FIGURES" = some (.str "0123456789" z_FIGURES)) (m_int : mg "int" = none) (m_len : mg "len" = none) : FnOk P w K mg base (L2.CX P w) 1 f fd ["word", "figures"] (spF (kx K cl tabs) 2 f_number_in) :=
  def_okN (k := 0) (A := []) (N := ["word", "figures", "bare", "sign"]) F sc_number_in fun cdv Ar outer s0 H E hr => by
    exact (s_cons (s_set sc_number_in.nd (i := 2) rfl (by first | exact Or.inl rfl | exact Or.inr rfl) (e_ife (t_cmp (op_eqD hr.units) od_eq (e_slice rfl (e_var (pv 0)) o_none (o_some e_int)) e_str (nomark _)) (e_slice rfl (e_var (pv 0)) (o_some e_int) o_none) (e_var (pv 0)))) (s_cons (s_if (PW.pt (w_or (t_not (t_chain op_lt od_lt op_le od_le e_int (e_callB call_len cd_len rfl m_len (by decide +kernel) (a_cons (e_var (pv 2)) a_nil)) (e_var (pv 1)))) (w_one (t_val (e_callB (cr_any rfl) cd_any rfl m_any (by decide +kernel) (a_cons (e_lc (A := []) (own := [("sign", 3)]) rfl sc_number_in.nd (i_seq rfl (e_var (pv 2))) (blkOk_by (by kernel_rfl)) (fun _ _ _ _ _ => (g_name (pg_name sc_number_in.nd (i := 3) rfl (by first | exact Or.inl rfl | exact Or.inr rfl)))) (fun _ _ _ _ _ => ts_nil) (fun _ _ _ _ _ => (e_cmp (op_nin2 (room65 hr)) od_nin (e_var (pv 3)) (e_glob (v := .str "0123456789") rfl g_FIGURES ⟨_, rfl⟩ (fun _ _ => rfl)) rfl))) a_nil)))))) (s_one (s_ret e_non)) s_nil) (s_cons (s_if (PW.pt (w_and (t_cmp (op_eqD hr.units) od_eq (e_sub rfl (pv 2) e_int (fun _ _ => rfl)) e_str (nomark _)) (w_one (t_cmp (op_neD hr.units) od_ne (e_var (pv 0)) e_str (nomark _))))) (s_one (s_ret e_non)) s_nil) (s_one (s_ret (e_callTy call_intSX cd_intS rfl m_int (by decide +kernel) (a_cons (e_var (pv 0)) a_nil)))))))
abbrev t_numbers_in : Stmt := top 12
theorem sc_numbers_in : FnScope ["words", "found", "word", "number"] ["words"] (defScope t_numbers_in) := ⟨rfl, rfl, rfl, by decide +kernel, rfl, by decide +kernel, by decide +kernel⟩
@[reducible] def s_numbers_in : S := sSeq (sSet 1 (mLst (mNil))) (sSeq (sFor (iSeq (mVar 0)) (gN 2) (sSeq (sSet 3 (mCall f_number_in [.int 7] (aVa (mVar 2) (aNil)))) (sSeq (sIf (mTst (mOp isnD (mVar 3) (mC .non))) (sRet (mC .non)) (sNx)) (sDrop (mApp 1 (mCons (mVar 3) (mNil))))))) (sRet (mCB tupD (mCons (mVar 1) (mNil)))))
@[reducible] def f_numbers_in : List SD → FR := Fm.runN [] 4 s_numbers_in
theorem ok_numbers_in {P : Program} {w : World} {K : PySem.W.Frag} {mg : Str → Option Value} {base : Heap} {cl : String → Addr} {tabs : List (Addr × Str)} {f : Addr} {fd : FuncData} (F : FunD K "numbers_in" "numbers_in" (defArgs t_numbers_in) (defBody t_numbers_in) (defScope t_numbers_in) [] [] f fd) (m_tuple : mg "tuple" = none) {a_number_in : Addr} {d_number_in : FuncData} (C_number_in : Callee P w K mg base (kx K cl tabs) "number_in" 1 ["word", "figures"] f_number_in a_number_in d_number_in) (B_number_in_1 : BindsV K d_number_in ["word", "figures"] [V.int 7]) : FnOk P w K mg base (L2.CX P w) 2 f fd ["words"] (spF (kx K cl tabs) 1 f_numbers_in) :=
  def_okN (k := 1) (A := []) (N := ["words", "found", "word", "number"]) F sc_numbers_in fun cdv Ar outer s0 H E hr => by
    exact (s_cons (s_set sc_numbers_in.nd (i := 1) rfl (by first | exact Or.inl rfl | exact Or.inr rfl) (e_lst a_nil)) (s_cons (s_for (vs := [2]) (passes_of rfl) rfl (i_seq rfl (e_var (pv 0))) (g_name (pg_name sc_numbers_in.nd (i := 2) rfl (by first | exact Or.inl rfl | exact Or.inr rfl))) (s_cons (s_set sc_numbers_in.nd (i := 3) rfl (by first | exact Or.inl rfl | exact Or.inr rfl) (e_callD C_number_in B_number_in_1 (fun _ _ => ⟨_, _, rfl, rfl, rfl⟩) hr (show 1 ≤ 1 from by decide) rfl (passW_of (takes_of rfl rfl rfl rfl)) (ar_va (e_var (pv 2)) ar_nil) (alen_va alen_nil) rfl)) (s_cons (s_if (t_cmp op_isN od_isn (e_var (pv 3)) e_non (nomark _)) (s_one (s_ret e_non)) s_nil) (s_one (s_expr (e_app rfl (pv 1) (a_cons (e_var (pv 3)) a_nil))))))) (s_one (s_ret (e_callTy call_tuple_of cd_tup rfl m_tuple (by decide +kernel) (a_cons (e_var (pv 1)) a_nil))))))
abbrev t_step_in : Stmt := top 13
theorem sc_step_in : FnScope ["text", "words", "shift"] ["text"] (defScope t_step_in) := ⟨rfl, rfl, rfl, by decide +kernel, rfl, by decide +kernel, by decide +kernel⟩
@[reducible] def s_step_in : S := sSeq (sSet 1 (mM1 splitG (mVar 0) (mC (.str " ")))) (sSeq (sSet 2 (mCall f_numbers_in [] (aVa (mSl (mVar 1) (mPS (mC (.int 1))) (mPN)) (aNil)))) (sSeq (sIf (mOr (mNot (mTst (mCall f_is_name [] (aVa (mSub 1 (mC (.int 0))) (aNil))))) (mTst (mOp isnD (mVar 2) (mC .non)))) (sRet (mC .non)) (sNx)) (sRet (mTup (mCons (mSub 1 (mC (.int 0))) (mCons (mVar 2) (mNil)))))))
@[reducible] def f_step_in : List SD → FR := Fm.runN [] 3 s_step_in
theorem ok_step_in {P : Program} {w : World} {K : PySem.W.Frag} {mg : Str → Option Value} {base : Heap} {cl : String → Addr} {tabs : List (Addr × Str)} {f : Addr} {fd : FuncData} (F : FunD K "step_in" "step_in" (defArgs t_step_in) (defBody t_step_in) (defScope t_step_in) [] [] f fd) {a_is_name : Addr} {d_is_name : FuncData} (C_is_name : Callee P w K mg base (kx K cl tabs) "is_name" 1 ["text"] f_is_name a_is_name d_is_name) (B_is_name : Binds K d_is_name ["text"] []) {a_numbers_in : Addr} {d_numbers_in : FuncData} (C_numbers_in : Callee P w K mg base (kx K cl tabs) "numbers_in" 2 ["words"] f_numbers_in a_numbers_in d_numbers_in) (B_numbers_in : Binds K d_numbers_in ["words"] []) : FnOk P w K mg base (L2.CX P w) 3 f fd ["text"] (spF (kx K cl tabs) 1 f_step_in) :=
  def_okN (k := 2) (A := []) (N := ["text", "words", "shift"]) F sc_step_in fun cdv Ar outer s0 H E hr => by
    exact (s_cons (s_set sc_step_in.nd (i := 1) rfl (by first | exact Or.inl rfl | exact Or.inr rfl) (e_split (e_var (pv 0)) e_str)) (s_cons (s_set sc_step_in.nd (i := 2) rfl (by first | exact Or.inl rfl | exact Or.inr rfl) (e_callC C_numbers_in B_numbers_in hr (show 2 ≤ 2 from by decide) rfl (passW_of (takes_of rfl rfl rfl rfl)) (ar_va (e_slice rfl (e_var (pv 1)) (o_some e_int) o_none) ar_nil) (alen_va alen_nil))) (s_cons (s_if (PW.pt (w_or (t_not (t_val (e_callC C_is_name B_is_name hr (show 1 ≤ 2 from by decide) rfl (passW_of (takes_of rfl rfl rfl rfl)) (ar_va (e_sub rfl (pv 1) e_int (fun _ _ => rfl)) ar_nil) (alen_va alen_nil)))) (w_one (t_cmp op_isN od_isn (e_var (pv 2)) e_non (nomark _))))) (s_one (s_ret e_non)) s_nil) (s_one (s_ret (e_tup (a_cons (e_sub rfl (pv 1) e_int (fun _ _ => rfl)) (a_cons (e_var (pv 2)) a_nil))))))))
abbrev t_round_in : Stmt := top 14
theorem sc_round_in : FnScope ["text", "count", "colon", "rest", "many", "steps", "one", "step"] ["text"] (defScope t_round_in) := ⟨rfl, rfl, rfl, by decide +kernel, rfl, by decide +kernel, by decide +kernel⟩
@[reducible] def s_round_in : S := sSeq (sAsg (gSq 3 (gCo (gN 1) (gCo (gN 2) (gCo (gN 3) (gNi))))) (mM1 partG (mVar 0) (mC (.str ": ")))) (sSeq (sSet 4 (mCall f_number_in [] (aApp (aVa (mVar 1) (aNil)) (aVa (mC c_MOST_COUNT) (aNil))))) (sSeq (sIf (mOr (mTst (mOp eqD (mVar 2) (mC (.str "")))) (mOr (mTst (mOp isnD (mVar 4) (mC .non))) (mTst (mOp ltD (mVar 4) (mC (.int 1)))))) (sRet (mC .non)) (sNx)) (sSeq (sSet 5 (mLc (iSeq (mM1 splitG (mVar 3) (mC (.str ", ")))) [6] (gN 6) (M.ret true) (mCall f_step_in [] (aVa (mVar 6) (aNil))))) (sSeq (sIf (mTst (mCB anyD (mCons (mLc (iSeq (mVar 5)) [7] (gN 7) (M.ret true) (mOp isnD (mVar 7) (mC .non))) (mNil)))) (sRet (mC .non)) (sNx)) (sRet (mTup (mCons (mVar 4) (mCons (mCB tupD (mCons (mVar 5) (mNil))) (mNil)))))))))
@[reducible] def f_round_in : List SD → FR := Fm.runN [] 8 s_round_in
theorem ok_round_in {P : Program} {w : World} {K : PySem.W.Frag} {mg : Str → Option Value} {base : Heap} {cl : String → Addr} {tabs : List (Addr × Str)} {f : Addr} {fd : FuncData} (F : FunD K "round_in" "round_in" (defArgs t_round_in) (defBody t_round_in) (defScope t_round_in) [] [] f fd) (m_any : mg "any" = none) {z_MOST_COUNT : Tok} (g_MOST_COUNT : mg "MOST_COUNT" = some (.int 30 z_MOST_COUNT)) (m_tuple : mg "tuple" = none) {a_number_in : Addr} {d_number_in : FuncData} (C_number_in : Callee P w K mg base (kx K cl tabs) "number_in" 1 ["word", "figures"] f_number_in a_number_in d_number_in) (BP_number_in_1 : BindsPK K d_number_in ["word", "figures"] 1 ["figures"]) {a_step_in : Addr} {d_step_in : FuncData} (C_step_in : Callee P w K mg base (kx K cl tabs) "step_in" 3 ["text"] f_step_in a_step_in d_step_in) (B_step_in : Binds K d_step_in ["text"] []) : FnOk P w K mg base (L2.CX P w) 4 f fd ["text"] (spF (kx K cl tabs) 1 f_round_in) :=
  def_okN (k := 3) (A := []) (N := ["text", "count", "colon", "rest", "many", "steps", "one", "step"]) F sc_round_in fun cdv Ar outer s0 H E hr => by
    exact (s_cons (s_asg (vs := [1, 2, 3]) (e_part (e_var (pv 0)) e_str) (g_seq (n := 3) rfl rfl (gs_cons (g_name (pg_name sc_round_in.nd (i := 1) rfl (by first | exact Or.inl rfl | exact Or.inr rfl))) (gs_cons (g_name (pg_name sc_round_in.nd (i := 2) rfl (by first | exact Or.inl rfl | exact Or.inr rfl))) (gs_cons (g_name (pg_name sc_round_in.nd (i := 3) rfl (by first | exact Or.inl rfl | exact Or.inr rfl))) gs_nil))))) (s_cons (s_set sc_round_in.nd (i := 4) rfl (by first | exact Or.inl rfl | exact Or.inr rfl) (e_callPK C_number_in BP_number_in_1 hr (show 1 ≤ 3 from by decide) rfl (passW_of (takes_of rfl rfl rfl rfl)) (ar_va (e_var (pv 1)) ar_nil) (kr_va (e_glob (v := .int 30) rfl g_MOST_COUNT ⟨_, rfl⟩ (fun _ _ => rfl)) kr_nil) (alen_va alen_nil) (alen_va alen_nil) rfl)) (s_cons (s_if (PW.pt (w_or (t_cmp (op_eqD hr.units) od_eq (e_var (pv 2)) e_str (nomark _)) (w_or (t_cmp op_isN od_isn (e_var (pv 4)) e_non (nomark _)) (w_one (t_cmp op_lt od_lt (e_var (pv 4)) e_int (nomark _)))))) (s_one (s_ret e_non)) s_nil) (s_cons (s_setLc (A := []) (own := [("one", 6)]) (i := 5) rfl sc_round_in.nd rfl rfl rfl (i_seq rfl (e_split (e_var (pv 3)) e_str)) (blkOk_by (by kernel_rfl)) (fun _ _ _ _ _ => (g_name (pg_name sc_round_in.nd (i := 6) rfl (by first | exact Or.inl rfl | exact Or.inr rfl)))) (fun _ _ _ _ _ => ts_nil) (fun _ _ _ _ _ => (e_callC C_step_in B_step_in hr (show 3 ≤ 3 from by decide) rfl passW_no (ar_va (e_var (pv 6)) ar_nil) (alen_va alen_nil)))) (s_cons (s_if (t_val (e_callB (cr_any rfl) cd_any rfl m_any (by decide +kernel) (a_cons (e_lc (A := []) (own := [("step", 7)]) rfl sc_round_in.nd (i_seq rfl (e_var (pv 5))) (blkOk_by (by kernel_rfl)) (fun _ _ _ _ _ => (g_name (pg_name sc_round_in.nd (i := 7) rfl (by first | exact Or.inl rfl | exact Or.inr rfl)))) (fun _ _ _ _ _ => ts_nil) (fun _ _ _ _ _ => (e_cmp op_isN od_isn (e_var (pv 7)) e_non (nomark _)))) a_nil))) (s_one (s_ret e_non)) s_nil) (s_one (s_ret (e_tup (a_cons (e_var (pv 4)) (a_cons (e_callTy call_tuple_of cd_tup rfl m_tuple (by decide +kernel) (a_cons (e_var (pv 5)) a_nil)) a_nil))))))))))
abbrev t_read_walk : Stmt := top 15
theorem sc_read_walk : FnScope ["text", "rounds", "one"] ["text"] (defScope t_read_walk) := ⟨rfl, rfl, rfl, by decide +kernel, rfl, by decide +kernel, by decide +kernel⟩
@[reducible] def s_read_walk : S := sSeq (sIf (mTst (mOp eqD (mVar 0) (mC (.str "stay")))) (sRet (mLst (mNil))) (sNx)) (sSeq (sSet 1 (mLc (iSeq (mM1 splitG (mVar 0) (mC (.str "; ")))) [2] (gN 2) (M.ret true) (mCall f_round_in [] (aVa (mVar 2) (aNil))))) (sSeq (sIf (mTst (mCB anyD (mCons (mLc (iSeq (mVar 1)) [2] (gN 2) (M.ret true) (mOp isnD (mVar 2) (mC .non))) (mNil)))) (sEx1 "BadText" "called" "badtext" "row" (mC (.int 0))) (sNx)) (sRet (mMov 1))))
@[reducible] def f_read_walk : List SD → FR := Fm.runN [] 3 s_read_walk
theorem ok_read_walk {P : Program} {w : World} {K : PySem.W.Frag} {mg : Str → Option Value} {base : Heap} {cl : String → Addr} {tabs : List (Addr × Str)} {f : Addr} {fd : FuncData} (F : FunD K "read_walk" "read_walk" (defArgs t_read_walk) (defBody t_read_walk) (defScope t_read_walk) [] [] f fd) (m_any : mg "any" = none) {a_round_in : Addr} {d_round_in : FuncData} (C_round_in : Callee P w K mg base (kx K cl tabs) "round_in" 4 ["text"] f_round_in a_round_in d_round_in) (B_round_in : Binds K d_round_in ["text"] []) {i_BadText : Addr} {j_BadText : FuncData} (X_BadText : ExC2 P w K mg base (kx K cl tabs) "BadText" "BadText" "called" "badtext" "row" "row" i_BadText j_BadText) : FnOk P w K mg base (L2.CX P w) 5 f fd ["text"] (spF (kx K cl tabs) 1 f_read_walk) :=
  def_okN (k := 4) (A := []) (N := ["text", "rounds", "one"]) F sc_read_walk fun cdv Ar outer s0 H E hr => by
    exact (s_cons (s_if (t_cmp (op_eqD hr.units) od_eq (e_var (pv 0)) e_str (nomark _)) (s_one (s_ret (e_lst a_nil))) s_nil) (s_cons (s_setLc (A := []) (own := [("one", 2)]) (i := 1) rfl sc_read_walk.nd rfl rfl rfl (i_seq rfl (e_split (e_var (pv 0)) e_str)) (blkOk_by (by kernel_rfl)) (fun _ _ _ _ _ => (g_name (pg_name sc_read_walk.nd (i := 2) rfl (by first | exact Or.inl rfl | exact Or.inr rfl)))) (fun _ _ _ _ _ => ts_nil) (fun _ _ _ _ _ => (e_callC C_round_in B_round_in hr (show 4 ≤ 4 from by decide) rfl passW_no (ar_va (e_var (pv 2)) ar_nil) (alen_va alen_nil)))) (s_cons (s_if (t_val (e_callB (cr_any rfl) cd_any rfl m_any (by decide +kernel) (a_cons (e_lc (A := []) (own := [("one", 2)]) rfl sc_read_walk.nd (i_seq rfl (e_var (pv 1))) (blkOk_by (by kernel_rfl)) (fun _ _ _ _ _ => (g_name (pg_name sc_read_walk.nd (i := 2) rfl (by first | exact Or.inl rfl | exact Or.inr rfl)))) (fun _ _ _ _ _ => ts_nil) (fun _ _ _ _ _ => (e_cmp op_isN od_isn (e_var (pv 2)) e_non (nomark _)))) a_nil))) (s_one (s_raise1 X_BadText rfl (takes_of rfl rfl rfl rfl) (hr.mono (show 2 ≤ 4 from by decide)) passL rfl e_int)) s_nil) (s_one (s_ret (e_mov (pv 1)))))))
abbrev t__law_pick : Stmt := top 17
theorem sc__law_pick : FnScope ["_law_draw", "_law_many", "_law_cell", "_law_got"] ["_law_draw", "_law_many"] (defScope t__law_pick) := ⟨rfl, rfl, rfl, by decide +kernel, rfl, by decide +kernel, by decide +kernel⟩
@[reducible] def s__law_pick : S := sSeq (sIf (mAnd (mTst (mOp ltD (mSub 0 (mC (.int 2))) (mVar 1))) (mTst (mOp ltD (mSub 0 (mC (.int 1))) (mCB lenD (mCons (mSub 0 (mC (.int 0))) (mNil)))))) (sSeq (sSet 2 (mOp ixD (mSub 0 (mC (.int 0))) (mSub 0 (mC (.int 1))))) (sSeq (sPut 0 (mC (.int 1)) (mOp addD (mSub 0 (mC (.int 1))) (mC (.int 1)))) (sSeq (sPut 0 (mC (.int 2)) (mC (.int 0))) (sIf (mTst (mOp geD (mVar 2) (mOp powD (mC (.int 10)) (mC (.int 18))))) (sPut 0 (mC (.int 2)) (mVar 2)) (sPut 0 (mC (.int 3)) (mOp modD (mOp addD (mSub 0 (mC (.int 3))) (mVar 2)) (mC (.int 1000000007)))))))) (sNx)) (sSeq (sIf (mTst (mOp geD (mSub 0 (mC (.int 2))) (mVar 1))) (sSeq (sSet 3 (mOp modD (mSub 0 (mC (.int 2))) (mVar 1))) (sSeq (sPut 0 (mC (.int 2)) (mOp divD (mSub 0 (mC (.int 2))) (mVar 1))) (sRet (mMov 3)))) (sNx)) (sSeq (sPut 0 (mC (.int 4)) (mOp addD (mSub 0 (mC (.int 4))) (mC (.int 1)))) (sSeq (sPut 0 (mC (.int 3)) (mOp modD (mOp addD (mOp addD (mOp powD (mSub 0 (mC (.int 3))) (mC (.int 3))) (mOp repD (mC (.int 40503)) (mSub 0 (mC (.int 4))))) (mC (.int 17))) (mC (.int 1000000007)))) (sRet (mOp modD (mOp divD (mSub 0 (mC (.int 3))) (mC (.int 5))) (mVar 1))))))
@[reducible] def f__law_pick : List SD → FR := Fm.runN [0] 4 s__law_pick
theorem ok__law_pick {P : Program} {w : World} {K : PySem.W.Frag} {mg : Str → Option Value} {base : Heap} {cl : String → Addr} {tabs : List (Addr × Str)} {f : Addr} {fd : FuncData} (F : FunD K "_law_pick" "_law_pick" (defArgs t__law_pick) (defBody t__law_pick) (defScope t__law_pick) [] [] f fd) (m_len : mg "len" = none) : FnOk P w K mg base (L2.CX P w) 1 f fd ["_law_draw", "_law_many"] (spF (kx K cl tabs) 2 f__law_pick) :=
  def_okN (k := 0) (A := [0]) (N := ["_law_draw", "_law_many", "_law_cell", "_law_got"]) F sc__law_pick fun cdv Ar outer s0 H E hr => by
    exact (s_cons (s_if (PW.pt (w_and (t_cmp op_lt od_lt (e_sub rfl (pv 0) e_int (fun _ _ => rfl)) (e_var (pv 1)) (nomark _)) (w_one (t_cmp op_lt od_lt (e_sub rfl (pv 0) e_int (fun _ _ => rfl)) (e_callB call_len cd_len rfl m_len (by decide +kernel) (a_cons (e_sub rfl (pv 0) e_int (fun _ _ => rfl)) a_nil)) (nomark _))))) (s_cons (s_set sc__law_pick.nd (i := 2) rfl (by first | exact Or.inl rfl | exact Or.inr rfl) (e_ix rfl (e_sub rfl (pv 0) e_int (fun _ _ => rfl)) (e_sub rfl (pv 0) e_int (fun _ _ => rfl)) (fun _ _ => rfl))) (s_cons (s_put (pv 0) e_int (e_op op_addX od_add (e_sub rfl (pv 0) e_int (fun _ _ => rfl)) e_int)) (s_cons (s_put (pv 0) e_int e_int) (s_one (s_if (t_cmp op_ge od_ge (e_var (pv 2)) (e_op op_pow od_pow e_int e_int) (nomark _)) (s_one (s_put (pv 0) e_int (e_var (pv 2)))) (s_one (s_put (pv 0) e_int (e_op op_modN od_mod (e_op op_addX od_add (e_sub rfl (pv 0) e_int (fun _ _ => rfl)) (e_var (pv 2))) e_int)))))))) s_nil) (s_cons (s_if (t_cmp op_ge od_ge (e_sub rfl (pv 0) e_int (fun _ _ => rfl)) (e_var (pv 1)) (nomark _)) (s_cons (s_set sc__law_pick.nd (i := 3) rfl (by first | exact Or.inl rfl | exact Or.inr rfl) (e_op op_modN od_mod (e_sub rfl (pv 0) e_int (fun _ _ => rfl)) (e_var (pv 1)))) (s_cons (s_put (pv 0) e_int (e_op op_divX od_div (e_sub rfl (pv 0) e_int (fun _ _ => rfl)) (e_var (pv 1)))) (s_one (s_ret (e_mov (pv 3)))))) s_nil) (s_cons (s_put (pv 0) e_int (e_op op_addX od_add (e_sub rfl (pv 0) e_int (fun _ _ => rfl)) e_int)) (s_cons (s_put (pv 0) e_int (e_op op_modN od_mod (e_op op_addX od_add (e_op op_addX od_add (e_op op_pow od_pow (e_sub rfl (pv 0) e_int (fun _ _ => rfl)) e_int) (e_op op_mulX od_rep e_int (e_sub rfl (pv 0) e_int (fun _ _ => rfl)))) e_int) e_int)) (s_one (s_ret (e_op op_modN od_mod (e_op op_divX od_div (e_sub rfl (pv 0) e_int (fun _ _ => rfl)) e_int) (e_var (pv 1)))))))))
abbrev t__law_one : Stmt := top 18
theorem sc__law_one : FnScope ["_law_draw", "_law_some"] ["_law_draw", "_law_some"] (defScope t__law_one) := ⟨rfl, rfl, rfl, by decide +kernel, rfl, by decide +kernel, by decide +kernel⟩
@[reducible] def s__law_one : S := sRet (mSub 1 (mCall f__law_pick [] (aSl 0 (aVa (mCB lenD (mCons (mVar 1) (mNil))) (aNil)))))
@[reducible] def f__law_one : List SD → FR := Fm.runN [0] 2 s__law_one
theorem ok__law_one {P : Program} {w : World} {K : PySem.W.Frag} {mg : Str → Option Value} {base : Heap} {cl : String → Addr} {tabs : List (Addr × Str)} {f : Addr} {fd : FuncData} (F : FunD K "_law_one" "_law_one" (defArgs t__law_one) (defBody t__law_one) (defScope t__law_one) [] [] f fd) (m_len : mg "len" = none) {a__law_pick : Addr} {d__law_pick : FuncData} (C__law_pick : Callee P w K mg base (kx K cl tabs) "_law_pick" 1 ["_law_draw", "_law_many"] f__law_pick a__law_pick d__law_pick) (B__law_pick : Binds K d__law_pick ["_law_draw", "_law_many"] []) : FnOk P w K mg base (L2.CX P w) 2 f fd ["_law_draw", "_law_some"] (spF (kx K cl tabs) 2 f__law_one) :=
  def_okN (k := 1) (A := [0]) (N := ["_law_draw", "_law_some"]) F sc__law_one fun cdv Ar outer s0 H E hr => by
    exact (s_one (s_ret (e_sub rfl (pv 1) (e_callC C__law_pick B__law_pick hr (show 1 ≤ 1 from by decide) rfl (passW_of (takes_of rfl rfl rfl rfl)) (ar_sl (pv 0) (ar_va (e_callB call_len cd_len rfl m_len (by decide +kernel) (a_cons (e_var (pv 1)) a_nil)) ar_nil)) (alen_sl (alen_va alen_nil))) (fun _ _ => rfl))))
abbrev t__law_begin : Stmt := top 19
theorem sc__law_begin : FnScope ["_law_script"] ["_law_script"] (defScope t__law_begin) := ⟨rfl, rfl, rfl, by decide +kernel, rfl, by decide +kernel, by decide +kernel⟩
@[reducible] def s__law_begin : S := sRet (mLst (mCons (mCB listD (mCons (mSl (mVar 0) (mPN) (mPS (mC (.int 63)))) (mNil))) (mCons (mC (.int 0)) (mCons (mC (.int 0)) (mCons (mC (.int 1)) (mCons (mC (.int 0)) (mNil)))))))
@[reducible] def f__law_begin : List SD → FR := Fm.runN [] 1 s__law_begin
theorem ok__law_begin {P : Program} {w : World} {K : PySem.W.Frag} {mg : Str → Option Value} {base : Heap} {cl : String → Addr} {tabs : List (Addr × Str)} {f : Addr} {fd : FuncData} (F : FunD K "_law_begin" "_law_begin" (defArgs t__law_begin) (defBody t__law_begin) (defScope t__law_begin) [] [] f fd) (m_list : mg "list" = none) : FnOk P w K mg base (L2.CX P w) 1 f fd ["_law_script"] (spF (kx K cl tabs) 1 f__law_begin) :=
  def_okN (k := 0) (A := []) (N := ["_law_script"]) F sc__law_begin fun cdv Ar outer s0 H E hr => by
    exact (s_one (s_ret (e_lst (a_cons (e_callTy call_list_of cd_list rfl m_list (by decide +kernel) (a_cons (e_slice rfl (e_var (pv 0)) o_none (o_some e_int)) a_nil)) (a_cons e_int (a_cons e_int (a_cons e_int (a_cons e_int a_nil))))))))
abbrev t__law_walk_words : Stmt := top 20
theorem sc__law_walk_words : FnScope ["_law_rounds", "_law_found", "_law_count", "_law_steps", "_law_words", "_law_name", "_law_shift", "_law_number"] ["_law_rounds"] (defScope t__law_walk_words) := ⟨rfl, rfl, rfl, by decide +kernel, rfl, by decide +kernel, by decide +kernel⟩
@[reducible] def s__law_walk_words : S := sSeq (sIf (mTst (mOp eqD (mVar 0) (mLst (mNil)))) (sRet (mC (.str "stay"))) (sNx)) (sSeq (sSet 1 (mLst (mNil))) (sSeq (sFor (iSeq (mVar 0)) (gSq 2 (gCo (gN 2) (gCo (gN 3) (gNi)))) (sSeq (sSet 4 (mLc (iSeq (mVar 3)) [5, 6] (gSq 2 (gCo (gN 5) (gCo (gN 6) (gNi)))) (M.ret true) (mM1 joinG (mC (.str " ")) (mOp addD (mLst (mCons (mVar 5) (mNil))) (mLc (iSeq (mVar 6)) [7] (gN 7) (M.ret true) (mCB strD (mCons (mVar 7) (mNil)))))))) (sDrop (mApp 1 (mCons (mOp addD (mOp addD (mCB strD (mCons (mVar 2) (mNil))) (mC (.str ": "))) (mM1 joinG (mC (.str ", ")) (mVar 4))) (mNil)))))) (sRet (mM1 joinG (mC (.str "; ")) (mVar 1)))))
@[reducible] def f__law_walk_words : List SD → FR := Fm.runN [] 8 s__law_walk_words
theorem ok__law_walk_words {P : Program} {w : World} {K : PySem.W.Frag} {mg : Str → Option Value} {base : Heap} {cl : String → Addr} {tabs : List (Addr × Str)} {f : Addr} {fd : FuncData} (F : FunD K "_law_walk_words" "_law_walk_words" (defArgs t__law_walk_words) (defBody t__law_walk_words) (defScope t__law_walk_words) [] [] f fd) (m_str : mg "str" = none) : FnOk P w K mg base (L2.CX P w) 1 f fd ["_law_rounds"] (spF (kx K cl tabs) 1 f__law_walk_words) :=
  def_okN (k := 0) (A := []) (N := ["_law_rounds", "_law_found", "_law_count", "_law_steps", "_law_words", "_law_name", "_law_shift", "_law_number"]) F sc__law_walk_words fun cdv Ar outer s0 H E hr => by
    exact (s_cons (s_if (t_cmp (op_eqD hr.units) od_eq (e_var (pv 0)) (e_lst a_nil) (nomark _)) (s_one (s_ret e_str)) s_nil) (s_cons (s_set sc__law_walk_words.nd (i := 1) rfl (by first | exact Or.inl rfl | exact Or.inr rfl) (e_lst a_nil)) (s_cons (s_for (vs := [2, 3]) (passes_of rfl) rfl (i_seq rfl (e_var (pv 0))) (g_seq (n := 2) rfl rfl (gs_cons (g_name (pg_name sc__law_walk_words.nd (i := 2) rfl (by first | exact Or.inl rfl | exact Or.inr rfl))) (gs_cons (g_name (pg_name sc__law_walk_words.nd (i := 3) rfl (by first | exact Or.inl rfl | exact Or.inr rfl))) gs_nil))) (s_cons (s_setLc (A := []) (own := [("_law_name", 5), ("_law_shift", 6)]) (i := 4) rfl sc__law_walk_words.nd rfl rfl rfl (i_seq rfl (e_var (pv 3))) (blkOk_by (by kernel_rfl)) (fun _ _ _ _ _ => (g_seq (n := 2) rfl rfl (gs_cons (g_name (pg_name sc__law_walk_words.nd (i := 5) rfl (by first | exact Or.inl rfl | exact Or.inr rfl))) (gs_cons (g_name (pg_name sc__law_walk_words.nd (i := 6) rfl (by first | exact Or.inl rfl | exact Or.inr rfl))) gs_nil)))) (fun _ _ _ _ _ => ts_nil) (fun _ _ _ _ _ => (e_join rfl e_str (e_op op_addX od_add (e_lst (a_cons (e_var (pv 5)) a_nil)) (e_lc (A := []) (own := [("_law_number", 7)]) rfl sc__law_walk_words.nd (i_seq rfl (e_var (pv 6))) (blkOk_by (by kernel_rfl)) (fun _ _ _ _ _ => (g_name (pg_name sc__law_walk_words.nd (i := 7) rfl (by first | exact Or.inl rfl | exact Or.inr rfl)))) (fun _ _ _ _ _ => ts_nil) (fun _ _ _ _ _ => (e_callTy call_str_int cd_str rfl m_str (by decide +kernel) (a_cons (e_var (pv 7)) a_nil)))))))) (s_one (s_expr (e_app rfl (pv 1) (a_cons (e_op op_addX od_add (e_op op_addX od_add (e_callTy call_str_int cd_str rfl m_str (by decide +kernel) (a_cons (e_var (pv 2)) a_nil)) e_str) (e_join rfl e_str (e_var (pv 4)))) a_nil)))))) (s_one (s_ret (e_join rfl e_str (e_var (pv 1))))))))
abbrev t__law_names : Stmt := top 21
theorem sc__law_names : FnScope ["_law_draw", "_law_many", "_law_letters", "_law_word", "_law_at", "_law_first", "_law_step", "_law_signs", "_law_k", "_law_sign"] ["_law_draw", "_law_many"] (defScope t__law_names) := ⟨rfl, rfl, rfl, by decide +kernel, rfl, by decide +kernel, by decide +kernel⟩
@[reducible] def s__law_names : S := sSeq (sSet 2 (mC (.str "abcdefghijklmnopqrstuvwxyz"))) (sSeq (sSet 3 (mM1 joinG (mC (.str "")) (mLc (iRg1 (mCons (mCall f__law_pick [] (aSl 0 (aVa (mC (.int 6)) (aNil)))) (mNil))) [8] (gN 8) (M.ret true) (mCall f__law_one [] (aSl 0 (aVa (mVar 2) (aNil))))))) (sSeq (sSet 4 (mCall f__law_pick [] (aSl 0 (aVa (mOp addD (mCB lenD (mCons (mVar 3) (mNil))) (mC (.int 1))) (aNil))))) (sSeq (sSet 5 (mCall f__law_pick [] (aSl 0 (aVa (mC (.int 26)) (aNil))))) (sSeq (sSet 6 (mOp ixD (mTup (mCons (mC (.int 1)) (mCons (mC (.int 3)) (mCons (mC (.int 5)) (mCons (mC (.int 7)) (mCons (mC (.int 11)) (mCons (mC (.int 25)) (mNil)))))))) (mCall f__law_pick [] (aSl 0 (aVa (mC (.int 6)) (aNil)))))) (sSeq (sSet 7 (mLc (iRg1 (mCons (mVar 1) (mNil))) [8] (gN 8) (M.ret true) (mSub 2 (mOp modD (mOp addD (mVar 5) (mOp repD (mVar 6) (mVar 8))) (mC (.int 26)))))) (sRet (mLc (iSeq (mVar 7)) [9] (gN 9) (M.ret true) (mOp addD (mOp addD (mSl (mVar 3) (mPN) (mPS (mVar 4))) (mVar 9)) (mSl (mVar 3) (mPS (mVar 4)) (mPN))))))))))
@[reducible] def f__law_names : List SD → FR := Fm.runN [0] 10 s__law_names
theorem ok__law_names {P : Program} {w : World} {K : PySem.W.Frag} {mg : Str → Option Value} {base : Heap} {cl : String → Addr} {tabs : List (Addr × Str)} {f : Addr} {fd : FuncData} (F : FunD K "_law_names" "_law_names" (defArgs t__law_names) (defBody t__law_names) (defScope t__law_names) [] [] f fd) (m_len : mg "len" = none) (m_range : mg "range" = none) {a__law_pick : Addr} {d__law_pick : FuncData} (C__law_pick : Callee P w K mg base (kx K cl tabs) "_law_pick" 1 ["_law_draw", "_law_many"] f__law_pick a__law_pick d__law_pick) (B__law_pick : Binds K d__law_pick ["_law_draw", "_law_many"] []) {a__law_one : Addr} {d__law_one : FuncData} (C__law_one : Callee P w K mg base (kx K cl tabs) "_law_one" 2 ["_law_draw", "_law_some"] f__law_one a__law_one d__law_one) (B__law_one : Binds K d__law_one ["_law_draw", "_law_some"] []) : FnOk P w K mg base (L2.CX P w) 3 f fd ["_law_draw", "_law_many"] (spF (kx K cl tabs) 2 f__law_names) :=
  def_okN (k := 2) (A := [0]) (N := ["_law_draw", "_law_many", "_law_letters", "_law_word", "_law_at", "_law_first", "_law_step", "_law_signs", "_law_k", "_law_sign"]) F sc__law_names fun cdv Ar outer s0 H E hr => by
    exact (s_cons (s_set sc__law_names.nd (i := 2) rfl (by first | exact Or.inl rfl | exact Or.inr rfl) e_str) (s_cons (s_set sc__law_names.nd (i := 3) rfl (by first | exact Or.inl rfl | exact Or.inr rfl) (e_join rfl e_str (e_lc (A := []) (own := [("_law_k", 8)]) rfl sc__law_names.nd (i_rng1 rfl m_range (a_cons (e_callC C__law_pick B__law_pick hr (show 1 ≤ 2 from by decide) rfl (passW_of (takes_of rfl rfl rfl rfl)) (ar_sl (pv 0) (ar_va e_int ar_nil)) (alen_sl (alen_va alen_nil))) a_nil)) (blkOk_by (by kernel_rfl)) (fun _ _ _ _ _ => (g_name (pg_name sc__law_names.nd (i := 8) rfl (by first | exact Or.inl rfl | exact Or.inr rfl)))) (fun _ _ _ _ _ => ts_nil) (fun _ _ _ _ _ => (e_callC C__law_one B__law_one hr (show 2 ≤ 2 from by decide) rfl passW_no (ar_sl (pv 0) (ar_va (e_var (pv 2)) ar_nil)) (alen_sl (alen_va alen_nil))))))) (s_cons (s_set sc__law_names.nd (i := 4) rfl (by first | exact Or.inl rfl | exact Or.inr rfl) (e_callC C__law_pick B__law_pick hr (show 1 ≤ 2 from by decide) rfl (passW_of (takes_of rfl rfl rfl rfl)) (ar_sl (pv 0) (ar_va (e_op op_addX od_add (e_callB call_len cd_len rfl m_len (by decide +kernel) (a_cons (e_var (pv 3)) a_nil)) e_int) ar_nil)) (alen_sl (alen_va alen_nil)))) (s_cons (s_set sc__law_names.nd (i := 5) rfl (by first | exact Or.inl rfl | exact Or.inr rfl) (e_callC C__law_pick B__law_pick hr (show 1 ≤ 2 from by decide) rfl (passW_of (takes_of rfl rfl rfl rfl)) (ar_sl (pv 0) (ar_va e_int ar_nil)) (alen_sl (alen_va alen_nil)))) (s_cons (s_set sc__law_names.nd (i := 6) rfl (by first | exact Or.inl rfl | exact Or.inr rfl) (e_ix rfl (e_tup (a_cons e_int (a_cons e_int (a_cons e_int (a_cons e_int (a_cons e_int (a_cons e_int a_nil))))))) (e_callC C__law_pick B__law_pick hr (show 1 ≤ 2 from by decide) rfl (passW_of (takes_of rfl rfl rfl rfl)) (ar_sl (pv 0) (ar_va e_int ar_nil)) (alen_sl (alen_va alen_nil))) (fun _ _ => rfl))) (s_cons (s_setLc (A := [0]) (own := [("_law_k", 8)]) (i := 7) rfl sc__law_names.nd rfl rfl rfl (i_rng1 rfl m_range (a_cons (e_var (pv 1)) a_nil)) (blkOk_by (by kernel_rfl)) (fun _ _ _ _ _ => (g_name (pg_name sc__law_names.nd (i := 8) rfl (by first | exact Or.inl rfl | exact Or.inr rfl)))) (fun _ _ _ _ _ => ts_nil) (fun _ _ _ _ _ => (e_sub rfl (pv 2) (e_op op_modN od_mod (e_op op_addX od_add (e_var (pv 5)) (e_op op_mulX od_rep (e_var (pv 6)) (e_var (pv 8)))) e_int) (fun _ _ => rfl)))) (s_one (s_ret (e_lc (A := []) (own := [("_law_sign", 9)]) rfl sc__law_names.nd (i_seq rfl (e_var (pv 7))) (blkOk_by (by kernel_rfl)) (fun _ _ _ _ _ => (g_name (pg_name sc__law_names.nd (i := 9) rfl (by first | exact Or.inl rfl | exact Or.inr rfl)))) (fun _ _ _ _ _ => ts_nil) (fun _ _ _ _ _ => (e_op op_addX od_add (e_op op_addX od_add (e_slice rfl (e_var (pv 3)) o_none (o_some (e_var (pv 4)))) (e_var (pv 9))) (e_slice rfl (e_var (pv 3)) (o_some (e_var (pv 4))) o_none))))))))))))
abbrev t__law_numbers : Stmt := top 22
theorem sc__law_numbers : FnScope ["_law_draw", "_law_ways", "_law_limit", "_law_k"] ["_law_draw", "_law_ways", "_law_limit"] (defScope t__law_numbers) := ⟨rfl, rfl, rfl, by decide +kernel, rfl, by decide +kernel, by decide +kernel⟩
@[reducible] def s__law_numbers : S := sRet (mCB tupD (mCons (mLc (iRg1 (mCons (mVar 1) (mNil))) [3] (gN 3) (M.ret true) (mOp subD (mCall f__law_pick [] (aSl 0 (aVa (mOp addD (mOp repD (mC (.int 2)) (mVar 2)) (mC (.int 1))) (aNil)))) (mVar 2))) (mNil)))
@[reducible] def f__law_numbers : List SD → FR := Fm.runN [0] 4 s__law_numbers
theorem ok__law_numbers {P : Program} {w : World} {K : PySem.W.Frag} {mg : Str → Option Value} {base : Heap} {cl : String → Addr} {tabs : List (Addr × Str)} {f : Addr} {fd : FuncData} (F : FunD K "_law_numbers" "_law_numbers" (defArgs t__law_numbers) (defBody t__law_numbers) (defScope t__law_numbers) [] [] f fd) (m_range : mg "range" = none) (m_tuple : mg "tuple" = none) {a__law_pick : Addr} {d__law_pick : FuncData} (C__law_pick : Callee P w K mg base (kx K cl tabs) "_law_pick" 1 ["_law_draw", "_law_many"] f__law_pick a__law_pick d__law_pick) (B__law_pick : Binds K d__law_pick ["_law_draw", "_law_many"] []) : FnOk P w K mg base (L2.CX P w) 2 f fd ["_law_draw", "_law_ways", "_law_limit"] (spF (kx K cl tabs) 3 f__law_numbers) :=
  def_okN (k := 1) (A := [0]) (N := ["_law_draw", "_law_ways", "_law_limit", "_law_k"]) F sc__law_numbers fun cdv Ar outer s0 H E hr => by
    exact (s_one (s_ret (e_callTy call_tuple_of cd_tup rfl m_tuple (by decide +kernel) (a_cons (e_lc (A := []) (own := [("_law_k", 3)]) rfl sc__law_numbers.nd (i_rng1 rfl m_range (a_cons (e_var (pv 1)) a_nil)) (blkOk_by (by kernel_rfl)) (fun _ _ _ _ _ => (g_name (pg_name sc__law_numbers.nd (i := 3) rfl (by first | exact Or.inl rfl | exact Or.inr rfl)))) (fun _ _ _ _ _ => ts_nil) (fun _ _ _ _ _ => (e_op op_sub od_sub (e_callC C__law_pick B__law_pick hr (show 1 ≤ 1 from by decide) rfl passW_no (ar_sl (pv 0) (ar_va (e_op op_addX od_add (e_op op_mulX od_rep e_int (e_var (pv 2))) e_int) ar_nil)) (alen_sl (alen_va alen_nil))) (e_var (pv 2))))) a_nil))))
abbrev t__law_drawn_rounds : Stmt := top 23
theorem sc__law_drawn_rounds : FnScope ["_law_draw", "_law_rounds", "_law_ways", "_law_names_here", "_law_k", "_law_steps", "_law_at"] ["_law_draw"] (defScope t__law_drawn_rounds) := ⟨rfl, rfl, rfl, by decide +kernel, rfl, by decide +kernel, by decide +kernel⟩
@[reducible] def s__law_drawn_rounds : S := sSeq (sSet 1 (mLst (mNil))) (sSeq (sSet 2 (mCall f__law_pick [] (aSl 0 (aVa (mC (.int 4)) (aNil))))) (sSeq (sSet 3 (mCall f__law_names [] (aSl 0 (aVa (mC (.int 3)) (aNil))))) (sSeq (sFor (iRg1 (mCons (mCall f__law_pick [] (aSl 0 (aVa (mC (.int 6)) (aNil)))) (mNil))) (gN 4) (sSeq (sSet 5 (mLst (mNil))) (sSeq (sFor (iRg1 (mCons (mOp addD (mC (.int 1)) (mCall f__law_pick [] (aSl 0 (aVa (mC (.int 5)) (aNil))))) (mNil))) (gN 6) (sDrop (mApp 5 (mCons (mTup (mCons (mCall f__law_one [] (aSl 0 (aVa (mVar 3) (aNil)))) (mCons (mCall f__law_numbers [] (aSl 0 (aVa (mVar 2) (aVa (mOp ixD (mTup (mCons (mC (.int 2)) (mCons (mOp powD (mC (.int 10)) (mC (.int 6))) (mNil)))) (mCall f__law_pick [] (aSl 0 (aVa (mC (.int 2)) (aNil))))) (aNil))))) (mNil)))) (mNil))))) (sDrop (mApp 1 (mCons (mTup (mCons (mOp addD (mC (.int 1)) (mCall f__law_pick [] (aSl 0 (aVa (mOp ixD (mTup (mCons (mC (.int 3)) (mCons (mOp powD (mC (.int 10)) (mC (.int 6))) (mCons (mOp powD (mC (.int 10)) (mC (.int 29))) (mNil))))) (mCall f__law_pick [] (aSl 0 (aVa (mC (.int 3)) (aNil))))) (aNil))))) (mCons (mCB tupD (mCons (mVar 5) (mNil))) (mNil)))) (mNil))))))) (sRet (mMov 1)))))
@[reducible] def f__law_drawn_rounds : List SD → FR := Fm.runN [0] 7 s__law_drawn_rounds
theorem ok__law_drawn_rounds {P : Program} {w : World} {K : PySem.W.Frag} {mg : Str → Option Value} {base : Heap} {cl : String → Addr} {tabs : List (Addr × Str)} {f : Addr} {fd : FuncData} (F : FunD K "_law_drawn_rounds" "_law_drawn_rounds" (defArgs t__law_drawn_rounds) (defBody t__law_drawn_rounds) (defScope t__law_drawn_rounds) [] [] f fd) (m_range : mg "range" = none) (m_tuple : mg "tuple" = none) {a__law_pick : Addr} {d__law_pick : FuncData} (C__law_pick : Callee P w K mg base (kx K cl tabs) "_law_pick" 1 ["_law_draw", "_law_many"] f__law_pick a__law_pick d__law_pick) (B__law_pick : Binds K d__law_pick ["_law_draw", "_law_many"] []) {a__law_one : Addr} {d__law_one : FuncData} (C__law_one : Callee P w K mg base (kx K cl tabs) "_law_one" 2 ["_law_draw", "_law_some"] f__law_one a__law_one d__law_one) (B__law_one : Binds K d__law_one ["_law_draw", "_law_some"] []) {a__law_names : Addr} {d__law_names : FuncData} (C__law_names : Callee P w K mg base (kx K cl tabs) "_law_names" 3 ["_law_draw", "_law_many"] f__law_names a__law_names d__law_names) (B__law_names : Binds K d__law_names ["_law_draw", "_law_many"] []) {a__law_numbers : Addr} {d__law_numbers : FuncData} (C__law_numbers : Callee P w K mg base (kx K cl tabs) "_law_numbers" 2 ["_law_draw", "_law_ways", "_law_limit"] f__law_numbers a__law_numbers d__law_numbers) (B__law_numbers : Binds K d__law_numbers ["_law_draw", "_law_ways", "_law_limit"] []) : FnOk P w K mg base (L2.CX P w) 4 f fd ["_law_draw"] (spF (kx K cl tabs) 1 f__law_drawn_rounds) :=
  def_okN (k := 3) (A := [0]) (N := ["_law_draw", "_law_rounds", "_law_ways", "_law_names_here", "_law_k", "_law_steps", "_law_at"]) F sc__law_drawn_rounds fun cdv Ar outer s0 H E hr => by
    exact (s_cons (s_set sc__law_drawn_rounds.nd (i := 1) rfl (by first | exact Or.inl rfl | exact Or.inr rfl) (e_lst a_nil)) (s_cons (s_set sc__law_drawn_rounds.nd (i := 2) rfl (by first | exact Or.inl rfl | exact Or.inr rfl) (e_callC C__law_pick B__law_pick hr (show 1 ≤ 3 from by decide) rfl (passW_of (takes_of rfl rfl rfl rfl)) (ar_sl (pv 0) (ar_va e_int ar_nil)) (alen_sl (alen_va alen_nil)))) (s_cons (s_set sc__law_drawn_rounds.nd (i := 3) rfl (by first | exact Or.inl rfl | exact Or.inr rfl) (e_callC C__law_names B__law_names hr (show 3 ≤ 3 from by decide) rfl (passW_of (takes_of rfl rfl rfl rfl)) (ar_sl (pv 0) (ar_va e_int ar_nil)) (alen_sl (alen_va alen_nil)))) (s_cons (s_for (vs := [4]) (passes_of rfl) rfl (i_rng1 rfl m_range (a_cons (e_callC C__law_pick B__law_pick hr (show 1 ≤ 3 from by decide) rfl (passW_of (takes_of rfl rfl rfl rfl)) (ar_sl (pv 0) (ar_va e_int ar_nil)) (alen_sl (alen_va alen_nil))) a_nil)) (g_name (pg_name sc__law_drawn_rounds.nd (i := 4) rfl (by first | exact Or.inl rfl | exact Or.inr rfl))) (s_cons (s_set sc__law_drawn_rounds.nd (i := 5) rfl (by first | exact Or.inl rfl | exact Or.inr rfl) (e_lst a_nil)) (s_cons (s_for (vs := [6]) (passes_of rfl) rfl (i_rng1 rfl m_range (a_cons (e_op op_addX od_add e_int (e_callC C__law_pick B__law_pick hr (show 1 ≤ 3 from by decide) rfl (passW_of (takes_of rfl rfl rfl rfl)) (ar_sl (pv 0) (ar_va e_int ar_nil)) (alen_sl (alen_va alen_nil)))) a_nil)) (g_name (pg_name sc__law_drawn_rounds.nd (i := 6) rfl (by first | exact Or.inl rfl | exact Or.inr rfl))) (s_one (s_expr (e_app rfl (pv 5) (a_cons (e_tup (a_cons (e_callC C__law_one B__law_one hr (show 2 ≤ 3 from by decide) rfl (passW_of (takes_of rfl rfl rfl rfl)) (ar_sl (pv 0) (ar_va (e_var (pv 3)) ar_nil)) (alen_sl (alen_va alen_nil))) (a_cons (e_callC C__law_numbers B__law_numbers hr (show 2 ≤ 3 from by decide) rfl (passW_of (takes_of rfl rfl rfl rfl)) (ar_sl (pv 0) (ar_va (e_var (pv 2)) (ar_va (e_ix rfl (e_tup (a_cons e_int (a_cons (e_op op_pow od_pow e_int e_int) a_nil))) (e_callC C__law_pick B__law_pick hr (show 1 ≤ 3 from by decide) rfl (passW_of (takes_of rfl rfl rfl rfl)) (ar_sl (pv 0) (ar_va e_int ar_nil)) (alen_sl (alen_va alen_nil))) (fun _ _ => rfl)) ar_nil))) (alen_sl (alen_va (alen_va alen_nil)))) a_nil))) a_nil))))) (s_one (s_expr (e_app rfl (pv 1) (a_cons (e_tup (a_cons (e_op op_addX od_add e_int (e_callC C__law_pick B__law_pick hr (show 1 ≤ 3 from by decide) rfl (passW_of (takes_of rfl rfl rfl rfl)) (ar_sl (pv 0) (ar_va (e_ix rfl (e_tup (a_cons e_int (a_cons (e_op op_pow od_pow e_int e_int) (a_cons (e_op op_pow od_pow e_int e_int) a_nil)))) (e_callC C__law_pick B__law_pick hr (show 1 ≤ 3 from by decide) rfl (passW_of (takes_of rfl rfl rfl rfl)) (ar_sl (pv 0) (ar_va e_int ar_nil)) (alen_sl (alen_va alen_nil))) (fun _ _ => rfl)) ar_nil)) (alen_sl (alen_va alen_nil)))) (a_cons (e_callTy call_tuple_of cd_tup rfl m_tuple (by decide +kernel) (a_cons (e_var (pv 5)) a_nil)) a_nil))) a_nil))))))) (s_one (s_ret (e_mov (pv 1))))))))
abbrev t__law_number_in : Stmt := top 24
theorem sc__law_number_in : FnScope ["_law_word", "_law_figures", "_law_bare", "_law_sign"] ["_law_word", "_law_figures"] (defScope t__law_number_in) := ⟨rfl, rfl, rfl, by decide +kernel, rfl, by decide +kernel, by decide +kernel⟩
@[reducible] def s__law_number_in : S := sSeq (sSet 2 (mIfE (mTst (mOp eqD (mSl (mVar 0) (mPN) (mPS (mC (.int 1)))) (mC (.str "-")))) (mSl (mVar 0) (mPS (mC (.int 1))) (mPN)) (mVar 0))) (sSeq (sIf (mOr (mTst (mOp eqD (mVar 2) (mC (.str "")))) (mOr (mTst (mOp gtD (mCB lenD (mCons (mVar 2) (mNil))) (mVar 1))) (mNot (mTst (mCB allD (mCons (mLc (iSeq (mVar 2)) [3] (gN 3) (M.ret true) (mOp inD (mVar 3) (mC (.str "0123456789")))) (mNil))))))) (sRet (mC .non)) (sNx)) (sRet (mIfE (mAnd (mTst (mOp eqD (mSub 2 (mC (.int 0))) (mC (.str "0")))) (mTst (mOp neD (mVar 0) (mC (.str "0"))))) (mC .non) (mCB intSD (mCons (mVar 0) (mNil))))))
@[reducible] def f__law_number_in : List SD → FR := Fm.runN [] 4 s__law_number_in
theorem ok__law_number_in {P : Program} {w : World} {K : PySem.W.Frag} {mg : Str → Option Value} {base : Heap} {cl : String → Addr} {tabs : List (Addr × Str)} {f : Addr} {fd : FuncData} (F : FunD K "_law_number_in" "_law_number_in" (defArgs t__law_number_in) (defBody t__law_number_in) (defScope t__law_number_in) [] [] f fd) (m_all : mg "all" = none) (m_int : mg "int" = none) (m_len : mg "len" = none) : FnOk P w K mg base (L2.CX P w) 1 f fd ["_law_word", "_law_figures"] (spF (kx K cl tabs) 2 f__law_number_in) :=
  def_okN (k := 0) (A := []) (N := ["_law_word", "_law_figures", "_law_bare", "_law_sign"]) F sc__law_number_in fun cdv Ar outer s0 H E hr => by
    exact (s_cons (s_set sc__law_number_in.nd (i := 2) rfl (by first | exact Or.inl rfl | exact Or.inr rfl) (e_ife (t_cmp (op_eqD hr.units) od_eq (e_slice rfl (e_var (pv 0)) o_none (o_some e_int)) e_str (nomark _)) (e_slice rfl (e_var (pv 0)) (o_some e_int) o_none) (e_var (pv 0)))) (s_cons (s_if (PW.pt (w_or (t_cmp (op_eqD hr.units) od_eq (e_var (pv 2)) e_str (nomark _)) (w_or (t_cmp op_gt od_gt (e_callB call_len cd_len rfl m_len (by decide +kernel) (a_cons (e_var (pv 2)) a_nil)) (e_var (pv 1)) (nomark _)) (w_one (t_not (t_val (e_callB (cr_all rfl) cd_all rfl m_all (by decide +kernel) (a_cons (e_lc (A := []) (own := [("_law_sign", 3)]) rfl sc__law_number_in.nd (i_seq rfl (e_var (pv 2))) (blkOk_by (by kernel_rfl)) (fun _ _ _ _ _ => (g_name (pg_name sc__law_number_in.nd (i := 3) rfl (by first | exact Or.inl rfl | exact Or.inr rfl)))) (fun _ _ _ _ _ => ts_nil) (fun _ _ _ _ _ => (e_cmp (op_in2 (room65 hr)) od_in (e_var (pv 3)) e_str rfl))) a_nil)))))))) (s_one (s_ret e_non)) s_nil) (s_one (s_ret (e_ife (PW.pt (w_and (t_cmp (op_eqD hr.units) od_eq (e_sub rfl (pv 2) e_int (fun _ _ => rfl)) e_str (nomark _)) (w_one (t_cmp (op_neD hr.units) od_ne (e_var (pv 0)) e_str (nomark _))))) e_non (e_callTy call_intSX cd_intS rfl m_int (by decide +kernel) (a_cons (e_var (pv 0)) a_nil)))))))
abbrev t__law_is_name : Stmt := top 25
theorem sc__law_is_name : FnScope ["_law_word", "_law_letters", "_law_sign"] ["_law_word"] (defScope t__law_is_name) := ⟨rfl, rfl, rfl, by decide +kernel, rfl, by decide +kernel, by decide +kernel⟩
@[reducible] def s__law_is_name : S := sSeq (sSet 1 (mC (.str "abcdefghijklmnopqrstuvwxyz"))) (sRet (mAndV (mChain ltD ltD (mC (.int 0)) (mCB lenD (mCons (mVar 0) (mNil))) (mC (.int 9))) (mCB allD (mCons (mLc (iSeq (mVar 0)) [2] (gN 2) (M.ret true) (mOp inD (mVar 2) (mVar 1))) (mNil)))))
@[reducible] def f__law_is_name : List SD → FR := Fm.runN [] 3 s__law_is_name
theorem ok__law_is_name {P : Program} {w : World} {K : PySem.W.Frag} {mg : Str → Option Value} {base : Heap} {cl : String → Addr} {tabs : List (Addr × Str)} {f : Addr} {fd : FuncData} (F : FunD K "_law_is_name" "_law_is_name" (defArgs t__law_is_name) (defBody t__law_is_name) (defScope t__law_is_name) [] [] f fd) (m_all : mg "all" = none) (m_len : mg "len" = none) : FnOk P w K mg base (L2.CX P w) 1 f fd ["_law_word"] (spF (kx K cl tabs) 1 f__law_is_name) :=
  def_okN (k := 0) (A := []) (N := ["_law_word", "_law_letters", "_law_sign"]) F sc__law_is_name fun cdv Ar outer s0 H E hr => by
    exact (s_cons (s_set sc__law_is_name.nd (i := 1) rfl (by first | exact Or.inl rfl | exact Or.inr rfl) e_str) (s_one (s_ret (e_and (e_chain op_lt od_lt op_lt od_lt e_int (e_callB call_len cd_len rfl m_len (by decide +kernel) (a_cons (e_var (pv 0)) a_nil)) e_int) (e_one (e_callB (cr_all rfl) cd_all rfl m_all (by decide +kernel) (a_cons (e_lc (A := []) (own := [("_law_sign", 2)]) rfl sc__law_is_name.nd (i_seq rfl (e_var (pv 0))) (blkOk_by (by kernel_rfl)) (fun _ _ _ _ _ => (g_name (pg_name sc__law_is_name.nd (i := 2) rfl (by first | exact Or.inl rfl | exact Or.inr rfl)))) (fun _ _ _ _ _ => ts_nil) (fun _ _ _ _ _ => (e_cmp (op_in2 (room65 hr)) od_in (e_var (pv 2)) (e_var (pv 1)) rfl))) a_nil)))))))
abbrev t__law_step_in : Stmt := top 26
theorem sc__law_step_in : FnScope ["_law_words", "_law_some", "_law_numbers_here", "_law_word"] ["_law_words"] (defScope t__law_step_in) := ⟨rfl, rfl, rfl, by decide +kernel, rfl, by decide +kernel, by decide +kernel⟩
@[reducible] def s__law_step_in : S := sSeq (sSet 1 (mM1 splitG (mVar 0) (mC (.str " ")))) (sSeq (sSet 2 (mLc (iSeq (mSl (mVar 1) (mPS (mC (.int 1))) (mPN))) [3] (gN 3) (M.ret true) (mCall f__law_number_in [] (aVa (mVar 3) (aVa (mC (.int 7)) (aNil)))))) (sSeq (sIf (mOr (mNot (mTst (mCall f__law_is_name [] (aVa (mSub 1 (mC (.int 0))) (aNil))))) (mTst (mOp inD (mC .non) (mVar 2)))) (sRet (mC .non)) (sNx)) (sRet (mTup (mCons (mSub 1 (mC (.int 0))) (mCons (mCB tupD (mCons (mVar 2) (mNil))) (mNil)))))))
@[reducible] def f__law_step_in : List SD → FR := Fm.runN [] 4 s__law_step_in
theorem ok__law_step_in {P : Program} {w : World} {K : PySem.W.Frag} {mg : Str → Option Value} {base : Heap} {cl : String → Addr} {tabs : List (Addr × Str)} {f : Addr} {fd : FuncData} (F : FunD K "_law_step_in" "_law_step_in" (defArgs t__law_step_in) (defBody t__law_step_in) (defScope t__law_step_in) [] [] f fd) (m_tuple : mg "tuple" = none) {a__law_number_in : Addr} {d__law_number_in : FuncData} (C__law_number_in : Callee P w K mg base (kx K cl tabs) "_law_number_in" 1 ["_law_word", "_law_figures"] f__law_number_in a__law_number_in d__law_number_in) (B__law_number_in : Binds K d__law_number_in ["_law_word", "_law_figures"] []) {a__law_is_name : Addr} {d__law_is_name : FuncData} (C__law_is_name : Callee P w K mg base (kx K cl tabs) "_law_is_name" 1 ["_law_word"] f__law_is_name a__law_is_name d__law_is_name) (B__law_is_name : Binds K d__law_is_name ["_law_word"] []) : FnOk P w K mg base (L2.CX P w) 2 f fd ["_law_words"] (spF (kx K cl tabs) 1 f__law_step_in) :=
  def_okN (k := 1) (A := []) (N := ["_law_words", "_law_some", "_law_numbers_here", "_law_word"]) F sc__law_step_in fun cdv Ar outer s0 H E hr => by
    exact (s_cons (s_set sc__law_step_in.nd (i := 1) rfl (by first | exact Or.inl rfl | exact Or.inr rfl) (e_split (e_var (pv 0)) e_str)) (s_cons (s_setLc (A := []) (own := [("_law_word", 3)]) (i := 2) rfl sc__law_step_in.nd rfl rfl rfl (i_seq rfl (e_slice rfl (e_var (pv 1)) (o_some e_int) o_none)) (blkOk_by (by kernel_rfl)) (fun _ _ _ _ _ => (g_name (pg_name sc__law_step_in.nd (i := 3) rfl (by first | exact Or.inl rfl | exact Or.inr rfl)))) (fun _ _ _ _ _ => ts_nil) (fun _ _ _ _ _ => (e_callC C__law_number_in B__law_number_in hr (show 1 ≤ 1 from by decide) rfl passW_no (ar_va (e_var (pv 3)) (ar_va e_int ar_nil)) (alen_va (alen_va alen_nil))))) (s_cons (s_if (PW.pt (w_or (t_not (t_val (e_callC C__law_is_name B__law_is_name hr (show 1 ≤ 1 from by decide) rfl (passW_of (takes_of rfl rfl rfl rfl)) (ar_va (e_sub rfl (pv 1) e_int (fun _ _ => rfl)) ar_nil) (alen_va alen_nil)))) (w_one (t_cmp (op_in2 (room65 hr)) od_in e_non (e_var (pv 2)) rfl)))) (s_one (s_ret e_non)) s_nil) (s_one (s_ret (e_tup (a_cons (e_sub rfl (pv 1) e_int (fun _ _ => rfl)) (a_cons (e_callTy call_tuple_of cd_tup rfl m_tuple (by decide +kernel) (a_cons (e_var (pv 2)) a_nil)) a_nil))))))))
abbrev t__law_walk_in : Stmt := top 27
theorem sc__law_walk_in : FnScope ["_law_words", "_law_rounds", "_law_part", "_law_pieces", "_law_count", "_law_steps", "_law_step"] ["_law_words"] (defScope t__law_walk_in) := ⟨rfl, rfl, rfl, by decide +kernel, rfl, by decide +kernel, by decide +kernel⟩
@[reducible] def s__law_walk_in : S := sSeq (sIf (mTst (mOp eqD (mVar 0) (mC (.str "stay")))) (sRet (mLst (mNil))) (sNx)) (sSeq (sSet 1 (mLst (mNil))) (sSeq (sFor (iSeq (mM1 splitG (mVar 0) (mC (.str "; ")))) (gN 2) (sSeq (sSet 3 (mM1 splitG (mVar 2) (mC (.str ": ")))) (sSeq (sSet 4 (mCall f__law_number_in [] (aVa (mSub 3 (mC (.int 0))) (aVa (mC (.int 30)) (aNil))))) (sSeq (sIf (mOr (mTst (mOp neD (mCB lenD (mCons (mVar 3) (mNil))) (mC (.int 2)))) (mOr (mTst (mOp isnD (mVar 4) (mC .non))) (mTst (mOp ltD (mVar 4) (mC (.int 1)))))) (sRet (mC .non)) (sNx)) (sSeq (sSet 5 (mLc (iSeq (mM1 splitG (mSub 3 (mC (.int 1))) (mC (.str ", ")))) [6] (gN 6) (M.ret true) (mCall f__law_step_in [] (aVa (mVar 6) (aNil))))) (sSeq (sIf (mTst (mOp inD (mC .non) (mVar 5))) (sRet (mC .non)) (sNx)) (sDrop (mApp 1 (mCons (mTup (mCons (mVar 4) (mCons (mCB tupD (mCons (mVar 5) (mNil))) (mNil)))) (mNil)))))))))) (sRet (mMov 1))))
@[reducible] def f__law_walk_in : List SD → FR := Fm.runN [] 7 s__law_walk_in
theorem ok__law_walk_in {P : Program} {w : World} {K : PySem.W.Frag} {mg : Str → Option Value} {base : Heap} {cl : String → Addr} {tabs : List (Addr × Str)} {f : Addr} {fd : FuncData} (F : FunD K "_law_walk_in" "_law_walk_in" (defArgs t__law_walk_in) (defBody t__law_walk_in) (defScope t__law_walk_in) [] [] f fd) (m_len : mg "len" = none) (m_tuple : mg "tuple" = none) {a__law_number_in : Addr} {d__law_number_in : FuncData} (C__law_number_in : Callee P w K mg base (kx K cl tabs) "_law_number_in" 1 ["_law_word", "_law_figures"] f__law_number_in a__law_number_in d__law_number_in) (B__law_number_in : Binds K d__law_number_in ["_law_word", "_law_figures"] []) {a__law_step_in : Addr} {d__law_step_in : FuncData} (C__law_step_in : Callee P w K mg base (kx K cl tabs) "_law_step_in" 2 ["_law_words"] f__law_step_in a__law_step_in d__law_step_in) (B__law_step_in : Binds K d__law_step_in ["_law_words"] []) : FnOk P w K mg base (L2.CX P w) 3 f fd ["_law_words"] (spF (kx K cl tabs) 1 f__law_walk_in) :=
  def_okN (k := 2) (A := []) (N := ["_law_words", "_law_rounds", "_law_part", "_law_pieces", "_law_count", "_law_steps", "_law_step"]) F sc__law_walk_in fun cdv Ar outer s0 H E hr => by
    exact (s_cons (s_if (t_cmp (op_eqD hr.units) od_eq (e_var (pv 0)) e_str (nomark _)) (s_one (s_ret (e_lst a_nil))) s_nil) (s_cons (s_set sc__law_walk_in.nd (i := 1) rfl (by first | exact Or.inl rfl | exact Or.inr rfl) (e_lst a_nil)) (s_cons (s_for (vs := [2]) (passes_of rfl) rfl (i_seq rfl (e_split (e_var (pv 0)) e_str)) (g_name (pg_name sc__law_walk_in.nd (i := 2) rfl (by first | exact Or.inl rfl | exact Or.inr rfl))) (s_cons (s_set sc__law_walk_in.nd (i := 3) rfl (by first | exact Or.inl rfl | exact Or.inr rfl) (e_split (e_var (pv 2)) e_str)) (s_cons (s_set sc__law_walk_in.nd (i := 4) rfl (by first | exact Or.inl rfl | exact Or.inr rfl) (e_callC C__law_number_in B__law_number_in hr (show 1 ≤ 2 from by decide) rfl (passW_of (takes_of rfl rfl rfl rfl)) (ar_va (e_sub rfl (pv 3) e_int (fun _ _ => rfl)) (ar_va e_int ar_nil)) (alen_va (alen_va alen_nil)))) (s_cons (s_if (PW.pt (w_or (t_cmp (op_neD hr.units) od_ne (e_callB call_len cd_len rfl m_len (by decide +kernel) (a_cons (e_var (pv 3)) a_nil)) e_int (nomark _)) (w_or (t_cmp op_isN od_isn (e_var (pv 4)) e_non (nomark _)) (w_one (t_cmp op_lt od_lt (e_var (pv 4)) e_int (nomark _)))))) (s_one (s_ret e_non)) s_nil) (s_cons (s_setLc (A := []) (own := [("_law_step", 6)]) (i := 5) rfl sc__law_walk_in.nd rfl rfl rfl (i_seq rfl (e_split (e_sub rfl (pv 3) e_int (fun _ _ => rfl)) e_str)) (blkOk_by (by kernel_rfl)) (fun _ _ _ _ _ => (g_name (pg_name sc__law_walk_in.nd (i := 6) rfl (by first | exact Or.inl rfl | exact Or.inr rfl)))) (fun _ _ _ _ _ => ts_nil) (fun _ _ _ _ _ => (e_callC C__law_step_in B__law_step_in hr (show 2 ≤ 2 from by decide) rfl passW_no (ar_va (e_var (pv 6)) ar_nil) (alen_va alen_nil)))) (s_cons (s_if (t_cmp (op_in2 (room65 hr)) od_in e_non (e_var (pv 5)) rfl) (s_one (s_ret e_non)) s_nil) (s_one (s_expr (e_app rfl (pv 1) (a_cons (e_tup (a_cons (e_var (pv 4)) (a_cons (e_callTy call_tuple_of cd_tup rfl m_tuple (by decide +kernel) (a_cons (e_var (pv 5)) a_nil)) a_nil))) a_nil)))))))))) (s_one (s_ret (e_mov (pv 1)))))))
abbrev t__law_same : Stmt := top 28
theorem sc__law_same : FnScope ["_law_found", "_law_due", "_law_part", "_law_k"] ["_law_found", "_law_due"] (defScope t__law_same) := ⟨rfl, rfl, rfl, by decide +kernel, rfl, by decide +kernel, by decide +kernel⟩
@[reducible] def s__law_same (f__law_same : List SD → FR) : S := sSeq (sIf (mTst (mOp isnD (mVar 1) (mC .non))) (sRet (mOp isnD (mVar 0) (mC .non))) (sNx)) (sSeq (sIf (mOr (mTst (mCB isiD (mCons (mVar 1) (mCons (mC (.ty "bool")) (mNil))))) (mTst (mCB isiD (mCons (mVar 0) (mCons (mC (.ty "bool")) (mNil)))))) (sRet (mAndV (mCB isiD (mCons (mVar 1) (mCons (mC (.ty "bool")) (mNil)))) (mAndV (mCB isiD (mCons (mVar 0) (mCons (mC (.ty "bool")) (mNil)))) (mOp eqD (mVar 0) (mVar 1))))) (sNx)) (sSeq (sIf (mTst (mCB isitD (mCons (mVar 1) (mCons (mTup (mCons (mC (.ty "int")) (mCons (mC (.ty "str")) (mNil)))) (mNil))))) (sRet (mAndV (mOp eqD (mCB isiD (mCons (mVar 0) (mCons (mC (.ty "int")) (mNil)))) (mCB isiD (mCons (mVar 1) (mCons (mC (.ty "int")) (mNil))))) (mAndV (mCB isitD (mCons (mVar 0) (mCons (mTup (mCons (mC (.ty "int")) (mCons (mC (.ty "str")) (mNil)))) (mNil)))) (mOp eqD (mVar 0) (mVar 1))))) (sNx)) (sSeq (sIf (mOr (mTst (mOp neD (mCB isiD (mCons (mVar 0) (mCons (mC (.ty "list")) (mNil)))) (mCB isiD (mCons (mVar 1) (mCons (mC (.ty "list")) (mNil)))))) (mTst (mOp neD (mCB isiD (mCons (mVar 0) (mCons (mC (.ty "tuple")) (mNil)))) (mCB isiD (mCons (mVar 1) (mCons (mC (.ty "tuple")) (mNil))))))) (sRet (mC (.bl false))) (sNx)) (sSeq (sIf (mTst (mOp neD (mCB isiD (mCons (mVar 0) (mCons (mC (.ty "dict")) (mNil)))) (mCB isiD (mCons (mVar 1) (mCons (mC (.ty "dict")) (mNil)))))) (sRet (mC (.bl false))) (sNx)) (sSeq (sIf (mTst (mCB isiD (mCons (mVar 1) (mCons (mC (.ty "dict")) (mNil))))) (M.no) (sNx)) (sRet (mAndV (mOp eqD (mCB lenD (mCons (mVar 0) (mNil))) (mCB lenD (mCons (mVar 1) (mNil)))) (mCB allD (mCons (mLc (iRg1 (mCons (mCB lenD (mCons (mVar 1) (mNil))) (mNil))) [3] (gN 3) (M.ret true) (mCall f__law_same [] (aVa (mSub 0 (mVar 3)) (aVa (mSub 1 (mVar 3)) (aNil))))) (mNil))))))))))
def f__law_same : Nat → List SD → FR
  | 0 => fun _ => .no
  | n + 1 => Fm.runN [] 4 (s__law_same (f__law_same n))
theorem ok__law_same {P : Program} {w : World} {K : PySem.W.Frag} {mg : Str → Option Value} {base : Heap} {cl : String → Addr} {tabs : List (Addr × Str)} {f : Addr} {fd : FuncData} (F : FunD K "_law_same" "_law_same" (defArgs t__law_same) (defBody t__law_same) (defScope t__law_same) [] [] f fd) (gl : mg "_law_same" = some (.ref f)) (kp : PySem.W.keepIn K (.ref f) = true) (B__law_same : Binds K fd ["_law_found", "_law_due"] []) (m_all : mg "all" = none) (m_bool : mg "bool" = none) (m_dict : mg "dict" = none) (m_int : mg "int" = none) (m_isinstance : mg "isinstance" = none) (m_len : mg "len" = none) (m_list : mg "list" = none) (m_range : mg "range" = none) (m_str : mg "str" = none) (m_tuple : mg "tuple" = none) : ∀ n : Nat, FnOk P w K mg base (L2.CX P w) (n + 1) f fd ["_law_found", "_law_due"] (spF (kx K cl tabs) 2 (f__law_same n))
  | 0 => ⟨fun vs H Q E h => by obtain ⟨_, _, _, _, _, z⟩ := h; exact z.elim, fun _ _ _ _ _ _ vs Q E _ _ _ _ h => by obtain ⟨_, _, _, _, _, z⟩ := h; exact z.elim⟩
  | n + 1 => by
    have C__law_same : Callee P w K mg base (kx K cl tabs) "_law_same" (n + 1) ["_law_found", "_law_due"] (f__law_same n) f fd := ⟨ok__law_same F gl kp B__law_same m_all m_bool m_dict m_int m_isinstance m_len m_list m_range m_str m_tuple n, gl, kp⟩
    exact def_okN (k := n + 1) (A := []) (N := ["_law_found", "_law_due", "_law_part", "_law_k"]) F sc__law_same fun cdv Ar outer s0 H E hr => by
      exact (s_cons (s_if (t_cmp op_isN od_isn (e_var (pv 1)) e_non (nomark _)) (s_one (s_ret (e_cmp op_isN od_isn (e_var (pv 0)) e_non (nomark _)))) s_nil) (s_cons (s_if (PW.pt (w_or (t_val (e_callB call_isi cd_isi rfl m_isinstance (by decide +kernel) (a_cons (e_var (pv 1)) (a_cons (e_ty rfl m_bool (by decide +kernel)) a_nil)))) (w_one (t_val (e_callB call_isi cd_isi rfl m_isinstance (by decide +kernel) (a_cons (e_var (pv 0)) (a_cons (e_ty rfl m_bool (by decide +kernel)) a_nil))))))) (s_one (s_ret (e_and (e_callB call_isi cd_isi rfl m_isinstance (by decide +kernel) (a_cons (e_var (pv 1)) (a_cons (e_ty rfl m_bool (by decide +kernel)) a_nil))) (e_and (e_callB call_isi cd_isi rfl m_isinstance (by decide +kernel) (a_cons (e_var (pv 0)) (a_cons (e_ty rfl m_bool (by decide +kernel)) a_nil))) (e_one (e_cmp (op_eqD hr.units) od_eq (e_var (pv 0)) (e_var (pv 1)) (nomark _))))))) s_nil) (s_cons (s_if (t_val (e_callB op_isiX cd_isit rfl m_isinstance (by decide +kernel) (a_cons (e_var (pv 1)) (a_cons (e_tup (a_cons (e_ty rfl m_int (by decide +kernel)) (a_cons (e_ty rfl m_str (by decide +kernel)) a_nil))) a_nil)))) (s_one (s_ret (e_and (e_cmp (op_eqD hr.units) od_eq (e_callB call_isi cd_isi rfl m_isinstance (by decide +kernel) (a_cons (e_var (pv 0)) (a_cons (e_ty rfl m_int (by decide +kernel)) a_nil))) (e_callB call_isi cd_isi rfl m_isinstance (by decide +kernel) (a_cons (e_var (pv 1)) (a_cons (e_ty rfl m_int (by decide +kernel)) a_nil))) (nomark _)) (e_and (e_callB op_isiX cd_isit rfl m_isinstance (by decide +kernel) (a_cons (e_var (pv 0)) (a_cons (e_tup (a_cons (e_ty rfl m_int (by decide +kernel)) (a_cons (e_ty rfl m_str (by decide +kernel)) a_nil))) a_nil))) (e_one (e_cmp (op_eqD hr.units) od_eq (e_var (pv 0)) (e_var (pv 1)) (nomark _))))))) s_nil) (s_cons (s_if (PW.pt (w_or (t_cmp (op_neD hr.units) od_ne (e_callB call_isi cd_isi rfl m_isinstance (by decide +kernel) (a_cons (e_var (pv 0)) (a_cons (e_ty rfl m_list (by decide +kernel)) a_nil))) (e_callB call_isi cd_isi rfl m_isinstance (by decide +kernel) (a_cons (e_var (pv 1)) (a_cons (e_ty rfl m_list (by decide +kernel)) a_nil))) (nomark _)) (w_one (t_cmp (op_neD hr.units) od_ne (e_callB call_isi cd_isi rfl m_isinstance (by decide +kernel) (a_cons (e_var (pv 0)) (a_cons (e_ty rfl m_tuple (by decide +kernel)) a_nil))) (e_callB call_isi cd_isi rfl m_isinstance (by decide +kernel) (a_cons (e_var (pv 1)) (a_cons (e_ty rfl m_tuple (by decide +kernel)) a_nil))) (nomark _))))) (s_one (s_ret e_bl)) s_nil) (s_cons (s_if (t_cmp (op_neD hr.units) od_ne (e_callB call_isi cd_isi rfl m_isinstance (by decide +kernel) (a_cons (e_var (pv 0)) (a_cons (e_ty rfl m_dict (by decide +kernel)) a_nil))) (e_callB call_isi cd_isi rfl m_isinstance (by decide +kernel) (a_cons (e_var (pv 1)) (a_cons (e_ty rfl m_dict (by decide +kernel)) a_nil))) (nomark _)) (s_one (s_ret e_bl)) s_nil) (s_cons (s_if (t_val (e_callB call_isi cd_isi rfl m_isinstance (by decide +kernel) (a_cons (e_var (pv 1)) (a_cons (e_ty rfl m_dict (by decide +kernel)) a_nil)))) (s_one s_no) s_nil) (s_one (s_ret (e_and (e_cmp (op_eqD hr.units) od_eq (e_callB call_len cd_len rfl m_len (by decide +kernel) (a_cons (e_var (pv 0)) a_nil)) (e_callB call_len cd_len rfl m_len (by decide +kernel) (a_cons (e_var (pv 1)) a_nil)) (nomark _)) (e_one (e_callB (cr_all rfl) cd_all rfl m_all (by decide +kernel) (a_cons (e_lc (A := []) (own := [("_law_k", 3)]) rfl sc__law_same.nd (i_rng1 rfl m_range (a_cons (e_callB call_len cd_len rfl m_len (by decide +kernel) (a_cons (e_var (pv 1)) a_nil)) a_nil)) (blkOk_by (by kernel_rfl)) (fun _ _ _ _ _ => (g_name (pg_name sc__law_same.nd (i := 3) rfl (by first | exact Or.inl rfl | exact Or.inr rfl)))) (fun _ _ _ _ _ => ts_nil) (fun _ _ _ _ _ => (e_callC C__law_same B__law_same hr (Nat.le_refl _) rfl passW_no (ar_va (e_sub rfl (pv 0) (e_var (pv 3)) (fun _ _ => rfl)) (ar_va (e_sub rfl (pv 1) (e_var (pv 3)) (fun _ _ => rfl)) ar_nil)) (alen_va (alen_va alen_nil))))) a_nil))))))))))))
abbrev t__law_spoilt : Stmt := top 29
theorem sc__law_spoilt : FnScope ["_law_draw", "_law_words", "_law_at", "_law_odd", "_law_way", "_law_some", "_law_spot", "_law_number"] ["_law_draw", "_law_words"] (defScope t__law_spoilt) := ⟨rfl, rfl, rfl, by decide +kernel, rfl, by decide +kernel, by decide +kernel⟩
@[reducible] def s__law_spoilt : S := sSeq (sSet 2 (mCall f__law_pick [] (aSl 0 (aVa (mOp addD (mCB lenD (mCons (mVar 1) (mNil))) (mC (.int 1))) (aNil))))) (sSeq (sSet 3 (mCall f__law_one [] (aSl 0 (aVa (mLst (mCons (mC (.str "")) (mCons (mC (.str " ")) (mCons (mC (.str "0")) (mCons (mC (.str "-")) (mCons (mC (.str ";")) (mCons (mC (.str ":")) (mCons (mC (.str ",")) (mCons (mC (.str "a")) (mCons (mC (.str "A")) (mCons (mC (.str "; ")) (mCons (mC (.str ": ")) (mCons (mC (.str ", ")) (mCons (mC (.str "1")) (mCons (mC (.str "-1")) (mCons (mC (.str "stay")) (mCons (mC (.str "\n")) (mNil)))))))))))))))))) (aNil))))) (sSeq (sSet 4 (mCall f__law_pick [] (aSl 0 (aVa (mC (.int 4)) (aNil))))) (sSeq (sIf (mTst (mOp eqD (mVar 4) (mC (.int 0)))) (sRet (mOp addD (mOp addD (mSl (mVar 1) (mPN) (mPS (mVar 2))) (mVar 3)) (mSl (mVar 1) (mPS (mVar 2)) (mPN)))) (sNx)) (sSeq (sIf (mTst (mOp eqD (mVar 4) (mC (.int 1)))) (sRet (mOp addD (mOp addD (mSl (mVar 1) (mPN) (mPS (mVar 2))) (mVar 3)) (mSl (mVar 1) (mPS (mOp addD (mVar 2) (mC (.int 1)))) (mPN)))) (sNx)) (sSeq (sSet 5 (mM1 splitG (mVar 1) (mC (.str " ")))) (sSeq (sSet 6 (mCall f__law_pick [] (aSl 0 (aVa (mCB lenD (mCons (mVar 5) (mNil))) (aNil))))) (sSeq (sSet 7 (mCall f__law_one [] (aSl 0 (aVa (mLst (mCons (mC (.str "0")) (mCons (mC (.str "-0")) (mCons (mC (.str "07")) (mCons (mC (.str "1234567")) (mCons (mC (.str "12345678")) (mCons (mC (.str "0:")) (mCons (mC (.str "-1:")) (mCons (mOp addD (mOp repD (mC (.str "1")) (mC (.int 30))) (mC (.str ":"))) (mCons (mOp addD (mOp repD (mC (.str "1")) (mC (.int 31))) (mC (.str ":"))) (mNil))))))))))) (aNil))))) (sSeq (sIf (mTst (mOp eqD (mVar 4) (mC (.int 2)))) (sRet (mM1 joinG (mC (.str " ")) (mOp addD (mOp addD (mSl (mVar 5) (mPN) (mPS (mVar 6))) (mLst (mCons (mVar 7) (mNil)))) (mSl (mVar 5) (mPS (mOp addD (mVar 6) (mC (.int 1)))) (mPN))))) (sNx)) (sRet (mM1 joinG (mC (.str " ")) (mOp addD (mOp addD (mSl (mVar 5) (mPN) (mPS (mVar 6))) (mLst (mCons (mSub 5 (mVar 6)) (mNil)))) (mSl (mVar 5) (mPS (mVar 6)) (mPN)))))))))))))
@[reducible] def f__law_spoilt : List SD → FR := Fm.runN [0] 8 s__law_spoilt
theorem ok__law_spoilt {P : Program} {w : World} {K : PySem.W.Frag} {mg : Str → Option Value} {base : Heap} {cl : String → Addr} {tabs : List (Addr × Str)} {f : Addr} {fd : FuncData} (F : FunD K "_law_spoilt" "_law_spoilt" (defArgs t__law_spoilt) (defBody t__law_spoilt) (defScope t__law_spoilt) [] [] f fd) (m_len : mg "len" = none) {a__law_pick : Addr} {d__law_pick : FuncData} (C__law_pick : Callee P w K mg base (kx K cl tabs) "_law_pick" 1 ["_law_draw", "_law_many"] f__law_pick a__law_pick d__law_pick) (B__law_pick : Binds K d__law_pick ["_law_draw", "_law_many"] []) {a__law_one : Addr} {d__law_one : FuncData} (C__law_one : Callee P w K mg base (kx K cl tabs) "_law_one" 2 ["_law_draw", "_law_some"] f__law_one a__law_one d__law_one) (B__law_one : Binds K d__law_one ["_law_draw", "_law_some"] []) : FnOk P w K mg base (L2.CX P w) 3 f fd ["_law_draw", "_law_words"] (spF (kx K cl tabs) 2 f__law_spoilt) :=
  def_okN (k := 2) (A := [0]) (N := ["_law_draw", "_law_words", "_law_at", "_law_odd", "_law_way", "_law_some", "_law_spot", "_law_number"]) F sc__law_spoilt fun cdv Ar outer s0 H E hr => by
    exact (s_cons (s_set sc__law_spoilt.nd (i := 2) rfl (by first | exact Or.inl rfl | exact Or.inr rfl) (e_callC C__law_pick B__law_pick hr (show 1 ≤ 2 from by decide) rfl (passW_of (takes_of rfl rfl rfl rfl)) (ar_sl (pv 0) (ar_va (e_op op_addX od_add (e_callB call_len cd_len rfl m_len (by decide +kernel) (a_cons (e_var (pv 1)) a_nil)) e_int) ar_nil)) (alen_sl (alen_va alen_nil)))) (s_cons (s_set sc__law_spoilt.nd (i := 3) rfl (by first | exact Or.inl rfl | exact Or.inr rfl) (e_callC C__law_one B__law_one hr (show 2 ≤ 2 from by decide) rfl (passW_of (takes_of rfl rfl rfl rfl)) (ar_sl (pv 0) (ar_va (e_lst (a_cons e_str (a_cons e_str (a_cons e_str (a_cons e_str (a_cons e_str (a_cons e_str (a_cons e_str (a_cons e_str (a_cons e_str (a_cons e_str (a_cons e_str (a_cons e_str (a_cons e_str (a_cons e_str (a_cons e_str (a_cons e_str a_nil))))))))))))))))) ar_nil)) (alen_sl (alen_va alen_nil)))) (s_cons (s_set sc__law_spoilt.nd (i := 4) rfl (by first | exact Or.inl rfl | exact Or.inr rfl) (e_callC C__law_pick B__law_pick hr (show 1 ≤ 2 from by decide) rfl (passW_of (takes_of rfl rfl rfl rfl)) (ar_sl (pv 0) (ar_va e_int ar_nil)) (alen_sl (alen_va alen_nil)))) (s_cons (s_if (t_cmp (op_eqD hr.units) od_eq (e_var (pv 4)) e_int (nomark _)) (s_one (s_ret (e_op op_addX od_add (e_op op_addX od_add (e_slice rfl (e_var (pv 1)) o_none (o_some (e_var (pv 2)))) (e_var (pv 3))) (e_slice rfl (e_var (pv 1)) (o_some (e_var (pv 2))) o_none)))) s_nil) (s_cons (s_if (t_cmp (op_eqD hr.units) od_eq (e_var (pv 4)) e_int (nomark _)) (s_one (s_ret (e_op op_addX od_add (e_op op_addX od_add (e_slice rfl (e_var (pv 1)) o_none (o_some (e_var (pv 2)))) (e_var (pv 3))) (e_slice rfl (e_var (pv 1)) (o_some (e_op op_addX od_add (e_var (pv 2)) e_int)) o_none)))) s_nil) (s_cons (s_set sc__law_spoilt.nd (i := 5) rfl (by first | exact Or.inl rfl | exact Or.inr rfl) (e_split (e_var (pv 1)) e_str)) (s_cons (s_set sc__law_spoilt.nd (i := 6) rfl (by first | exact Or.inl rfl | exact Or.inr rfl) (e_callC C__law_pick B__law_pick hr (show 1 ≤ 2 from by decide) rfl (passW_of (takes_of rfl rfl rfl rfl)) (ar_sl (pv 0) (ar_va (e_callB call_len cd_len rfl m_len (by decide +kernel) (a_cons (e_var (pv 5)) a_nil)) ar_nil)) (alen_sl (alen_va alen_nil)))) (s_cons (s_set sc__law_spoilt.nd (i := 7) rfl (by first | exact Or.inl rfl | exact Or.inr rfl) (e_callC C__law_one B__law_one hr (show 2 ≤ 2 from by decide) rfl (passW_of (takes_of rfl rfl rfl rfl)) (ar_sl (pv 0) (ar_va (e_lst (a_cons e_str (a_cons e_str (a_cons e_str (a_cons e_str (a_cons e_str (a_cons e_str (a_cons e_str (a_cons (e_op op_addX od_add (e_op op_mulX od_rep e_str e_int) e_str) (a_cons (e_op op_addX od_add (e_op op_mulX od_rep e_str e_int) e_str) a_nil)))))))))) ar_nil)) (alen_sl (alen_va alen_nil)))) (s_cons (s_if (t_cmp (op_eqD hr.units) od_eq (e_var (pv 4)) e_int (nomark _)) (s_one (s_ret (e_join rfl e_str (e_op op_addX od_add (e_op op_addX od_add (e_slice rfl (e_var (pv 5)) o_none (o_some (e_var (pv 6)))) (e_lst (a_cons (e_var (pv 7)) a_nil))) (e_slice rfl (e_var (pv 5)) (o_some (e_op op_addX od_add (e_var (pv 6)) e_int)) o_none))))) s_nil) (s_one (s_ret (e_join rfl e_str (e_op op_addX od_add (e_op op_addX od_add (e_slice rfl (e_var (pv 5)) o_none (o_some (e_var (pv 6)))) (e_lst (a_cons (e_sub rfl (pv 5) (e_var (pv 6)) (fun _ _ => rfl)) a_nil))) (e_slice rfl (e_var (pv 5)) (o_some (e_var (pv 6))) o_none))))))))))))))
abbrev t_law : Stmt := top 30
theorem sc_law : FnScope ["_law_script", "_law_draw", "_law_turn", "_law_words", "_law_bend", "_law_due", "_law_found", "_law_row", "e"] ["_law_script"] (defScope t_law) := ⟨rfl, rfl, rfl, by decide +kernel, rfl, by decide +kernel, by decide +kernel⟩
@[reducible] def s_law : S := sSeq (sSet 1 (mCall f__law_begin [] (aVa (mVar 0) (aNil)))) (sSeq (sFor (iRg1 (mCons (mC (.int 5)) (mNil))) (gN 2) (sSeq (sSet 3 (mCall f__law_walk_words [] (aVa (mCall f__law_drawn_rounds [] (aSl 1 (aNil))) (aNil)))) (sSeq (sFor (iRg1 (mCons (mCall f__law_pick [] (aSl 1 (aVa (mC (.int 4)) (aNil)))) (mNil))) (gN 4) (sSet 3 (mCall f__law_spoilt [] (aSl 1 (aVa (mVar 3) (aNil)))))) (sSeq (sSet 5 (mCall f__law_walk_in [] (aVa (mVar 3) (aNil)))) (sSeq (sSet 6 (mC .non)) (sSeq (sSet 7 (mC .non)) (sSeq (sTryF (sSet 6 (mCall f_read_walk [] (aVa (mVar 3) (aNil)))) hits_BadText 8 7 "row") (sIf (mOr (mNot (mTst (mCall (f__law_same 60) [] (aVa (mVar 6) (aVa (mVar 5) (aNil)))))) (mNot (mTst (mCall (f__law_same 60) [] (aVa (mVar 7) (aVa (mIfE (mTst (mOp isnD (mVar 5) (mC .non))) (mC (.int 0)) (mC .non)) (aNil))))))) (sRet (mC (.bl false))) (sNx))))))))) (sRet (mC (.bl true))))
@[reducible] def f_law : List SD → FR := Fm.runN [] 9 s_law
theorem ok_law {P : Program} {w : World} {K : PySem.W.Frag} {mg : Str → Option Value} {base : Heap} {cl : String → Addr} {tabs : List (Addr × Str)} {f : Addr} {fd : FuncData} (F : FunD K "law" "law" (defArgs t_law) (defBody t_law) (defScope t_law) [] [] f fd) (m_range : mg "range" = none) {a_read_walk : Addr} {d_read_walk : FuncData} (C_read_walk : Callee P w K mg base (kx K cl tabs) "read_walk" 5 ["text"] f_read_walk a_read_walk d_read_walk) (B_read_walk : Binds K d_read_walk ["text"] []) {a__law_pick : Addr} {d__law_pick : FuncData} (C__law_pick : Callee P w K mg base (kx K cl tabs) "_law_pick" 1 ["_law_draw", "_law_many"] f__law_pick a__law_pick d__law_pick) (B__law_pick : Binds K d__law_pick ["_law_draw", "_law_many"] []) {a__law_begin : Addr} {d__law_begin : FuncData} (C__law_begin : Callee P w K mg base (kx K cl tabs) "_law_begin" 1 ["_law_script"] f__law_begin a__law_begin d__law_begin) (B__law_begin : Binds K d__law_begin ["_law_script"] []) {a__law_walk_words : Addr} {d__law_walk_words : FuncData} (C__law_walk_words : Callee P w K mg base (kx K cl tabs) "_law_walk_words" 1 ["_law_rounds"] f__law_walk_words a__law_walk_words d__law_walk_words) (B__law_walk_words : Binds K d__law_walk_words ["_law_rounds"] []) {a__law_drawn_rounds : Addr} {d__law_drawn_rounds : FuncData} (C__law_drawn_rounds : Callee P w K mg base (kx K cl tabs) "_law_drawn_rounds" 4 ["_law_draw"] f__law_drawn_rounds a__law_drawn_rounds d__law_drawn_rounds) (B__law_drawn_rounds : Binds K d__law_drawn_rounds ["_law_draw"] []) {a__law_walk_in : Addr} {d__law_walk_in : FuncData} (C__law_walk_in : Callee P w K mg base (kx K cl tabs) "_law_walk_in" 3 ["_law_words"] f__law_walk_in a__law_walk_in d__law_walk_in) (B__law_walk_in : Binds K d__law_walk_in ["_law_words"] []) {a__law_same : Addr} {d__law_same : FuncData} (C__law_same : Callee P w K mg base (kx K cl tabs) "_law_same" 65 ["_law_found", "_law_due"] (f__law_same 60) a__law_same d__law_same) (B__law_same : Binds K d__law_same ["_law_found", "_law_due"] []) {a__law_spoilt : Addr} {d__law_spoilt : FuncData} (C__law_spoilt : Callee P w K mg base (kx K cl tabs) "_law_spoilt" 3 ["_law_draw", "_law_words"] f__law_spoilt a__law_spoilt d__law_spoilt) (B__law_spoilt : Binds K d__law_spoilt ["_law_draw", "_law_words"] []) {c_BadText : Addr} (g_BadText : mg "BadText" = some (.ref c_BadText)) (T_BadText : Try1K K (kx K cl tabs) (.ref c_BadText) "row" hits_BadText) : FnOk P w K mg base (L2.CX P w) 66 f fd ["_law_script"] (spF (kx K cl tabs) 1 f_law) :=
  def_okN (k := 65) (A := []) (N := ["_law_script", "_law_draw", "_law_turn", "_law_words", "_law_bend", "_law_due", "_law_found", "_law_row", "e"]) F sc_law fun cdv Ar outer s0 H E hr => by
    exact (s_cons (s_set sc_law.nd (i := 1) rfl (by first | exact Or.inl rfl | exact Or.inr rfl) (e_callC C__law_begin B__law_begin hr (show 1 ≤ 65 from by decide) rfl (passW_of (takes_of rfl rfl rfl rfl)) (ar_va (e_var (pv 0)) ar_nil) (alen_va alen_nil))) (s_cons (s_for (vs := [2]) (passes_of rfl) rfl (i_rng1 rfl m_range (a_cons e_int a_nil)) (g_name (pg_name sc_law.nd (i := 2) rfl (by first | exact Or.inl rfl | exact Or.inr rfl))) (s_cons (s_set sc_law.nd (i := 3) rfl (by first | exact Or.inl rfl | exact Or.inr rfl) (e_callC C__law_walk_words B__law_walk_words hr (show 1 ≤ 65 from by decide) rfl (passW_of (takes_of rfl rfl rfl rfl)) (ar_va (e_callC C__law_drawn_rounds B__law_drawn_rounds hr (show 4 ≤ 65 from by decide) rfl (passW_of (takes_of rfl rfl rfl rfl)) (ar_sl (pv 1) ar_nil) (alen_sl alen_nil)) ar_nil) (alen_va alen_nil))) (s_cons (s_for (vs := [4]) (passes_of rfl) rfl (i_rng1 rfl m_range (a_cons (e_callC C__law_pick B__law_pick hr (show 1 ≤ 65 from by decide) rfl (passW_of (takes_of rfl rfl rfl rfl)) (ar_sl (pv 1) (ar_va e_int ar_nil)) (alen_sl (alen_va alen_nil))) a_nil)) (g_name (pg_name sc_law.nd (i := 4) rfl (by first | exact Or.inl rfl | exact Or.inr rfl))) (s_one (s_set sc_law.nd (i := 3) rfl (by first | exact Or.inl rfl | exact Or.inr rfl) (e_callC C__law_spoilt B__law_spoilt hr (show 3 ≤ 65 from by decide) rfl (passW_of (takes_of rfl rfl rfl rfl)) (ar_sl (pv 1) (ar_va (e_var (pv 3)) ar_nil)) (alen_sl (alen_va alen_nil)))))) (s_cons (s_set sc_law.nd (i := 5) rfl (by first | exact Or.inl rfl | exact Or.inr rfl) (e_callC C__law_walk_in B__law_walk_in hr (show 3 ≤ 65 from by decide) rfl (passW_of (takes_of rfl rfl rfl rfl)) (ar_va (e_var (pv 3)) ar_nil) (alen_va alen_nil))) (s_cons (s_set sc_law.nd (i := 6) rfl (by first | exact Or.inl rfl | exact Or.inr rfl) e_non) (s_cons (s_set sc_law.nd (i := 7) rfl (by first | exact Or.inl rfl | exact Or.inr rfl) e_non) (s_cons (s_tryF (i := 8) (j := 7) T_BadText rfl rfl sc_law.nd (takes_of rfl rfl rfl rfl) rfl rfl (by decide) rfl rfl rfl g_BadText rfl rfl (fun W pn xe tk _ => (s_one (s_set sc_law.nd (i := 6) rfl (by first | exact Or.inl rfl | exact Or.inr rfl) (e_callC C_read_walk B_read_walk hr (show 5 ≤ 65 from by decide) rfl (passW_of tk) (ar_va (e_var (pv 3)) ar_nil) (alen_va alen_nil)))))) (s_one (s_if (PW.pt (w_or (t_not (t_val (e_callC C__law_same B__law_same hr (show 65 ≤ 65 from by decide) rfl (passW_of (takes_of rfl rfl rfl rfl)) (ar_va (e_var (pv 6)) (ar_va (e_var (pv 5)) ar_nil)) (alen_va (alen_va alen_nil))))) (w_one (t_not (t_val (e_callC C__law_same B__law_same hr (show 65 ≤ 65 from by decide) rfl (passW_of (takes_of rfl rfl rfl rfl)) (ar_va (e_var (pv 7)) (ar_va (e_ife (t_cmp op_isN od_isn (e_var (pv 5)) e_non (nomark _)) e_int e_non) ar_nil)) (alen_va (alen_va alen_nil)))))))) (s_one (s_ret e_bl)) s_nil))))))))) (s_one (s_ret e_bl))))
end Lw
set_option maxHeartbeats 990000
namespace Lw
open L2 PySem PySem.Spec PyProof.Rows Fm
theorem in_cons {α : Type} {a b : α} {l : List α} (h : a ∈ b :: l) : a = b ∨ a ∈ l := List.mem_cons.mp h
theorem in_one {α : Type} {a b : α} (h : a ∈ [b]) : a = b := List.mem_singleton.mp h
theorem in_app {α : Type} {a : α} {l m : List α} (h : a ∈ l ++ m) : a ∈ l ∨ a ∈ m := List.mem_append.mp h
abbrev sl (s : Str) : List Nat := s.cps.toList
theorem str_ext {a b : Str} (h : sl a = sl b) : a = b := by
  obtain ⟨a⟩ := a
  obtain ⟨b⟩ := b
  exact congrArg Str.mk (Array.toList_inj.mp h)
theorem cut_none (w : Str) (k : Nat) : sl (cutS w none (some (k : Int))) = (sl w).take k := by
  have hl : w.length = (sl w).length := Array.length_toList.symm
  show (((sl w).drop (HT.sIx w.length 0 none)).take (HT.sIx w.length w.length (some (k : Int)) - HT.sIx w.length 0 none)) = _
  rw [HT.sIx_nat, HT.sIx_none, List.drop_zero, Nat.sub_zero, hl]
  by_cases h : k ≤ (sl w).length
  · rw [Nat.min_eq_left h]
  · rw [Nat.min_eq_right (by omega)]
    rw [List.take_of_length_le (Nat.le_refl _), List.take_of_length_le (by omega)]
theorem cut_some (w : Str) (k : Nat) : sl (cutS w (some (k : Int)) none) = (sl w).drop k := by
  have hl : w.length = (sl w).length := Array.length_toList.symm
  show (((sl w).drop (HT.sIx w.length 0 (some (k : Int)))).take (HT.sIx w.length w.length none - HT.sIx w.length 0 (some (k : Int)))) = _
  rw [HT.sIx_nat, HT.sIx_none, hl]
  rw [List.take_of_length_le (by rw [List.length_drop]; exact Nat.le_refl _)]
  by_cases h : k ≤ (sl w).length
  · rw [Nat.min_eq_left h]
  · rw [Nat.min_eq_right (by omega)]
    rw [List.drop_of_length_le (Nat.le_refl _), List.drop_of_length_le (by omega)]
theorem tx_sub {n : Nat} {s t : Str} (h : Tx n s) (k : (sl t).Sublist (sl s)) : Tx n t := ⟨by
  have z := k.length_le
  have e1 : s.length = (sl s).length := Array.length_toList.symm
  have e2 : t.length = (sl t).length := Array.length_toList.symm
  have := h.len
  omega, fun c hc => h.asc c (k.subset hc)⟩
theorem tx_take {n : Nat} {s : Str} (h : Tx n s) (k : Nat) : Tx n (cutS s none (some (k : Int))) := tx_sub h (by rw [cut_none]; exact List.take_sublist ..)
theorem tx_drop {n : Nat} {s : Str} (h : Tx n s) (k : Nat) : Tx n (cutS s (some (k : Int)) none) := tx_sub h (by rw [cut_some]; exact List.drop_sublist ..)
/-- the figures behind a sign -/
def barOf (w : Str) : Str := if cutS w none (some 1) = "-" then cutS w (some 1) none else w
theorem tx_bar {n : Nat} {w : Str} (h : Tx n w) : Tx n (barOf w) := by
  unfold barOf
  split
  · exact tx_drop h 1
  · exact h
theorem lit_dash : sl "-" = [45] := by decide +kernel
theorem lit_0 : sl "0" = [48] := by decide +kernel
theorem lit_fig : sl "0123456789" = [48, 49, 50, 51, 52, 53, 54, 55, 56, 57] := by decide +kernel
theorem in_fig {c : Nat} : c ∈ sl "0123456789" ↔ 48 ≤ c ∧ c ≤ 57 := by
  rw [lit_fig]
  simp only [List.mem_cons, List.not_mem_nil, or_false]
  omega
theorem bar_eq (w : Str) : sl w = sl (barOf w) ∨ sl w = 45 :: sl (barOf w) := by
  unfold barOf
  split
  · rename_i h
    right
    have h1 := congrArg sl h
    rw [show (1 : Int) = ((1 : Nat) : Int) from rfl, cut_none, lit_dash] at h1
    rw [show (1 : Int) = ((1 : Nat) : Int) from rfl, cut_some]
    cases e : sl w with
    | nil =>
      rw [e] at h1
      cases h1
    | cons c r =>
      rw [e] at h1
      have : c = 45 := by simpa using h1
      rw [this]
      rfl
  · exact .inl rfl
def NumOk (fig : Int) (w : Str) : Prop := (0 < ((barOf w).length : Int) ∧ ((barOf w).length : Int) ≤ fig) ∧ ∀ c ∈ sl (barOf w), c ∈ sl "0123456789"
instance (fig : Int) (w : Str) : Decidable (NumOk fig w) := by unfold NumOk; exact inferInstance
/-- the number that is told, if any -/
def numB (fig : Int) (w : Str) : Option Int := if NumOk fig w then (if (sl (barOf w)).head? = some 48 ∧ w ≠ "0" then none else PySem.intText? w) else none
theorem num_int {fig : Int} {w : Str} (h2 : fig ≤ 600) (k : NumOk fig w) : ∃ i, PySem.intText? w = some i := by
  obtain ⟨⟨k1, k2⟩, k3⟩ := k
  have ne : sl (barOf w) ≠ [] := fun z => by
    have e : (barOf w).length = (sl (barOf w)).length := Array.length_toList.symm
    rw [z] at e
    rw [e] at k1
    exact absurd k1 (by decide)
  have ad : NumText.AllDigits (sl (barOf w)) := fun c hc => in_fig.mp (k3 c hc)
  have e1 : w.length = (sl w).length := Array.length_toList.symm
  have e2 : (barOf w).length = (sl (barOf w)).length := Array.length_toList.symm
  rcases bar_eq w with e | e
  · exact ⟨_, intText_digits (x := w) (by show NumText.AllDigits (sl w); rw [e]; exact ad) (by show sl w ≠ []; rw [e]; exact ne) (by rw [e1, e]; omega)⟩
  · exact ⟨_, intText_neg (x := w) e ad ne (by rw [e1, e, List.length_cons]; omega)⟩
def dI : Option Int → D
  | none => .non
  | some i => .int i
end Lw
set_option maxHeartbeats 990000
open L2 PySem PySem.Spec PyProof.Rows Fm
local macro_rules | `(tactic| walk_at "own4") => `(tactic| (repeat (first | ((with_reducible apply w_stP); · exact (rfl : _ = [_, _, _, _])) | ((with_reducible apply w_stS); · exact (rfl : _ = [_, _, _, _])) | ((with_reducible apply w_stA); · exact (rfl : _ = [_, _, _, _])) | (with_reducible refine w_sseq ?_) | (with_reducible refine w_set ?_) | (with_reducible refine w_ret ?_) | (with_reducible refine w_retN ?_) | (with_reducible refine w_nx ?_) | (with_reducible refine w_drop ?_) | (with_reducible refine w_if ?_) | (with_reducible refine w_asg ?_) | (with_reducible refine w_par ?_) | (with_reducible refine w_par3 ?_) | (with_reducible refine w_put ?_) | (with_reducible refine w_for ?_) | (with_reducible refine w_op ?_) | (with_reducible refine w_un ?_) | (with_reducible refine w_fz ?_) | (with_reducible refine w_fzV ?_) | (with_reducible refine w_fzL ?_) | (with_reducible refine w_c ?_) | ((with_reducible apply w_var); · exact rfl) | ((with_reducible apply w_varO); · exact rfl) | ((with_reducible apply w_mov); · exact rfl) | ((with_reducible apply w_movO); · exact rfl) | ((with_reducible apply w_subV); · exact rfl) | ((with_reducible apply w_subO); · exact rfl) | (with_reducible refine w_chain ?_) | (with_reducible refine w_chK ?_) | (with_reducible refine w_tst ?_) | (with_reducible refine w_not ?_) | (with_reducible refine w_andT ?_) | (with_reducible refine w_orT ?_) | (with_reducible refine w_andV ?_) | (with_reducible refine w_orV ?_) | (with_reducible refine w_notV ?_) | (with_reducible refine w_ife ?_) | (with_reducible refine w_nil ?_) | (with_reducible refine w_cons ?_) | (with_reducible refine w_anil ?_) | (with_reducible refine w_ava ?_) | ((with_reducible apply w_asl); · exact rfl) | (with_reducible refine w_tup ?_) | (with_reducible refine w_lst ?_) | (with_reducible refine w_cb ?_) | (with_reducible refine w_call ?_) | ((with_reducible apply w_app); · exact rfl) | (with_reducible refine w_sl ?_) | (with_reducible refine w_pn ?_) | (with_reducible refine w_ps ?_) | (with_reducible refine w_lc ?_) | (with_reducible refine w_seqX ?_) | (with_reducible refine w_aapp ?_) | (with_reducible refine w_ex1 ?_) | (with_reducible refine w_tryF ?_) | (with_reducible refine w_m1 ?_) | (with_reducible refine w_mw ?_) | (with_reducible refine w_rng1 ?_) | (with_reducible refine w_rng2 ?_) | (with_reducible refine w_zip ?_) | (with_reducible refine o_add ?_) | (with_reducible refine o_eqStr ?_ ?_ ?_) | (with_reducible refine o_neStr ?_ ?_ ?_) | (with_reducible refine o_lenStr ?_ ?_) | (with_reducible refine o_slStr ?_ ?_) | (with_reducible refine o_addStr ?_ ?_) | (with_reducible refine o_addL ?_ ?_) | (with_reducible refine o_inS ?_) | (with_reducible refine o_ninS ?_) | (with_reducible refine o_inL ?_ ?_) | (with_reducible refine o_split ?_ ?_ ?_) | (with_reducible refine o_part ?_ ?_ ?_) | (with_reducible refine o_join ?_ ?_) | (with_reducible refine o_strI ?_ ?_) | (with_reducible refine o_sub ?_) | (with_reducible refine o_mul ?_ ?_) | (with_reducible refine o_mod ?_ ?_) | (with_reducible refine o_div ?_ ?_) | (with_reducible refine o_pow ?_ ?_) | (with_reducible refine o_lt ?_) | (with_reducible refine o_le ?_) | (with_reducible refine o_gt ?_) | (with_reducible refine o_ge ?_) | (with_reducible refine o_eqI ?_) | (with_reducible refine o_slS ?_) | (with_reducible refine o_slL ?_) | (with_reducible refine o_slT ?_) | (with_reducible refine o_eqB ?_) | (with_reducible refine o_neB ?_) | (with_reducible refine o_isnN ?_) | (with_reducible refine o_isnI ?_) | (with_reducible refine o_isnB ?_) | (with_reducible refine o_isnS ?_) | (with_reducible refine o_isnT ?_) | (with_reducible refine o_isnL ?_) | (with_reducible refine o_ntnN ?_) | (with_reducible refine o_ntnI ?_) | (with_reducible refine o_ntnT ?_) | (with_reducible refine o_ntnL ?_) | (with_reducible refine br_t ?_) | (with_reducible refine br_f ?_) | (with_reducible refine br_nt ?_) | (with_reducible refine br_nf ?_) | (with_reducible refine br_d ?_) | (with_reducible refine br_e ?_) | (with_reducible refine o_neI ?_) | (with_reducible refine o_neg ?_) | (with_reducible refine o_abs ?_) | ((with_reducible apply o_ixT); · exact rfl) | ((with_reducible apply o_ixL); · exact rfl) | (with_reducible refine o_len ?_) | (with_reducible refine o_lenL ?_) | (with_reducible refine o_tupT ?_) | (with_reducible refine o_tupL ?_) | (with_reducible refine o_listT ?_) | (with_reducible refine o_listL ?_) | (with_reducible refine o_all ?_) | (with_reducible refine o_any ?_) | ((with_reducible refine o_isi0 ?_); first | refine o_isI kit_int_int rfl ?_ | refine o_isI kit_int_bool rfl ?_ | refine o_isI kit_int_tuple rfl ?_ | refine o_isI kit_int_list rfl ?_ | refine o_isI kit_int_dict rfl ?_ | refine o_isI kit_bool_bool rfl ?_ | refine o_isI kit_bool_int rfl ?_ | refine o_isI kit_bool_tuple rfl ?_ | refine o_isI kit_bool_list rfl ?_ | refine o_isI kit_str_bool rfl ?_ | refine o_isI kit_str_int rfl ?_ | refine o_isI kit_tuple_bool rfl ?_ | refine o_isI kit_tuple_int rfl ?_ | refine o_isI kit_tuple_tuple rfl ?_ | refine o_isI kit_tuple_list rfl ?_ | refine o_isI kit_tuple_dict rfl ?_ | refine o_isI kit_list_bool rfl ?_ | refine o_isI kit_list_int rfl ?_ | refine o_isI kit_list_tuple rfl ?_ | refine o_isI kit_list_list rfl ?_ | refine o_isI kit_list_dict rfl ?_ | refine o_isI kit_non_bool rfl ?_ | refine o_isI kit_non_tuple rfl ?_ | refine o_isI kit_non_int rfl ?_) | ((with_reducible refine o_isit0 ?_); first | refine o_isT kits_int rfl ?_ | refine o_isT kits_str rfl ?_ | refine o_isT kits_tuple rfl ?_ | refine o_isT kits_list rfl ?_) | ((with_reducible apply x_len); · exact Nat.le_of_ble_eq_true rfl) | ((with_reducible apply x_is); · exact rfl) | ((with_reducible apply x_put); (· exact rfl); (· exact rfl); · exact rfl) | ((with_reducible apply x_call0); (· exact List.nodup_nil); · exact rfl) | ((with_reducible apply x_call0); (· exact nd1 _); · exact rfl) | ((with_reducible apply x_one); · exact rfl) | ((with_reducible apply x_two); · exact rfl) | ((with_reducible apply br_T); · exact rfl) | ((with_reducible apply br_F); · exact rfl))))
namespace Lw
open L2 PySem PySem.Spec PyProof.Rows Fm
theorem big_of {n : Nat} {s : Str} (h : Tx n s) (hn : n ≤ 100000) : s.length ≤ 1000000 := by
  have := h.len
  omega
theorem sg_at {l : List Nat} {i : Nat} {d : D} (h : (l.map fun c => D.str ⟨#[c]⟩)[i]? = some d) : ∃ c, l[i]? = some c ∧ d = .str ⟨#[c]⟩ := by
  rw [List.getElem?_map] at h
  obtain ⟨c, e, rfl⟩ := Option.map_eq_some_iff.mp h
  exact ⟨c, e, rfl⟩
theorem map_get {γ δ : Type} {l : List γ} {m : γ → δ} {i : Nat} {c : γ} {d : δ} (h1 : l[i]? = some c) (h2 : (l.map m)[i]? = some d) : d = m c := by
  rw [List.getElem?_map, h1] at h2
  exact (Option.some.inj h2).symm
theorem head_at {l : List Nat} {c : Nat} (h : l.head? = some c) : atI l 0 = some c := by
  cases l with
  | nil => cases h
  | cons x r =>
    cases h
    show (ixN (r.length + 1) 0).bind _ = _
    rw [Fm.ixN_0, if_pos (by omega)]
    rfl
theorem num_short {fig : Int} {w : Str} (k : NumOk fig w) (h2 : fig ≤ 600) : w.length ≤ 640 := by
  have e1 : w.length = (sl w).length := Array.length_toList.symm
  have e2 : (barOf w).length = (sl (barOf w)).length := Array.length_toList.symm
  have k2 := k.1.2
  rcases bar_eq w with e | e
  · rw [e1, e]
    omega
  · rw [e1, e, List.length_cons]
    omega
theorem sign_0 {c : Nat} : ((⟨#[c]⟩ : Str) = "0") ↔ c = 48 := by
  constructor
  · intro h
    have z := congrArg sl h
    rw [lit_0] at z
    exact (List.cons.inj z).1
  · rintro rfl
    exact str_ext (by rw [lit_0])
theorem number_ok {n : Nat} {w : Str} (h : Tx n w) (hn : n ≤ 100000) {fig : Int} (h2 : fig ≤ 600) : Fw (f_number_in [.va (.str w), .va (.int fig)]) (fun r o => r = .va (dI (numB fig w)) ∧ o = [.un, .un]) NoX := by
  have hb := tx_bar h
  have big := big_of h (by omega)
  have bigb := big_of hb (by omega)
  refine fw_run rfl ?_
  refine w_sseq ?_
  refine w_mid (q := fun f ρ => f = .nx ∧ ρ = [.va (.str w), .va (.int fig), .va (.str (barOf w)), .un]) ?_ ?_
  · walk_at "own4"
    · refine ⟨fun z => ?_, fun z => ?_⟩
      · walk_at "own4"
        · refine ⟨rfl, ?_⟩
          rw [show barOf w = cutS w (some 1) none from if_pos (of_decide_eq_true z)]
          rfl
        · exact big
      · walk_at "own4"
        refine ⟨rfl, ?_⟩
        rw [show barOf w = w from if_neg (of_decide_eq_false z)]
        rfl
    · exact (tx_take h 1).ok
    · decide +kernel
    · exact big
  rintro _ _ ⟨rfl, rfl⟩
  refine w_sseq ?_
  refine w_mid (q := fun f ρ => (NumOk fig w ∧ f = .nx ∧ ρ.take 3 = [.va (.str w), .va (.int fig), .va (.str (barOf w))] ∧ ρ.length = 4) ∨ (¬ NumOk fig w ∧ f = .rt (.va .non) ∧ ρ.length = 4)) ?_ ?_
  · walk_at "own4"
    · refine ⟨fun a => ?_, fun a => ?_⟩
      · walk_at "own4"
        refine ⟨fun b => ?_, fun b => ?_⟩
        · walk_at "own4"
          refine .inr ⟨fun k => ?_, rfl, rfl⟩
          simp [k.1.2] at b
        · walk_at "own4"
          refine w_lcG (L := (sl (barOf w)).map fun c => !decide (c ∈ sl "0123456789")) (m := D.bl) (by rw [List.length_map, List.length_map]) (fun i d c hd hc => ?_) (by rw [List.length_map]; exact Nat.le_trans (Nat.le_of_eq Array.length_toList) bigb) ?_
          · obtain ⟨x, e1, rfl⟩ := sg_at hd
            have e2 := map_get e1 hc
            subst e2
            refine ⟨_, rfl, ?_⟩
            walk_at "own4"
            exact ⟨rfl, rfl⟩
          · walk_at "own4"
            refine ⟨fun y => ?_, fun y => ?_⟩
            · walk_at "own4"
              refine .inr ⟨fun k => ?_, rfl, rfl⟩
              rw [List.any_map, List.any_eq_true] at y
              obtain ⟨c, y1, y2⟩ := y
              have y3 : (!decide (c ∈ sl "0123456789")) = true := y2
              rw [decide_eq_true (k.2 c y1)] at y3
              cases y3
            · walk_at "own4"
              refine .inl ⟨⟨⟨of_decide_eq_true a, by simpa using b⟩, fun c hc => ?_⟩, rfl, rfl, rfl⟩
              rw [List.any_map, List.any_eq_false] at y
              have y3 : ¬ (!decide (c ∈ sl "0123456789")) = true := y c hc
              by_cases z : c ∈ sl "0123456789"
              · exact z
              · rw [decide_eq_false z] at y3
                exact absurd rfl y3
      · walk_at "own4"
        refine .inr ⟨fun k => ?_, rfl, rfl⟩
        exact absurd k.1.1 (of_decide_eq_false a)
    · exact bigb
  · rintro f ρ (⟨k, rfl, e, el⟩ | ⟨k, rfl, el⟩)
    · obtain ⟨s3, rfl⟩ : ∃ s3, ρ = [.va (.str w), .va (.int fig), .va (.str (barOf w)), s3] := by
        match ρ, el, e with
        | [a, b, c, s3], _, e =>
          cases e
          exact ⟨s3, rfl⟩
      obtain ⟨i, hi⟩ := num_int h2 k
      have short := num_short k h2
      have ne : ∃ c, (sl (barOf w)).head? = some c := by
        have e : (barOf w).length = (sl (barOf w)).length := Array.length_toList.symm
        have k1 := k.1.1
        rw [e] at k1
        cases h5 : sl (barOf w) with
        | nil =>
          rw [h5] at k1
          exact absurd k1 (by decide)
        | cons c r => exact ⟨c, rfl⟩
      obtain ⟨c, hc⟩ := ne
      have hc0 := head_at hc
      have asc : c < 128 := hb.asc c (List.mem_of_mem_head? hc)
      have okc : PyData.strOk ⟨#[c]⟩ = true := by
        unfold PyData.strOk
        simp
        omega
      walk_at "own4"
      refine o_ixStr ?_ hc0 bigb
      walk_at "own4"
      · refine ⟨fun y => ?_, fun y => ?_⟩
        · have y := sign_0.mp (of_decide_eq_true y)
          walk_at "own4"
          · refine ⟨fun x => ?_, fun x => ?_⟩
            · walk_at "own4"
              refine ⟨?_, rfl⟩
              have x : w ≠ "0" := by simpa using x
              unfold numB
              rw [if_pos k, if_pos ⟨by rw [hc, y], x⟩]
              rfl
            · walk_at "own4"
              refine o_intS ?_ hi short
              walk_at "own4"
              refine ⟨?_, rfl⟩
              have x : w = "0" := by simpa using x
              unfold numB
              rw [if_pos k, if_neg (fun z => z.2 x), hi]
              rfl
          · exact h.ok
          · decide +kernel
        · have y : c ≠ 48 := fun z => of_decide_eq_false y (sign_0.mpr z)
          walk_at "own4"
          refine o_intS ?_ hi short
          walk_at "own4"
          refine ⟨?_, rfl⟩
          unfold numB
          rw [if_pos k, if_neg (fun z => y (by rw [hc] at z; exact Option.some.inj z.1)), hi]
          rfl
      · exact okc
      · decide +kernel
    · match ρ, el with
      | [_, _, _, _], _ =>
        refine ⟨?_, rfl⟩
        unfold numB
        rw [if_neg k]
        rfl
end Lw
set_option maxHeartbeats 990000
open L2 PySem PySem.Spec PyProof.Rows Fm
local macro_rules | `(tactic| walk_at "own2") => `(tactic| (repeat (first | ((with_reducible apply w_stP); · exact (rfl : _ = [_, _])) | ((with_reducible apply w_stS); · exact (rfl : _ = [_, _])) | ((with_reducible apply w_stA); · exact (rfl : _ = [_, _])) | (with_reducible refine w_sseq ?_) | (with_reducible refine w_set ?_) | (with_reducible refine w_ret ?_) | (with_reducible refine w_retN ?_) | (with_reducible refine w_nx ?_) | (with_reducible refine w_drop ?_) | (with_reducible refine w_if ?_) | (with_reducible refine w_asg ?_) | (with_reducible refine w_par ?_) | (with_reducible refine w_par3 ?_) | (with_reducible refine w_put ?_) | (with_reducible refine w_for ?_) | (with_reducible refine w_op ?_) | (with_reducible refine w_un ?_) | (with_reducible refine w_fz ?_) | (with_reducible refine w_fzV ?_) | (with_reducible refine w_fzL ?_) | (with_reducible refine w_c ?_) | ((with_reducible apply w_var); · exact rfl) | ((with_reducible apply w_varO); · exact rfl) | ((with_reducible apply w_mov); · exact rfl) | ((with_reducible apply w_movO); · exact rfl) | ((with_reducible apply w_subV); · exact rfl) | ((with_reducible apply w_subO); · exact rfl) | (with_reducible refine w_chain ?_) | (with_reducible refine w_chK ?_) | (with_reducible refine w_tst ?_) | (with_reducible refine w_not ?_) | (with_reducible refine w_andT ?_) | (with_reducible refine w_orT ?_) | (with_reducible refine w_andV ?_) | (with_reducible refine w_orV ?_) | (with_reducible refine w_notV ?_) | (with_reducible refine w_ife ?_) | (with_reducible refine w_nil ?_) | (with_reducible refine w_cons ?_) | (with_reducible refine w_anil ?_) | (with_reducible refine w_ava ?_) | ((with_reducible apply w_asl); · exact rfl) | (with_reducible refine w_tup ?_) | (with_reducible refine w_lst ?_) | (with_reducible refine w_cb ?_) | (with_reducible refine w_call ?_) | ((with_reducible apply w_app); · exact rfl) | (with_reducible refine w_sl ?_) | (with_reducible refine w_pn ?_) | (with_reducible refine w_ps ?_) | (with_reducible refine w_lc ?_) | (with_reducible refine w_seqX ?_) | (with_reducible refine w_aapp ?_) | (with_reducible refine w_ex1 ?_) | (with_reducible refine w_tryF ?_) | (with_reducible refine w_m1 ?_) | (with_reducible refine w_mw ?_) | (with_reducible refine w_rng1 ?_) | (with_reducible refine w_rng2 ?_) | (with_reducible refine w_zip ?_) | (with_reducible refine o_add ?_) | (with_reducible refine o_eqStr ?_ ?_ ?_) | (with_reducible refine o_neStr ?_ ?_ ?_) | (with_reducible refine o_lenStr ?_ ?_) | (with_reducible refine o_slStr ?_ ?_) | (with_reducible refine o_addStr ?_ ?_) | (with_reducible refine o_addL ?_ ?_) | (with_reducible refine o_inS ?_) | (with_reducible refine o_ninS ?_) | (with_reducible refine o_inL ?_ ?_) | (with_reducible refine o_split ?_ ?_ ?_) | (with_reducible refine o_part ?_ ?_ ?_) | (with_reducible refine o_join ?_ ?_) | (with_reducible refine o_strI ?_ ?_) | (with_reducible refine o_sub ?_) | (with_reducible refine o_mul ?_ ?_) | (with_reducible refine o_mod ?_ ?_) | (with_reducible refine o_div ?_ ?_) | (with_reducible refine o_pow ?_ ?_) | (with_reducible refine o_lt ?_) | (with_reducible refine o_le ?_) | (with_reducible refine o_gt ?_) | (with_reducible refine o_ge ?_) | (with_reducible refine o_eqI ?_) | (with_reducible refine o_slS ?_) | (with_reducible refine o_slL ?_) | (with_reducible refine o_slT ?_) | (with_reducible refine o_eqB ?_) | (with_reducible refine o_neB ?_) | (with_reducible refine o_isnN ?_) | (with_reducible refine o_isnI ?_) | (with_reducible refine o_isnB ?_) | (with_reducible refine o_isnS ?_) | (with_reducible refine o_isnT ?_) | (with_reducible refine o_isnL ?_) | (with_reducible refine o_ntnN ?_) | (with_reducible refine o_ntnI ?_) | (with_reducible refine o_ntnT ?_) | (with_reducible refine o_ntnL ?_) | (with_reducible refine br_t ?_) | (with_reducible refine br_f ?_) | (with_reducible refine br_nt ?_) | (with_reducible refine br_nf ?_) | (with_reducible refine br_d ?_) | (with_reducible refine br_e ?_) | (with_reducible refine o_neI ?_) | (with_reducible refine o_neg ?_) | (with_reducible refine o_abs ?_) | ((with_reducible apply o_ixT); · exact rfl) | ((with_reducible apply o_ixL); · exact rfl) | (with_reducible refine o_len ?_) | (with_reducible refine o_lenL ?_) | (with_reducible refine o_tupT ?_) | (with_reducible refine o_tupL ?_) | (with_reducible refine o_listT ?_) | (with_reducible refine o_listL ?_) | (with_reducible refine o_all ?_) | (with_reducible refine o_any ?_) | ((with_reducible refine o_isi0 ?_); first | refine o_isI kit_int_int rfl ?_ | refine o_isI kit_int_bool rfl ?_ | refine o_isI kit_int_tuple rfl ?_ | refine o_isI kit_int_list rfl ?_ | refine o_isI kit_int_dict rfl ?_ | refine o_isI kit_bool_bool rfl ?_ | refine o_isI kit_bool_int rfl ?_ | refine o_isI kit_bool_tuple rfl ?_ | refine o_isI kit_bool_list rfl ?_ | refine o_isI kit_str_bool rfl ?_ | refine o_isI kit_str_int rfl ?_ | refine o_isI kit_tuple_bool rfl ?_ | refine o_isI kit_tuple_int rfl ?_ | refine o_isI kit_tuple_tuple rfl ?_ | refine o_isI kit_tuple_list rfl ?_ | refine o_isI kit_tuple_dict rfl ?_ | refine o_isI kit_list_bool rfl ?_ | refine o_isI kit_list_int rfl ?_ | refine o_isI kit_list_tuple rfl ?_ | refine o_isI kit_list_list rfl ?_ | refine o_isI kit_list_dict rfl ?_ | refine o_isI kit_non_bool rfl ?_ | refine o_isI kit_non_tuple rfl ?_ | refine o_isI kit_non_int rfl ?_) | ((with_reducible refine o_isit0 ?_); first | refine o_isT kits_int rfl ?_ | refine o_isT kits_str rfl ?_ | refine o_isT kits_tuple rfl ?_ | refine o_isT kits_list rfl ?_) | ((with_reducible apply x_len); · exact Nat.le_of_ble_eq_true rfl) | ((with_reducible apply x_is); · exact rfl) | ((with_reducible apply x_put); (· exact rfl); (· exact rfl); · exact rfl) | ((with_reducible apply x_call0); (· exact List.nodup_nil); · exact rfl) | ((with_reducible apply x_call0); (· exact nd1 _); · exact rfl) | ((with_reducible apply x_one); · exact rfl) | ((with_reducible apply x_two); · exact rfl) | ((with_reducible apply br_T); · exact rfl) | ((with_reducible apply br_F); · exact rfl))))
local macro_rules | `(tactic| walk_at "own3") => `(tactic| (repeat (first | ((with_reducible apply w_stP); · exact (rfl : _ = [_, _, _])) | ((with_reducible apply w_stS); · exact (rfl : _ = [_, _, _])) | ((with_reducible apply w_stA); · exact (rfl : _ = [_, _, _])) | (with_reducible refine w_sseq ?_) | (with_reducible refine w_set ?_) | (with_reducible refine w_ret ?_) | (with_reducible refine w_retN ?_) | (with_reducible refine w_nx ?_) | (with_reducible refine w_drop ?_) | (with_reducible refine w_if ?_) | (with_reducible refine w_asg ?_) | (with_reducible refine w_par ?_) | (with_reducible refine w_par3 ?_) | (with_reducible refine w_put ?_) | (with_reducible refine w_for ?_) | (with_reducible refine w_op ?_) | (with_reducible refine w_un ?_) | (with_reducible refine w_fz ?_) | (with_reducible refine w_fzV ?_) | (with_reducible refine w_fzL ?_) | (with_reducible refine w_c ?_) | ((with_reducible apply w_var); · exact rfl) | ((with_reducible apply w_varO); · exact rfl) | ((with_reducible apply w_mov); · exact rfl) | ((with_reducible apply w_movO); · exact rfl) | ((with_reducible apply w_subV); · exact rfl) | ((with_reducible apply w_subO); · exact rfl) | (with_reducible refine w_chain ?_) | (with_reducible refine w_chK ?_) | (with_reducible refine w_tst ?_) | (with_reducible refine w_not ?_) | (with_reducible refine w_andT ?_) | (with_reducible refine w_orT ?_) | (with_reducible refine w_andV ?_) | (with_reducible refine w_orV ?_) | (with_reducible refine w_notV ?_) | (with_reducible refine w_ife ?_) | (with_reducible refine w_nil ?_) | (with_reducible refine w_cons ?_) | (with_reducible refine w_anil ?_) | (with_reducible refine w_ava ?_) | ((with_reducible apply w_asl); · exact rfl) | (with_reducible refine w_tup ?_) | (with_reducible refine w_lst ?_) | (with_reducible refine w_cb ?_) | (with_reducible refine w_call ?_) | ((with_reducible apply w_app); · exact rfl) | (with_reducible refine w_sl ?_) | (with_reducible refine w_pn ?_) | (with_reducible refine w_ps ?_) | (with_reducible refine w_lc ?_) | (with_reducible refine w_seqX ?_) | (with_reducible refine w_aapp ?_) | (with_reducible refine w_ex1 ?_) | (with_reducible refine w_tryF ?_) | (with_reducible refine w_m1 ?_) | (with_reducible refine w_mw ?_) | (with_reducible refine w_rng1 ?_) | (with_reducible refine w_rng2 ?_) | (with_reducible refine w_zip ?_) | (with_reducible refine o_add ?_) | (with_reducible refine o_eqStr ?_ ?_ ?_) | (with_reducible refine o_neStr ?_ ?_ ?_) | (with_reducible refine o_lenStr ?_ ?_) | (with_reducible refine o_slStr ?_ ?_) | (with_reducible refine o_addStr ?_ ?_) | (with_reducible refine o_addL ?_ ?_) | (with_reducible refine o_inS ?_) | (with_reducible refine o_ninS ?_) | (with_reducible refine o_inL ?_ ?_) | (with_reducible refine o_split ?_ ?_ ?_) | (with_reducible refine o_part ?_ ?_ ?_) | (with_reducible refine o_join ?_ ?_) | (with_reducible refine o_strI ?_ ?_) | (with_reducible refine o_sub ?_) | (with_reducible refine o_mul ?_ ?_) | (with_reducible refine o_mod ?_ ?_) | (with_reducible refine o_div ?_ ?_) | (with_reducible refine o_pow ?_ ?_) | (with_reducible refine o_lt ?_) | (with_reducible refine o_le ?_) | (with_reducible refine o_gt ?_) | (with_reducible refine o_ge ?_) | (with_reducible refine o_eqI ?_) | (with_reducible refine o_slS ?_) | (with_reducible refine o_slL ?_) | (with_reducible refine o_slT ?_) | (with_reducible refine o_eqB ?_) | (with_reducible refine o_neB ?_) | (with_reducible refine o_isnN ?_) | (with_reducible refine o_isnI ?_) | (with_reducible refine o_isnB ?_) | (with_reducible refine o_isnS ?_) | (with_reducible refine o_isnT ?_) | (with_reducible refine o_isnL ?_) | (with_reducible refine o_ntnN ?_) | (with_reducible refine o_ntnI ?_) | (with_reducible refine o_ntnT ?_) | (with_reducible refine o_ntnL ?_) | (with_reducible refine br_t ?_) | (with_reducible refine br_f ?_) | (with_reducible refine br_nt ?_) | (with_reducible refine br_nf ?_) | (with_reducible refine br_d ?_) | (with_reducible refine br_e ?_) | (with_reducible refine o_neI ?_) | (with_reducible refine o_neg ?_) | (with_reducible refine o_abs ?_) | ((with_reducible apply o_ixT); · exact rfl) | ((with_reducible apply o_ixL); · exact rfl) | (with_reducible refine o_len ?_) | (with_reducible refine o_lenL ?_) | (with_reducible refine o_tupT ?_) | (with_reducible refine o_tupL ?_) | (with_reducible refine o_listT ?_) | (with_reducible refine o_listL ?_) | (with_reducible refine o_all ?_) | (with_reducible refine o_any ?_) | ((with_reducible refine o_isi0 ?_); first | refine o_isI kit_int_int rfl ?_ | refine o_isI kit_int_bool rfl ?_ | refine o_isI kit_int_tuple rfl ?_ | refine o_isI kit_int_list rfl ?_ | refine o_isI kit_int_dict rfl ?_ | refine o_isI kit_bool_bool rfl ?_ | refine o_isI kit_bool_int rfl ?_ | refine o_isI kit_bool_tuple rfl ?_ | refine o_isI kit_bool_list rfl ?_ | refine o_isI kit_str_bool rfl ?_ | refine o_isI kit_str_int rfl ?_ | refine o_isI kit_tuple_bool rfl ?_ | refine o_isI kit_tuple_int rfl ?_ | refine o_isI kit_tuple_tuple rfl ?_ | refine o_isI kit_tuple_list rfl ?_ | refine o_isI kit_tuple_dict rfl ?_ | refine o_isI kit_list_bool rfl ?_ | refine o_isI kit_list_int rfl ?_ | refine o_isI kit_list_tuple rfl ?_ | refine o_isI kit_list_list rfl ?_ | refine o_isI kit_list_dict rfl ?_ | refine o_isI kit_non_bool rfl ?_ | refine o_isI kit_non_tuple rfl ?_ | refine o_isI kit_non_int rfl ?_) | ((with_reducible refine o_isit0 ?_); first | refine o_isT kits_int rfl ?_ | refine o_isT kits_str rfl ?_ | refine o_isT kits_tuple rfl ?_ | refine o_isT kits_list rfl ?_) | ((with_reducible apply x_len); · exact Nat.le_of_ble_eq_true rfl) | ((with_reducible apply x_is); · exact rfl) | ((with_reducible apply x_put); (· exact rfl); (· exact rfl); · exact rfl) | ((with_reducible apply x_call0); (· exact List.nodup_nil); · exact rfl) | ((with_reducible apply x_call0); (· exact nd1 _); · exact rfl) | ((with_reducible apply x_one); · exact rfl) | ((with_reducible apply x_two); · exact rfl) | ((with_reducible apply br_T); · exact rfl) | ((with_reducible apply br_F); · exact rfl))))
namespace Lw
open L2 PySem PySem.Spec PyProof.Rows Fm
theorem lnum_ok {n : Nat} {w : Str} (h : Tx n w) (hn : n ≤ 100000) {fig : Int} (h2 : fig ≤ 600) : Fw (f__law_number_in [.va (.str w), .va (.int fig)]) (fun r o => r = .va (dI (numB fig w)) ∧ o = [.un, .un]) NoX := by
  have hb := tx_bar h
  have big := big_of h (by omega)
  have bigb := big_of hb (by omega)
  refine fw_run rfl ?_
  refine w_sseq ?_
  refine w_mid (q := fun f ρ => f = .nx ∧ ρ = [.va (.str w), .va (.int fig), .va (.str (barOf w)), .un]) ?_ ?_
  · walk_at "own4"
    · refine ⟨fun z => ?_, fun z => ?_⟩
      · walk_at "own4"
        · refine ⟨rfl, ?_⟩
          rw [show barOf w = cutS w (some 1) none from if_pos (of_decide_eq_true z)]
          rfl
        · exact big
      · walk_at "own4"
        refine ⟨rfl, ?_⟩
        rw [show barOf w = w from if_neg (of_decide_eq_false z)]
        rfl
    · exact (tx_take h 1).ok
    · decide +kernel
    · exact big
  rintro _ _ ⟨rfl, rfl⟩
  refine w_sseq ?_
  refine w_mid (q := fun f ρ => (NumOk fig w ∧ f = .nx ∧ ρ.take 3 = [.va (.str w), .va (.int fig), .va (.str (barOf w))] ∧ ρ.length = 4) ∨ (¬ NumOk fig w ∧ f = .rt (.va .non) ∧ ρ.length = 4)) ?_ ?_
  · have e0 : (barOf w).length = (sl (barOf w)).length := Array.length_toList.symm
    have emp : (barOf w = "") ↔ (barOf w).length = 0 := by
      constructor
      · intro h
        rw [h]
        decide +kernel
      · intro h
        rw [e0] at h
        exact str_ext ((List.length_eq_zero_iff.mp h).trans (by decide +kernel))
    walk_at "own4"
    · refine ⟨fun a => ?_, fun a => ?_⟩
      · walk_at "own4"
        refine .inr ⟨fun k => ?_, rfl, rfl⟩
        have := k.1.1
        rw [emp.mp (of_decide_eq_true a)] at this
        exact absurd this (by decide)
      · have a : (barOf w).length ≠ 0 := fun z => of_decide_eq_false a (emp.mpr z)
        walk_at "own4"
        · refine ⟨fun b => ?_, fun b => ?_⟩
          · walk_at "own4"
            refine .inr ⟨fun k => ?_, rfl, rfl⟩
            have b := of_decide_eq_true b
            have := k.1.2
            omega
          · have b := of_decide_eq_false b
            walk_at "own4"
            refine w_lcG (L := (sl (barOf w)).map fun c => decide (c ∈ sl "0123456789")) (m := D.bl) (by rw [List.length_map, List.length_map]) (fun i d c hd hc => ?_) (by rw [List.length_map]; exact Nat.le_trans (Nat.le_of_eq Array.length_toList) bigb) ?_
            · obtain ⟨x, e1, rfl⟩ := sg_at hd
              have e2 := map_get e1 hc
              subst e2
              refine ⟨_, rfl, ?_⟩
              walk_at "own4"
              exact ⟨rfl, rfl⟩
            · walk_at "own4"
              refine ⟨fun y => ?_, fun y => ?_⟩
              · walk_at "own4"
                refine .inr ⟨fun k => ?_, rfl, rfl⟩
                have z : ((sl (barOf w)).map fun c => decide (c ∈ sl "0123456789")).all id = true := by
                  rw [List.all_map, List.all_eq_true]
                  exact fun c hc => decide_eq_true (k.2 c hc)
                rw [z] at y
                cases y
              · walk_at "own4"
                refine .inl ⟨⟨⟨by omega, by omega⟩, fun c hc => ?_⟩, rfl, rfl, rfl⟩
                have z : ((sl (barOf w)).map fun c => decide (c ∈ sl "0123456789")).all id = true := by simpa using y
                rw [List.all_map, List.all_eq_true] at z
                exact of_decide_eq_true (z c hc)
        · exact bigb
    · exact hb.ok
    · decide +kernel
  · rintro f ρ (⟨k, rfl, e, el⟩ | ⟨k, rfl, el⟩)
    · obtain ⟨s3, rfl⟩ : ∃ s3, ρ = [.va (.str w), .va (.int fig), .va (.str (barOf w)), s3] := by
        match ρ, el, e with
        | [a, b, c, s3], _, e =>
          cases e
          exact ⟨s3, rfl⟩
      obtain ⟨i, hi⟩ := num_int h2 k
      have short := num_short k h2
      have ne : ∃ c, (sl (barOf w)).head? = some c := by
        have e : (barOf w).length = (sl (barOf w)).length := Array.length_toList.symm
        have k1 := k.1.1
        rw [e] at k1
        cases h5 : sl (barOf w) with
        | nil =>
          rw [h5] at k1
          exact absurd k1 (by decide)
        | cons c r => exact ⟨c, rfl⟩
      obtain ⟨c, hc⟩ := ne
      have hc0 := head_at hc
      have asc : c < 128 := hb.asc c (List.mem_of_mem_head? hc)
      have okc : PyData.strOk ⟨#[c]⟩ = true := by
        unfold PyData.strOk
        simp
        omega
      walk_at "own4"
      refine o_ixStr ?_ hc0 bigb
      walk_at "own4"
      · refine ⟨fun y => ?_, fun y => ?_⟩
        · have y := sign_0.mp (of_decide_eq_true y)
          walk_at "own4"
          · refine ⟨fun x => ?_, fun x => ?_⟩
            · walk_at "own4"
              refine ⟨?_, rfl⟩
              have x : w ≠ "0" := by simpa using x
              unfold numB
              rw [if_pos k, if_pos ⟨by rw [hc, y], x⟩]
              rfl
            · walk_at "own4"
              refine o_intS ?_ hi short
              walk_at "own4"
              refine ⟨?_, rfl⟩
              have x : w = "0" := by simpa using x
              unfold numB
              rw [if_pos k, if_neg (fun z => z.2 x), hi]
              rfl
          · exact h.ok
          · decide +kernel
        · have y : c ≠ 48 := fun z => of_decide_eq_false y (sign_0.mpr z)
          walk_at "own4"
          refine o_intS ?_ hi short
          walk_at "own4"
          refine ⟨?_, rfl⟩
          unfold numB
          rw [if_pos k, if_neg (fun z => y (by rw [hc] at z; exact Option.some.inj z.1)), hi]
          rfl
      · exact okc
      · decide +kernel
    · match ρ, el with
      | [_, _, _, _], _ =>
        refine ⟨?_, rfl⟩
        unfold numB
        rw [if_neg k]
        rfl
theorem lit_abc : sl "abcdefghijklmnopqrstuvwxyz" = [97, 98, 99, 100, 101, 102, 103, 104, 105, 106, 107, 108, 109, 110, 111, 112, 113, 114, 115, 116, 117, 118, 119, 120, 121, 122] := by decide +kernel
def nameB (w : Str) : Bool := decide (0 < (w.length : Int) ∧ (w.length : Int) ≤ 8) && (sl w).all fun c => decide (c ∈ sl "abcdefghijklmnopqrstuvwxyz")
theorem name_lc {n : Nat} {w : Str} (h : Tx n w) (hn : n ≤ 100000) : (sl w).length ≤ 1000000 := Nat.le_trans (Nat.le_of_eq Array.length_toList) (big_of h hn)
theorem name_ok {n : Nat} {w : Str} (h : Tx n w) (hn : n ≤ 100000) : Fw (f_is_name [.va (.str w)]) (fun r o => r = .va (.bl (nameB w)) ∧ o = [.un]) NoX := by
  have big := big_of h hn
  refine fw_run rfl ?_
  walk_at "own2"
  · refine ⟨fun a => ?_, fun a => ?_⟩
    · have a := of_decide_eq_true a
      walk_at "own2"
      refine ⟨fun b => ?_, fun b => ?_⟩
      · have b := of_decide_eq_true b
        walk_at "own2"
        refine w_lcG (L := (sl w).map fun c => decide (c ∈ sl "abcdefghijklmnopqrstuvwxyz")) (m := D.bl) (by rw [List.length_map, List.length_map]) (fun i d c hd hc => ?_) (by rw [List.length_map]; exact name_lc h hn) ?_
        · obtain ⟨x, e1, rfl⟩ := sg_at hd
          have e2 := map_get e1 hc
          subst e2
          refine ⟨_, rfl, ?_⟩
          walk_at "own2"
          exact ⟨rfl, rfl⟩
        · walk_at "own2"
          refine ⟨?_, rfl⟩
          unfold nameB
          rw [decide_eq_true ⟨a, b⟩, List.all_map]
          rfl
      · have b := of_decide_eq_false b
        walk_at "own2"
        refine ⟨?_, rfl⟩
        unfold nameB
        rw [decide_eq_false (fun z => b z.2)]
        rfl
    · have a := of_decide_eq_false a
      walk_at "own2"
      refine ⟨?_, rfl⟩
      unfold nameB
      rw [decide_eq_false (fun z => a z.1)]
      rfl
  · exact big
theorem lname_ok {n : Nat} {w : Str} (h : Tx n w) (hn : n ≤ 100000) : Fw (f__law_is_name [.va (.str w)]) (fun r o => r = .va (.bl (nameB w)) ∧ o = [.un]) NoX := by
  have big := big_of h hn
  refine fw_run rfl ?_
  walk_at "own3"
  · refine ⟨fun a => ?_, fun a => ?_⟩
    · have a := of_decide_eq_true a
      walk_at "own3"
      refine ⟨fun b => ?_, fun b => ?_⟩
      · have b := of_decide_eq_true b
        walk_at "own3"
        refine w_lcG (L := (sl w).map fun c => decide (c ∈ sl "abcdefghijklmnopqrstuvwxyz")) (m := D.bl) (by rw [List.length_map, List.length_map]) (fun i d c hd hc => ?_) (by rw [List.length_map]; exact name_lc h hn) ?_
        · obtain ⟨x, e1, rfl⟩ := sg_at hd
          have e2 := map_get e1 hc
          subst e2
          refine ⟨_, rfl, ?_⟩
          walk_at "own3"
          exact ⟨rfl, rfl⟩
        · walk_at "own3"
          refine ⟨?_, rfl⟩
          unfold nameB
          rw [decide_eq_true ⟨a, by omega⟩, List.all_map]
          rfl
      · have b := of_decide_eq_false b
        walk_at "own3"
        refine ⟨?_, rfl⟩
        unfold nameB
        rw [decide_eq_false (fun z => b (by omega))]
        rfl
    · have a := of_decide_eq_false a
      walk_at "own3"
      refine ⟨?_, rfl⟩
      unfold nameB
      rw [decide_eq_false (fun z => a z.1)]
      rfl
  · exact big
end Lw
set_option maxHeartbeats 990000
namespace Lw
open L2 PySem PySem.Spec PyProof.Rows Fm
theorem spl_ind {S : List Nat} (hS : S ≠ []) {mo : List Nat → List Nat → Prop} (nil : ∀ acc, mo acc []) (hit : ∀ acc c r, TL.pre S (c :: r) = true → mo [] (r.drop (S.length - 1)) → mo acc (c :: r))
    (miss : ∀ acc c r, TL.pre S (c :: r) = false → mo (acc ++ [c]) r → mo acc (c :: r)) : ∀ (n : Nat) (L acc : List Nat), L.length ≤ n → mo acc L
  | _, [], acc, _ => nil acc
  | 0, c :: r, _, h => absurd h (by simp)
  | n + 1, c :: r, acc, h => by
    rw [List.length_cons] at h
    cases e : TL.pre S (c :: r) with
    | true => exact hit acc c r e (spl_ind hS nil hit miss n _ _ (by rw [List.length_drop]; omega))
    | false => exact miss acc c r e (spl_ind hS nil hit miss n _ _ (by omega))
theorem spl_hit0 {S acc r : List Nat} {c : Nat} (h : TL.pre S (c :: r) = true) : TL.spl S 0 acc (c :: r) = acc :: TL.spl S 0 [] (r.drop (S.length - 1)) := by
  rw [TL.spl_hit h, TL.spl_pass]
theorem pre_eq {S l : List Nat} (h : TL.pre S l = true) : l.take S.length = S := eq_of_beq h
theorem pre_len {S r : List Nat} {c : Nat} (h : TL.pre S (c :: r) = true) : S.length ≤ r.length + 1 := by
  have e := congrArg List.length (pre_eq h)
  rw [List.length_take, List.length_cons] at e
  omega
theorem len_pos {S : List Nat} (hS : S ≠ []) : 1 ≤ S.length := List.length_pos_iff.mpr hS
section
variable {S : List Nat} (hS : S ≠ [])
include hS
theorem spl_ne (acc L : List Nat) : TL.spl S 0 acc L ≠ [] := by
  refine spl_ind (mo := fun acc L => TL.spl S 0 acc L ≠ []) hS (fun acc => ?_) (fun acc c r h _ => ?_) (fun acc c r h ih => ?_) L.length L acc (Nat.le_refl _)
  · rw [TL.spl_nil]
    simp
  · rw [spl_hit0 h]
    simp
  · rw [TL.spl_miss h]
    exact ih
theorem spl_mem (acc L : List Nat) : ∀ p ∈ TL.spl S 0 acc L, ∀ c ∈ p, c ∈ acc ∨ c ∈ L := by
  refine spl_ind (mo := fun acc L => ∀ p ∈ TL.spl S 0 acc L, ∀ c ∈ p, c ∈ acc ∨ c ∈ L) hS (fun acc => ?_) (fun acc c r h ih => ?_) (fun acc c r h ih => ?_) L.length L acc (Nat.le_refl _)
  · rw [TL.spl_nil]
    intro p hp c hc
    rw [in_one hp] at hc
    exact .inl hc
  · rw [spl_hit0 h]
    intro p hp d hd
    have z := List.mem_cons.mp hp; rcases z with rfl | hp
    · exact .inl hd
    · rcases ih p hp d hd with z | z
      · cases z
      · exact .inr (List.mem_cons_of_mem _ (List.mem_of_mem_drop z))
  · rw [TL.spl_miss h]
    intro p hp d hd
    rcases ih p hp d hd with z | z
    · rcases in_app z with z | z
      · exact .inl z
      · rw [in_one z]
        exact .inr (List.mem_cons_self ..)
    · exact .inr (List.mem_cons_of_mem _ z)
theorem spl_sum (acc L : List Nat) : ((TL.spl S 0 acc L).map List.length).sum + ((TL.spl S 0 acc L).length - 1) * S.length ≤ acc.length + L.length ∧ (TL.spl S 0 acc L).length ≤ L.length + 1 := by
  refine spl_ind (mo := fun acc L => ((TL.spl S 0 acc L).map List.length).sum + ((TL.spl S 0 acc L).length - 1) * S.length ≤ acc.length + L.length ∧ (TL.spl S 0 acc L).length ≤ L.length + 1) hS (fun acc => ?_) (fun acc c r h ih => ?_) (fun acc c r h ih => ?_) L.length L acc (Nat.le_refl _)
  · rw [TL.spl_nil]
    simp
  · rw [spl_hit0 h]
    have hl := pre_len h
    have hp := len_pos hS
    have n1 : 1 ≤ (TL.spl S 0 [] (r.drop (S.length - 1))).length := List.length_pos_iff.mpr (spl_ne hS _ _)
    obtain ⟨h1, h2⟩ := ih
    rw [List.length_drop] at h1 h2
    rw [List.map_cons, List.sum_cons, List.length_cons, List.length_cons, Nat.add_sub_cancel]
    have e : (TL.spl S 0 [] (r.drop (S.length - 1))).length * S.length = ((TL.spl S 0 [] (r.drop (S.length - 1))).length - 1) * S.length + S.length := by
      obtain ⟨k, hk⟩ : ∃ k, (TL.spl S 0 [] (r.drop (S.length - 1))).length = k + 1 := ⟨_, (Nat.sub_add_cancel n1).symm⟩
      rw [hk, Nat.add_sub_cancel, Nat.succ_mul]
    rw [e]
    rw [show ([] : List Nat).length = 0 from rfl] at h1
    omega
  · rw [TL.spl_miss h]
    obtain ⟨h1, h2⟩ := ih
    rw [List.length_append, List.length_singleton] at h1
    rw [List.length_cons]
    omega
theorem spl_cover (acc L : List Nat) : ∀ c, (c ∈ acc ∨ c ∈ L) → c ∈ S ∨ ∃ p ∈ TL.spl S 0 acc L, c ∈ p := by
  refine spl_ind (mo := fun acc L => ∀ c, (c ∈ acc ∨ c ∈ L) → c ∈ S ∨ ∃ p ∈ TL.spl S 0 acc L, c ∈ p) hS (fun acc => ?_) (fun acc c r h ih => ?_) (fun acc c r h ih => ?_) L.length L acc (Nat.le_refl _)
  · rw [TL.spl_nil]
    intro c hc
    rcases hc with hc | hc
    · exact .inr ⟨acc, List.mem_cons_self .., hc⟩
    · cases hc
  · rw [spl_hit0 h]
    intro d hd
    rcases hd with hd | hd
    · exact .inr ⟨acc, List.mem_cons_self .., hd⟩
    · have hp := len_pos hS
      have sp : c :: r = S ++ r.drop (S.length - 1) := by
        have e := List.take_append_drop S.length (c :: r)
        rw [pre_eq h] at e
        rw [← e]
        congr 1
        obtain ⟨k, hk⟩ : ∃ k, S.length = k + 1 := ⟨_, (Nat.sub_add_cancel hp).symm⟩
        rw [hk, List.drop_succ_cons, Nat.add_sub_cancel]
      rw [sp] at hd
      rcases in_app hd with z | z
      · exact .inl z
      · rcases ih d (.inr z) with y | ⟨p, y1, y2⟩
        · exact .inl y
        · exact .inr ⟨p, List.mem_cons_of_mem _ y1, y2⟩
  · rw [TL.spl_miss h]
    intro d hd
    refine ih d ?_
    rcases hd with hd | hd
    · exact .inl (List.mem_append_left _ hd)
    · have z := List.mem_cons.mp hd; rcases z with rfl | hd
      · exact .inl (List.mem_append_right _ (List.mem_cons_self ..))
      · exact .inr hd
/-- the first cut, and all of them -/
theorem par_spl (acc L : List Nat) : (∀ p r, TL.par S acc L = some (p, r) → TL.spl S 0 acc L = p :: TL.spl S 0 [] r ∧ (∀ c ∈ r, c ∈ L) ∧ (∀ c ∈ S, c ∈ L) ∧ r.length ≤ L.length) ∧ (TL.par S acc L = none → TL.spl S 0 acc L = [acc ++ L]) := by
  refine spl_ind (mo := fun acc L => (∀ p r, TL.par S acc L = some (p, r) → TL.spl S 0 acc L = p :: TL.spl S 0 [] r ∧ (∀ c ∈ r, c ∈ L) ∧ (∀ c ∈ S, c ∈ L) ∧ r.length ≤ L.length) ∧ (TL.par S acc L = none → TL.spl S 0 acc L = [acc ++ L])) hS (fun acc => ?_) (fun acc c r h ih => ?_) (fun acc c r h ih => ?_) L.length L acc (Nat.le_refl _)
  · refine ⟨fun p r e => ?_, fun _ => ?_⟩
    · unfold TL.par at e
      cases e
    · rw [TL.spl_nil, List.append_nil]
  · have hp := len_pos hS
    refine ⟨fun p q e => ?_, fun e => ?_⟩
    · rw [TL.par_hit h] at e
      cases e
      have dr : (c :: r).drop S.length = r.drop (S.length - 1) := by
        obtain ⟨k, hk⟩ : ∃ k, S.length = k + 1 := ⟨_, (Nat.sub_add_cancel hp).symm⟩
        rw [hk, List.drop_succ_cons, Nat.add_sub_cancel]
      rw [spl_hit0 h, dr]
      refine ⟨rfl, fun d hd => List.mem_cons_of_mem _ (List.mem_of_mem_drop hd), fun d hd => ?_, ?_⟩
      · rw [← pre_eq h] at hd
        exact List.mem_of_mem_take hd
      · rw [List.length_drop, List.length_cons]
        omega
    · rw [TL.par_hit h] at e
      cases e
  · rw [TL.par_miss h, TL.spl_miss h]
    refine ⟨fun p q e => ?_, fun e => ?_⟩
    · obtain ⟨h1, h2, h3, h4⟩ := ih.1 p q e
      exact ⟨h1, fun d hd => List.mem_cons_of_mem _ (h2 d hd), fun d hd => List.mem_cons_of_mem _ (h3 d hd), by rw [List.length_cons]; omega⟩
    · rw [ih.2 e, List.append_assoc]
      rfl
end
end Lw
set_option maxHeartbeats 990000
namespace Lw
open L2 PySem PySem.Spec PyProof.Rows Fm
theorem lit_sp : sl " " = [32] := by decide +kernel
theorem lit_col : sl ": " = [58, 32] := by decide +kernel
theorem lit_com : sl ", " = [44, 32] := by decide +kernel
theorem lit_sem : sl "; " = [59, 32] := by decide +kernel
theorem le_sum {l : List Nat} {a : Nat} (h : a ∈ l) : a ≤ l.sum := by
  induction l with
  | nil => cases h
  | cons b l ih =>
    have z := List.mem_cons.mp h
    rw [List.sum_cons]
    rcases z with rfl | z
    · omega
    · have := ih z
      omega
/-- a separator -/
structure Sep (y : Str) : Prop where
  ne : sl y ≠ []
  low : y.cps.all (· < 256) = true
theorem sep_sp : Sep " " := ⟨by rw [lit_sp]; simp, by decide +kernel⟩
theorem sep_col : Sep ": " := ⟨by rw [lit_col]; simp, by decide +kernel⟩
theorem sep_com : Sep ", " := ⟨by rw [lit_com]; simp, by decide +kernel⟩
theorem sep_sem : Sep "; " := ⟨by rw [lit_sem]; simp, by decide +kernel⟩
section
variable {x y : Str} (h : Sep y)
include h
theorem split_map : (Txt.split x y).map sl = TL.spl (sl y) 0 [] (sl x) := TL.split_spl x y h.ne (TL.kind_ok h.low)
theorem sep_len : y.length ≠ 0 := fun z => h.ne (List.length_eq_zero_iff.mp ((Array.length_toList (xs := y.cps)).trans z))
theorem split_ne : Txt.split x y ≠ [] := fun z => by
  have e := split_map (x := x) h
  rw [z] at e
  exact spl_ne h.ne [] (sl x) e.symm
theorem split_in {p : Str} (hp : p ∈ Txt.split x y) : sl p ∈ TL.spl (sl y) 0 [] (sl x) := by
  rw [← split_map h]
  exact List.mem_map_of_mem hp
theorem len_sum (l : List Str) : (l.map (·.length)).sum = ((l.map sl).map List.length).sum := by
  rw [List.map_map]
  congr 1
theorem split_sum : ((Txt.split x y).map (·.length)).sum + ((Txt.split x y).length - 1) * y.length ≤ x.length ∧ (Txt.split x y).length ≤ x.length + 1 := by
  have e := spl_sum h.ne [] (sl x)
  rw [← split_map h, List.length_map] at e
  have e1 : x.length = (sl x).length := Array.length_toList.symm
  have e2 : y.length = (sl y).length := Array.length_toList.symm
  rw [len_sum h, e1, e2]
  simpa using e
theorem split_tx {n : Nat} (hx : Tx n x) {p : Str} (hp : p ∈ Txt.split x y) : Tx n p := by
  have m := split_in h hp
  refine ⟨?_, fun c hc => ?_⟩
  · have s := (split_sum (x := x) h).1
    have z : p.length ≤ ((Txt.split x y).map (·.length)).sum := le_sum (List.mem_map_of_mem (f := (·.length)) hp)
    have := hx.len
    omega
  · rcases spl_mem h.ne [] (sl x) _ m c hc with z | z
    · cases z
    · exact hx.asc c z
theorem split_cover {c : Nat} (hc : c ∈ sl x) : c ∈ sl y ∨ ∃ p ∈ Txt.split x y, c ∈ sl p := by
  rcases spl_cover h.ne [] (sl x) c (.inr hc) with z | ⟨q, z1, z2⟩
  · exact .inl z
  · rw [← split_map h] at z1
    obtain ⟨p, p1, rfl⟩ := List.mem_map.mp z1
    exact .inr ⟨p, p1, z2⟩
end
/-! ### what is read -/
def allO {α : Type} : List (Option α) → Option (List α)
  | [] => some []
  | none :: _ => none
  | some a :: l => (allO l).map (a :: ·)
theorem allO_none {α : Type} : ∀ {l : List (Option α)}, none ∈ l → allO l = none
  | none :: _, _ => rfl
  | some a :: l, h => by
    have z := List.mem_cons.mp h; rcases z with z | z
    · cases z
    · show (allO l).map _ = none
      rw [allO_none z]
      rfl
theorem allO_some {α : Type} : ∀ {l : List (Option α)}, (∀ x ∈ l, x ≠ none) → ∃ m, allO l = some m ∧ l = m.map some
  | [], _ => ⟨[], rfl, rfl⟩
  | none :: _, h => absurd rfl (h _ (List.mem_cons_self ..))
  | some a :: l, h => by
    obtain ⟨m, e1, e2⟩ := allO_some fun x hx => h x (List.mem_cons_of_mem _ hx)
    refine ⟨a :: m, ?_, ?_⟩
    · show (allO l).map _ = _
      rw [e1]
      rfl
    · rw [e2]
      rfl
theorem allO_eq {α : Type} {l : List (Option α)} {m : List α} (h : allO l = some m) : l = m.map some := by
  by_cases z : none ∈ l
  · rw [allO_none z] at h
    cases h
  · obtain ⟨m', e1, e2⟩ := allO_some (l := l) fun x hx e => z (e ▸ hx)
    rw [e1] at h
    cases h
    exact e2
theorem allO_app {α : Type} {l : List (Option α)} {m : List α} {a : α} (h : allO l = some m) : allO (l ++ [some a]) = some (m ++ [a]) := by
  rw [allO_eq h]
  have : ∀ m : List α, allO (m.map some ++ [some a]) = some (m ++ [a]) := by
    intro m
    induction m with
    | nil => rfl
    | cons b m ih =>
      show (allO (m.map some ++ [some a])).map _ = _
      rw [ih]
      rfl
  exact this m
abbrev Step : Type := Str × List Int
abbrev Rnd : Type := Int × List Step
def numsB (ws : List Str) : Option (List Int) := allO (ws.map (numB 7))
def stepB (t : Str) : Option Step := if nameB ((Txt.split t " ").headD "") then (numsB (Txt.split t " ").tail).map fun l => ((Txt.split t " ").headD "", l) else none
def stepsB (r : Str) : Option (List Step) := allO ((Txt.split r ", ").map stepB)
def roundB (t : Str) : Option Rnd := match TL.par (sl ": ") [] (sl t) with
  | none => none
  | some (p, r) => match numB 30 ⟨p.toArray⟩ with
    | none => none
    | some k => if k < 1 then none else (stepsB ⟨r.toArray⟩).map fun l => (k, l)
def walkB (t : Str) : Option (List Rnd) := if t = "stay" then some [] else allO ((Txt.split t "; ").map roundB)
abbrev dS (s : Step) : D := .tup [.str s.1, .tup (s.2.map D.int)]
abbrev dR (r : Rnd) : D := .tup [.int r.1, .tup (r.2.map dS)]
def dO {α : Type} (f : α → D) : Option α → D
  | none => .non
  | some a => f a
abbrev dNs (l : List Int) : D := .tup (l.map D.int)
theorem dI_eq (o : Option Int) : dI o = dO D.int o := by cases o <;> rfl
end Lw
set_option maxHeartbeats 990000
open L2 PySem PySem.Spec PyProof.Rows Fm
namespace Lw
open L2 PySem PySem.Spec PyProof.Rows Fm
theorem take_snoc {α : Type} {l : List α} {i : Nat} {a : α} (h : l[i]? = some a) : l.take (i + 1) = l.take i ++ [a] := by
  rw [List.take_succ, h]
  rfl
theorem allO_stop {α γ : Type} {f : γ → Option α} {l : List γ} {i : Nat} {c : γ} (h : l[i]? = some c) (e : f c = none) : allO (l.map f) = none :=
  allO_none (List.mem_map.mpr ⟨c, List.mem_of_getElem? h, e⟩)
theorem allO_more {α γ : Type} {f : γ → Option α} {l : List γ} {i : Nat} {c : γ} {m : List α} {a : α} (h : l[i]? = some c) (e : f c = some a) (k : allO ((l.take i).map f) = some m) : allO ((l.take (i + 1)).map f) = some (m ++ [a]) := by
  rw [take_snoc h, List.map_append, show [c].map f = [some a] by rw [← e]; rfl]
  exact allO_app k
/-- some are none -/
theorem any_none {α : Type} {l : List (Option α)} (h : (l.map Option.isNone).any id = true) : allO l = none := by
  rw [List.any_map, List.any_eq_true] at h
  obtain ⟨o, h1, h2⟩ := h
  have h2 : o.isNone = true := h2
  refine allO_none ?_
  cases o with
  | none => exact h1
  | some a => cases h2
theorem any_some {α : Type} {l : List (Option α)} (h : (l.map Option.isNone).any id = false) : ∃ m, allO l = some m ∧ l = m.map some := by
  refine allO_some fun o h1 h2 => ?_
  subst h2
  have z : (l.map Option.isNone).any id = true := by
    rw [List.any_map, List.any_eq_true]
    exact ⟨none, h1, rfl⟩
  rw [h] at z
  cases z
theorem numbers_ok {n : Nat} {ws : List Str} (h : ∀ w ∈ ws, Tx n w) (hn : n ≤ 100000) (hl : ws.length ≤ 100000) : Fw (f_numbers_in [.va (.lst false (ws.map D.str))]) (fun r o => r = .va (dO dNs (numsB ws)) ∧ o = [.un]) NoX := by
  refine fw_run rfl ?_
  walk_at "own4"
  refine w_forL (I := fun i ρ => ∃ m s2 s3, ρ = [.va (.lst false (ws.map D.str)), .ow (.lst false (m.map D.int)), s2, s3] ∧ allO ((ws.take i).map (numB 7)) = some m ∧ m.length = i) ?_ ⟨[], _, _, rfl, rfl, rfl⟩ ?_
  · rintro i d ρ hd ⟨m, s2, s3, rfl, hm, lm⟩
    rw [List.getElem?_map] at hd
    obtain ⟨w, hw, rfl⟩ := Option.map_eq_some_iff.mp hd
    have hi := (List.getElem?_eq_some_iff.mp hw).1
    refine ⟨_, rfl, ?_⟩
    walk_at "own4"
    refine fw_mono (number_ok (h w (List.mem_of_getElem? hw)) hn (by decide)) ?_
    rintro r o ⟨rfl, rfl⟩
    cases hb : numB 7 w with
    | none =>
      rw [show dI none = .non from rfl]
      walk_at "own4"
      refine ⟨?_, rfl⟩
      unfold numsB
      rw [allO_stop hw hb]
      rfl
    | some k =>
      rw [show dI (some k) = .int k from rfl]
      walk_at "own4"
      refine ⟨_, _, _, rfl, rfl, ?_, ?_⟩
      · rw [List.length_map]
        omega
      · refine ⟨m ++ [k], _, _, by rw [List.map_append]; rfl, allO_more hw hb hm, by rw [List.length_append, lm]; rfl⟩
  · rintro ρ ⟨m, s2, s3, rfl, hm, lm⟩
    rw [List.length_map, List.take_length] at hm
    walk_at "own4"
    refine ⟨?_, rfl⟩
    unfold numsB
    rw [hm]
    rfl
end Lw
set_option maxHeartbeats 990000
open L2 PySem PySem.Spec PyProof.Rows Fm
namespace Lw
open L2 PySem PySem.Spec PyProof.Rows Fm
theorem cutD_from (l : List D) (k : Nat) : cutD l (some (k : Int)) none = l.drop k := by
  show ((l.drop (HT.sIx l.length 0 (some (k : Int)))).take (HT.sIx l.length l.length none - HT.sIx l.length 0 (some (k : Int)))) = _
  rw [HT.sIx_nat, HT.sIx_none]
  rw [List.take_of_length_le (by rw [List.length_drop]; exact Nat.le_refl _)]
  by_cases h : k ≤ l.length
  · rw [Nat.min_eq_left h]
  · rw [Nat.min_eq_right (by omega)]
    rw [List.drop_of_length_le (Nat.le_refl _), List.drop_of_length_le (by omega)]
theorem cutD_upto (l : List D) (k : Nat) : cutD l none (some (k : Int)) = l.take k := by
  show ((l.drop (HT.sIx l.length 0 none)).take (HT.sIx l.length l.length (some (k : Int)) - HT.sIx l.length 0 none)) = _
  rw [HT.sIx_nat, HT.sIx_none, List.drop_zero, Nat.sub_zero]
  by_cases h : k ≤ l.length
  · rw [Nat.min_eq_left h]
  · rw [Nat.min_eq_right (by omega)]
    rw [List.take_of_length_le (Nat.le_refl _), List.take_of_length_le (by omega)]
theorem cutD_tail (w : Str) (ws : List Str) : cutD ((w :: ws).map D.str) (some 1) none = ws.map D.str := cutD_from _ 1
theorem at_hd (d : D) (l : List D) : atI (d :: l) 0 = some d := Fm.atI_nat (d :: l) 0
theorem split_cons {x y : Str} (h : Sep y) : ∃ w ws, Txt.split x y = w :: ws := by
  cases e : Txt.split x y with
  | nil => exact absurd e (split_ne h)
  | cons w ws => exact ⟨w, ws, rfl⟩
theorem stepB_eq {t w : Str} {ws : List Str} (e : Txt.split t " " = w :: ws) : stepB t = if nameB w then (numsB ws).map fun l => (w, l) else none := by
  unfold stepB
  rw [e]
  rfl
theorem split_len {n : Nat} {x y : Str} (h : Sep y) (hx : Tx n x) : (Txt.split x y).length ≤ n + 1 := by
  have := (split_sum (x := x) h).2
  have := hx.len
  omega
theorem step_ok {n : Nat} {t : Str} (h : Tx n t) (hn : n ≤ 90000) : Fw (f_step_in [.va (.str t)]) (fun r o => r = .va (dO dS (stepB t)) ∧ o = [.un]) NoX := by
  have big := big_of h (by omega)
  obtain ⟨w, ws, e⟩ := split_cons (x := t) sep_sp
  have tx := fun p (hp : p ∈ Txt.split t " ") => split_tx sep_sp h hp
  have ln := split_len sep_sp h
  rw [e] at tx ln
  rw [List.length_cons] at ln
  rw [stepB_eq e]
  refine fw_run rfl ?_
  walk_at "own3"
  · rw [e, List.map_cons]
    walk_at "own3"
    rw [← List.map_cons, cutD_tail]
    walk_at "own3"
    refine fw_mono (numbers_ok (fun p hp => tx p (List.mem_cons_of_mem _ hp)) (by omega) (by omega)) ?_
    rintro r o ⟨rfl, rfl⟩
    walk_at "own3"
    refine o_ixL (at_hd _ _) ?_
    walk_at "own3"
    refine fw_mono (name_ok (tx w (List.mem_cons_self ..)) (by omega)) ?_
    rintro r o ⟨rfl, rfl⟩
    walk_at "own3"
    cases hb : nameB w with
    | false =>
      walk_at "own3"
      exact ⟨rfl, rfl⟩
    | true =>
      walk_at "own3"
      cases hc : numsB ws with
      | none =>
        rw [show dO dNs none = .non from rfl]
        walk_at "own3"
        exact ⟨rfl, rfl⟩
      | some l =>
        rw [show dO dNs (some l) = .tup (l.map D.int) from rfl]
        walk_at "own3"
        refine o_ixL (at_hd _ _) ?_
        walk_at "own3"
        exact ⟨rfl, rfl⟩
  · exact big
  · exact sep_len sep_sp
end Lw
set_option maxHeartbeats 990000
open L2 PySem PySem.Spec PyProof.Rows Fm
local macro_rules | `(tactic| walk_at "own8") => `(tactic| (repeat (first | ((with_reducible apply w_stP); · exact (rfl : _ = [_, _, _, _, _, _, _, _])) | ((with_reducible apply w_stS); · exact (rfl : _ = [_, _, _, _, _, _, _, _])) | ((with_reducible apply w_stA); · exact (rfl : _ = [_, _, _, _, _, _, _, _])) | (with_reducible refine w_sseq ?_) | (with_reducible refine w_set ?_) | (with_reducible refine w_ret ?_) | (with_reducible refine w_retN ?_) | (with_reducible refine w_nx ?_) | (with_reducible refine w_drop ?_) | (with_reducible refine w_if ?_) | (with_reducible refine w_asg ?_) | (with_reducible refine w_par ?_) | (with_reducible refine w_par3 ?_) | (with_reducible refine w_put ?_) | (with_reducible refine w_for ?_) | (with_reducible refine w_op ?_) | (with_reducible refine w_un ?_) | (with_reducible refine w_fz ?_) | (with_reducible refine w_fzV ?_) | (with_reducible refine w_fzL ?_) | (with_reducible refine w_c ?_) | ((with_reducible apply w_var); · exact rfl) | ((with_reducible apply w_varO); · exact rfl) | ((with_reducible apply w_mov); · exact rfl) | ((with_reducible apply w_movO); · exact rfl) | ((with_reducible apply w_subV); · exact rfl) | ((with_reducible apply w_subO); · exact rfl) | (with_reducible refine w_chain ?_) | (with_reducible refine w_chK ?_) | (with_reducible refine w_tst ?_) | (with_reducible refine w_not ?_) | (with_reducible refine w_andT ?_) | (with_reducible refine w_orT ?_) | (with_reducible refine w_andV ?_) | (with_reducible refine w_orV ?_) | (with_reducible refine w_notV ?_) | (with_reducible refine w_ife ?_) | (with_reducible refine w_nil ?_) | (with_reducible refine w_cons ?_) | (with_reducible refine w_anil ?_) | (with_reducible refine w_ava ?_) | ((with_reducible apply w_asl); · exact rfl) | (with_reducible refine w_tup ?_) | (with_reducible refine w_lst ?_) | (with_reducible refine w_cb ?_) | (with_reducible refine w_call ?_) | ((with_reducible apply w_app); · exact rfl) | (with_reducible refine w_sl ?_) | (with_reducible refine w_pn ?_) | (with_reducible refine w_ps ?_) | (with_reducible refine w_lc ?_) | (with_reducible refine w_seqX ?_) | (with_reducible refine w_aapp ?_) | (with_reducible refine w_ex1 ?_) | (with_reducible refine w_tryF ?_) | (with_reducible refine w_m1 ?_) | (with_reducible refine w_mw ?_) | (with_reducible refine w_rng1 ?_) | (with_reducible refine w_rng2 ?_) | (with_reducible refine w_zip ?_) | (with_reducible refine o_add ?_) | (with_reducible refine o_eqStr ?_ ?_ ?_) | (with_reducible refine o_neStr ?_ ?_ ?_) | (with_reducible refine o_lenStr ?_ ?_) | (with_reducible refine o_slStr ?_ ?_) | (with_reducible refine o_addStr ?_ ?_) | (with_reducible refine o_addL ?_ ?_) | (with_reducible refine o_inS ?_) | (with_reducible refine o_ninS ?_) | (with_reducible refine o_inL ?_ ?_) | (with_reducible refine o_split ?_ ?_ ?_) | (with_reducible refine o_part ?_ ?_ ?_) | (with_reducible refine o_join ?_ ?_) | (with_reducible refine o_strI ?_ ?_) | (with_reducible refine o_sub ?_) | (with_reducible refine o_mul ?_ ?_) | (with_reducible refine o_mod ?_ ?_) | (with_reducible refine o_div ?_ ?_) | (with_reducible refine o_pow ?_ ?_) | (with_reducible refine o_lt ?_) | (with_reducible refine o_le ?_) | (with_reducible refine o_gt ?_) | (with_reducible refine o_ge ?_) | (with_reducible refine o_eqI ?_) | (with_reducible refine o_slS ?_) | (with_reducible refine o_slL ?_) | (with_reducible refine o_slT ?_) | (with_reducible refine o_eqB ?_) | (with_reducible refine o_neB ?_) | (with_reducible refine o_isnN ?_) | (with_reducible refine o_isnI ?_) | (with_reducible refine o_isnB ?_) | (with_reducible refine o_isnS ?_) | (with_reducible refine o_isnT ?_) | (with_reducible refine o_isnL ?_) | (with_reducible refine o_ntnN ?_) | (with_reducible refine o_ntnI ?_) | (with_reducible refine o_ntnT ?_) | (with_reducible refine o_ntnL ?_) | (with_reducible refine br_t ?_) | (with_reducible refine br_f ?_) | (with_reducible refine br_nt ?_) | (with_reducible refine br_nf ?_) | (with_reducible refine br_d ?_) | (with_reducible refine br_e ?_) | (with_reducible refine o_neI ?_) | (with_reducible refine o_neg ?_) | (with_reducible refine o_abs ?_) | ((with_reducible apply o_ixT); · exact rfl) | ((with_reducible apply o_ixL); · exact rfl) | (with_reducible refine o_len ?_) | (with_reducible refine o_lenL ?_) | (with_reducible refine o_tupT ?_) | (with_reducible refine o_tupL ?_) | (with_reducible refine o_listT ?_) | (with_reducible refine o_listL ?_) | (with_reducible refine o_all ?_) | (with_reducible refine o_any ?_) | ((with_reducible refine o_isi0 ?_); first | refine o_isI kit_int_int rfl ?_ | refine o_isI kit_int_bool rfl ?_ | refine o_isI kit_int_tuple rfl ?_ | refine o_isI kit_int_list rfl ?_ | refine o_isI kit_int_dict rfl ?_ | refine o_isI kit_bool_bool rfl ?_ | refine o_isI kit_bool_int rfl ?_ | refine o_isI kit_bool_tuple rfl ?_ | refine o_isI kit_bool_list rfl ?_ | refine o_isI kit_str_bool rfl ?_ | refine o_isI kit_str_int rfl ?_ | refine o_isI kit_tuple_bool rfl ?_ | refine o_isI kit_tuple_int rfl ?_ | refine o_isI kit_tuple_tuple rfl ?_ | refine o_isI kit_tuple_list rfl ?_ | refine o_isI kit_tuple_dict rfl ?_ | refine o_isI kit_list_bool rfl ?_ | refine o_isI kit_list_int rfl ?_ | refine o_isI kit_list_tuple rfl ?_ | refine o_isI kit_list_list rfl ?_ | refine o_isI kit_list_dict rfl ?_ | refine o_isI kit_non_bool rfl ?_ | refine o_isI kit_non_tuple rfl ?_ | refine o_isI kit_non_int rfl ?_) | ((with_reducible refine o_isit0 ?_); first | refine o_isT kits_int rfl ?_ | refine o_isT kits_str rfl ?_ | refine o_isT kits_tuple rfl ?_ | refine o_isT kits_list rfl ?_) | ((with_reducible apply x_len); · exact Nat.le_of_ble_eq_true rfl) | ((with_reducible apply x_is); · exact rfl) | ((with_reducible apply x_put); (· exact rfl); (· exact rfl); · exact rfl) | ((with_reducible apply x_call0); (· exact List.nodup_nil); · exact rfl) | ((with_reducible apply x_call0); (· exact nd1 _); · exact rfl) | ((with_reducible apply x_one); · exact rfl) | ((with_reducible apply x_two); · exact rfl) | ((with_reducible apply br_T); · exact rfl) | ((with_reducible apply br_F); · exact rfl))))
namespace Lw
open L2 PySem PySem.Spec PyProof.Rows Fm
theorem sl_mk (l : List Nat) : sl ⟨l.toArray⟩ = l := rfl
theorem map_sl_inj : ∀ {l m : List Str}, l.map sl = m.map sl → l = m
  | [], [], _ => rfl
  | [], _ :: _, h => by cases h
  | _ :: _, [], h => by cases h
  | a :: l, b :: m, h => by
    obtain ⟨h1, h2⟩ := List.cons.inj h
    rw [str_ext h1, map_sl_inj h2]
structure Cut (n : Nat) (x y : Str) (p r : List Nat) : Prop where
  one : Tx n ⟨p.toArray⟩
  two : Tx n ⟨r.toArray⟩
  e : Txt.split x y = ⟨p.toArray⟩ :: Txt.split ⟨r.toArray⟩ y
  q : Txt.partition x y = (⟨p.toArray⟩, y, ⟨r.toArray⟩)
theorem cut_of {n : Nat} {x y : Str} (h : Sep y) (hx : Tx n x) {p r : List Nat} (e : TL.par (sl y) [] (sl x) = some (p, r)) : Cut n x y p r := by
  obtain ⟨h1, h2, h3, h4⟩ := (par_spl h.ne [] (sl x)).1 p r e
  have hs : Txt.split x y = ⟨p.toArray⟩ :: Txt.split ⟨r.toArray⟩ y := map_sl_inj (by
    rw [split_map h, List.map_cons, split_map h, h1])
  have e1 : x.length = (sl x).length := Array.length_toList.symm
  have e2 : (⟨r.toArray⟩ : Str).length = r.length := (Array.length_toList (xs := r.toArray)).symm
  refine ⟨split_tx h hx (by rw [hs]; exact List.mem_cons_self ..), ⟨?_, fun c hc => hx.asc c (h2 c hc)⟩, hs, ?_⟩
  · have := hx.len
    omega
  · rw [TL.partition_par x y h.ne, show TL.tl x = sl x from rfl, show TL.tl y = sl y from rfl, e]
theorem cut_no {x y : Str} (h : Sep y) (e : TL.par (sl y) [] (sl x) = none) : Txt.split x y = [x] ∧ Txt.partition x y = (x, ("" : Str), ("" : Str)) := by
  refine ⟨map_sl_inj ?_, ?_⟩
  · rw [split_map h, (par_spl h.ne [] (sl x)).2 e]
    rfl
  · rw [TL.partition_par x y h.ne, show TL.tl x = sl x from rfl, show TL.tl y = sl y from rfl, e]
    exact congrArg (fun z => (x, z, z)) (str_ext (by decide +kernel))
theorem roundB_no {t : Str} (e : TL.par (sl ": ") [] (sl t) = none) : roundB t = none := by
  unfold roundB
  rw [e]
theorem roundB_eq {t : Str} {p r : List Nat} (e : TL.par (sl ": ") [] (sl t) = some (p, r)) : roundB t = match numB 30 ⟨p.toArray⟩ with
  | none => none
  | some k => if k < 1 then none else (stepsB ⟨r.toArray⟩).map fun l => (k, l) := by
  unfold roundB
  rw [e] <;> rfl
theorem o_isO {α : Type} {f : α → D} {c : Option α} {p : SD → Prop} (hf : ∀ a, ∃ l, f a = .tup l) (h : p (.va (.bl c.isNone))) : Ow (isnD (dO f c) .non) p := by
  cases c with
  | none => exact o_isnN h
  | some a =>
    obtain ⟨l, e⟩ := hf a
    rw [show dO f (some a) = f a from rfl, e]
    exact o_isnT h
theorem map_dO {α : Type} {f : α → D} {l : List (Option α)} {m : List α} (e : l = m.map some) : l.map (dO f) = m.map f := by
  rw [e, List.map_map]
  rfl
theorem round_ok {n : Nat} {t : Str} (h : Tx n t) (hn : n ≤ 90000) : Fw (f_round_in [.va (.str t)]) (fun r o => r = .va (dO dR (roundB t)) ∧ o = [.un]) NoX := by
  have big := big_of h (by omega)
  refine fw_run rfl ?_
  cases e : TL.par (sl ": ") [] (sl t) with
  | none =>
    rw [roundB_no e]
    obtain ⟨_, e2⟩ := cut_no sep_col e
    walk_at "own8"
    · rw [e2]
      dsimp only
      walk_at "own8"
      refine fw_mono (number_ok h (by omega) (by decide)) ?_
      rintro r o ⟨rfl, rfl⟩
      walk_at "own8"
      · exact ⟨rfl, rfl⟩
      · decide +kernel
      · decide +kernel
    · exact big
    · exact sep_len sep_col
  | some pr =>
    obtain ⟨p, q⟩ := pr
    rw [roundB_eq e]
    have c := cut_of sep_col h e
    walk_at "own8"
    · rw [c.q]
      dsimp only
      walk_at "own8"
      refine fw_mono (number_ok c.one (by omega) (by decide)) ?_
      rintro r o ⟨rfl, rfl⟩
      walk_at "own8"
      · cases hb : numB 30 ⟨p.toArray⟩ with
        | none =>
          rw [show dI none = .non from rfl]
          walk_at "own8"
          exact ⟨rfl, rfl⟩
        | some k =>
          rw [show dI (some k) = .int k from rfl]
          walk_at "own8"
          refine ⟨fun a => ?_, fun a => ?_⟩
          · have a := of_decide_eq_true a
            walk_at "own8"
            refine ⟨?_, rfl⟩
            dsimp only
            rw [if_pos a]
            rfl
          · have a := of_decide_eq_false a
            walk_at "own8"
            · have sn := split_len sep_com c.two
              refine w_lcG (L := (Txt.split ⟨q.toArray⟩ ", ").map stepB) (m := dO dS) (by rw [List.length_map, List.length_map]) (fun i d c2 hd hc => ?_) (by rw [List.length_map]; omega) ?_
              · rw [List.getElem?_map] at hd
                obtain ⟨w, hw, rfl⟩ := Option.map_eq_some_iff.mp hd
                have hc := map_get hw hc
                subst hc
                refine ⟨_, rfl, ?_⟩
                walk_at "own8"
                refine fw_mono (step_ok (split_tx sep_com c.two (List.mem_of_getElem? hw)) hn) ?_
                rintro r o ⟨rfl, rfl⟩
                walk_at "own8"
                exact ⟨rfl, rfl⟩
              walk_at "own8"
              refine w_lcG (L := ((Txt.split ⟨q.toArray⟩ ", ").map stepB).map Option.isNone) (m := D.bl) (by simp only [List.length_map]) (fun i d c2 hd hc => ?_) (by simp only [List.length_map]; omega) ?_
              · rw [List.getElem?_map] at hd
                obtain ⟨w, hw, rfl⟩ := Option.map_eq_some_iff.mp hd
                have hc := map_get hw hc
                subst hc
                refine ⟨_, rfl, ?_⟩
                walk_at "own8"
                refine o_isO (fun a => ⟨_, rfl⟩) ?_
                exact ⟨rfl, rfl⟩
              walk_at "own8"
              refine ⟨fun b => ?_, fun b => ?_⟩
              · walk_at "own8"
                refine ⟨?_, rfl⟩
                dsimp only
                rw [if_neg a]
                unfold stepsB
                rw [any_none b]
                rfl
              · obtain ⟨m, e1, e2⟩ := any_some b
                rw [map_dO e2]
                walk_at "own8"
                refine ⟨?_, rfl⟩
                dsimp only
                rw [if_neg a]
                unfold stepsB
                rw [e1]
                rfl
            · exact big_of c.two (by omega)
            · exact sep_len sep_com
      · decide +kernel
      · decide +kernel
    · exact big
    · exact sep_len sep_col
def badX : Exn := ⟨"BadText", [("row", .int 0), ("called", .str "badtext")]⟩
theorem walk_ok {n : Nat} {t : Str} (h : Tx n t) (hn : n ≤ 90000) : (∀ l, walkB t = some l → Fw (f_read_walk [.va (.str t)]) (fun r o => (r = .va (.lst false (l.map dR)) ∨ r = .ow (.lst false (l.map dR))) ∧ o = [.un]) NoX)
    ∧ (walkB t = none → Fw (f_read_walk [.va (.str t)]) (fun _ _ => False) fun x o => x = badX ∧ o = [.un]) := by
  have big := big_of h (by omega)
  have sn := split_len sep_sem h
  by_cases z : t = "stay"
  · have e : walkB t = some [] := if_pos z
    rw [e]
    refine ⟨fun l hl => ?_, fun z => by cases z⟩
    cases hl
    refine fw_run rfl ?_
    walk_at "own3"
    · rw [decide_eq_true z]
      walk_at "own3"
      exact ⟨.inr rfl, rfl⟩
    · exact h.ok
    · decide +kernel
  · have e : walkB t = allO ((Txt.split t "; ").map roundB) := if_neg z
    rw [e]
    constructor
    · intro l hl
      have hm := allO_eq hl
      refine fw_run rfl ?_
      walk_at "own3"
      · rw [decide_eq_false z]
        walk_at "own3"
        · refine w_lcG (L := (Txt.split t "; ").map roundB) (m := dO dR) (by simp only [List.length_map]) (fun i d c2 hd hc => ?_) (by simp only [List.length_map]; omega) ?_
          · rw [List.getElem?_map] at hd
            obtain ⟨w, hw, rfl⟩ := Option.map_eq_some_iff.mp hd
            have hc := map_get hw hc
            subst hc
            refine ⟨_, rfl, ?_⟩
            walk_at "own3"
            refine fw_mono (round_ok (split_tx sep_sem h (List.mem_of_getElem? hw)) hn) ?_
            rintro r o ⟨rfl, rfl⟩
            walk_at "own3"
            exact ⟨rfl, rfl⟩
          walk_at "own3"
          refine w_lcG (L := ((Txt.split t "; ").map roundB).map Option.isNone) (m := D.bl) (by simp only [List.length_map]) (fun i d c2 hd hc => ?_) (by simp only [List.length_map]; omega) ?_
          · rw [List.getElem?_map] at hd
            obtain ⟨w, hw, rfl⟩ := Option.map_eq_some_iff.mp hd
            have hc := map_get hw hc
            subst hc
            refine ⟨_, rfl, ?_⟩
            walk_at "own3"
            refine o_isO (fun a => ⟨_, rfl⟩) ?_
            exact ⟨rfl, rfl⟩
          walk_at "own3"
          refine ⟨fun b => ?_, fun b => ?_⟩
          · rw [any_none b] at hl
            cases hl
          · rw [map_dO hm]
            walk_at "own3"
            exact ⟨.inl rfl, rfl⟩
        · exact big
        · exact sep_len sep_sem
      · exact h.ok
      · decide +kernel
    · intro hl
      refine fw_run rfl ?_
      walk_at "own3"
      · rw [decide_eq_false z]
        walk_at "own3"
        · refine w_lcG (L := (Txt.split t "; ").map roundB) (m := dO dR) (by simp only [List.length_map]) (fun i d c2 hd hc => ?_) (by simp only [List.length_map]; omega) ?_
          · rw [List.getElem?_map] at hd
            obtain ⟨w, hw, rfl⟩ := Option.map_eq_some_iff.mp hd
            have hc := map_get hw hc
            subst hc
            refine ⟨_, rfl, ?_⟩
            walk_at "own3"
            refine fw_mono (round_ok (split_tx sep_sem h (List.mem_of_getElem? hw)) hn) ?_
            rintro r o ⟨rfl, rfl⟩
            walk_at "own3"
            exact ⟨rfl, rfl⟩
          walk_at "own3"
          refine w_lcG (L := ((Txt.split t "; ").map roundB).map Option.isNone) (m := D.bl) (by simp only [List.length_map]) (fun i d c2 hd hc => ?_) (by simp only [List.length_map]; omega) ?_
          · rw [List.getElem?_map] at hd
            obtain ⟨w, hw, rfl⟩ := Option.map_eq_some_iff.mp hd
            have hc := map_get hw hc
            subst hc
            refine ⟨_, rfl, ?_⟩
            walk_at "own3"
            refine o_isO (fun a => ⟨_, rfl⟩) ?_
            exact ⟨rfl, rfl⟩
          walk_at "own3"
          refine ⟨fun b => ?_, fun b => ?_⟩
          · walk_at "own3"
            exact ⟨rfl, rfl⟩
          · obtain ⟨m, e1, e2⟩ := any_some b
            rw [e1] at hl
            cases hl
        · exact big
        · exact sep_len sep_sem
      · exact h.ok
      · decide +kernel
end Lw
set_option maxHeartbeats 990000
open L2 PySem PySem.Spec PyProof.Rows Fm
namespace Lw
open L2 PySem PySem.Spec PyProof.Rows Fm
theorem plL_of {n : Nat} {l : List D} (h : ∀ d ∈ l, d.pl n = true) : plL n l = true := by
  induction l with
  | nil => unfold plL; rfl
  | cons d l ih =>
    unfold plL
    rw [h d (List.mem_cons_self ..), ih fun e he => h e (List.mem_cons_of_mem _ he)]
    rfl
theorem pl_int (n : Nat) (i : Int) : D.pl n (.int i) = true := by cases n <;> rfl
theorem pl_non (n : Nat) : D.pl n .non = true := by cases n <;> rfl
theorem pl_tup {n : Nat} {l : List D} (h : ∀ d ∈ l, d.pl n = true) : D.pl (n + 1) (.tup l) = true := plL_of h
theorem pl_dNs (n : Nat) (l : List Int) : D.pl (n + 1) (dNs l) = true := pl_tup fun d hd => by
  obtain ⟨i, _, rfl⟩ := List.mem_map.mp hd
  exact pl_int n i
theorem pl_dS {n : Nat} {s : Step} (h : PyData.strOk s.1 = true) : D.pl (n + 2) (dS s) = true := pl_tup fun d hd => by
  rcases in_cons hd with rfl | hd
  · exact pl_str h
  · rw [in_one hd]
    exact pl_dNs n s.2
theorem stepB_tx {n : Nat} {t : Str} (h : Tx n t) {s : Step} (e : stepB t = some s) : Tx n s.1 := by
  obtain ⟨w, ws, e1⟩ := split_cons (x := t) sep_sp
  rw [stepB_eq e1] at e
  split at e
  · obtain ⟨l, _, rfl⟩ := Option.map_eq_some_iff.mp e
    exact split_tx sep_sp h (by rw [e1]; exact List.mem_cons_self ..)
  · cases e
/-- none among them -/
theorem any_peq {α : Type} {f : α → D} (hf : ∀ a, peq (f a) .non = false) (l : List (Option α)) : ((l.map (dO f)).any fun e => peq e .non) = (l.map Option.isNone).any id := by
  rw [List.any_map, List.any_map]
  congr 1
  funext o
  cases o with
  | none => rfl
  | some a => exact hf a
theorem colon_num {fig : Int} {w : Str} (h : 58 ∈ sl w) : numB fig w = none := by
  unfold numB
  rw [if_neg fun k => ?_]
  have b : 58 ∈ sl (barOf w) := by
    rcases bar_eq w with e | e
    · rw [← e]
      exact h
    · rw [e] at h
      rcases in_cons h with z | z
      · cases z
      · exact z
  have z := in_fig.mp (k.2 58 b)
  omega
theorem lit_58 : ¬ 58 ∈ sl "abcdefghijklmnopqrstuvwxyz" := by
  rw [lit_abc]
  decide
theorem colon_name {w : Str} (h : 58 ∈ sl w) : nameB w = false := by
  unfold nameB
  rw [Bool.and_eq_false_iff]
  refine .inr ?_
  rw [List.all_eq_false]
  exact ⟨58, h, fun z => lit_58 (of_decide_eq_true z)⟩
theorem colon_step {t : Str} (h : 58 ∈ sl t) : stepB t = none := by
  obtain ⟨w, ws, e⟩ := split_cons (x := t) sep_sp
  rw [stepB_eq e]
  rcases split_cover sep_sp h with z | ⟨p, h1, h2⟩
  · rw [lit_sp] at z
    exact absurd z (by decide)
  · rw [e] at h1
    rcases in_cons h1 with rfl | h1
    · rw [if_neg (by rw [colon_name h2]; decide)]
    · split
      · unfold numsB
        rw [allO_none (List.mem_map.mpr ⟨p, h1, colon_num h2⟩)]
        rfl
      · rfl
theorem colon_steps {r : Str} (h : 58 ∈ sl r) : stepsB r = none := by
  rcases split_cover sep_com h with z | ⟨p, h1, h2⟩
  · rw [lit_com] at z
    exact absurd z (by decide)
  · exact allO_none (List.mem_map.mpr ⟨p, h1, colon_step h2⟩)
theorem dO_int : (dO D.int) = dI := funext fun o => (dI_eq o).symm
theorem lstep_ok {n : Nat} {t : Str} (h : Tx n t) (hn : n ≤ 90000) : Fw (f__law_step_in [.va (.str t)]) (fun r o => r = .va (dO dS (stepB t)) ∧ o = [.un]) NoX := by
  have big := big_of h (by omega)
  obtain ⟨w, ws, e⟩ := split_cons (x := t) sep_sp
  have tx := fun p (hp : p ∈ Txt.split t " ") => split_tx sep_sp h hp
  have ln := split_len sep_sp h
  rw [e] at tx ln
  rw [List.length_cons] at ln
  rw [stepB_eq e]
  refine fw_run rfl ?_
  walk_at "own4"
  · rw [e, List.map_cons]
    walk_at "own4"
    rw [← List.map_cons, cutD_tail]
    walk_at "own4"
    refine w_lcG (L := ws.map (numB 7)) (m := dI) (by simp only [List.length_map]) (fun i d c2 hd hc => ?_) (by simp only [List.length_map]; omega) ?_
    · rw [List.getElem?_map] at hd
      obtain ⟨w2, hw, rfl⟩ := Option.map_eq_some_iff.mp hd
      have hc := map_get hw hc
      subst hc
      refine ⟨_, rfl, ?_⟩
      walk_at "own4"
      refine fw_mono (lnum_ok (tx w2 (List.mem_cons_of_mem _ (List.mem_of_getElem? hw))) (by omega) (by decide)) ?_
      rintro r o ⟨rfl, rfl⟩
      walk_at "own4"
      exact ⟨rfl, rfl⟩
    walk_at "own4"
    refine o_ixL (at_hd _ _) ?_
    walk_at "own4"
    refine fw_mono (lname_ok (tx w (List.mem_cons_self ..)) (by omega)) ?_
    rintro r o ⟨rfl, rfl⟩
    walk_at "own4"
    cases hb : nameB w with
    | false =>
      walk_at "own4"
      exact ⟨rfl, rfl⟩
    | true =>
      walk_at "own4"
      · rw [← dO_int, any_peq fun _ => rfl]
        refine ⟨fun b => ?_, fun b => ?_⟩
        · walk_at "own4"
          refine ⟨?_, rfl⟩
          unfold numsB
          rw [any_none b]
          rfl
        · obtain ⟨m, e1, e2⟩ := any_some b
          rw [map_dO e2]
          walk_at "own4"
          refine o_ixL (at_hd _ _) ?_
          walk_at "own4"
          refine ⟨?_, rfl⟩
          unfold numsB
          rw [e1]
          rfl
      · refine plL_of fun d hd => ?_
        obtain ⟨o, _, rfl⟩ := List.mem_map.mp hd
        cases o with
        | none => exact pl_non _
        | some i => exact pl_int _ i
  · exact big
  · exact sep_len sep_sp
end Lw
set_option maxHeartbeats 990000
open L2 PySem PySem.Spec PyProof.Rows Fm
local macro_rules | `(tactic| walk_at "own7") => `(tactic| (repeat (first | ((with_reducible apply w_stP); · exact (rfl : _ = [_, _, _, _, _, _, _])) | ((with_reducible apply w_stS); · exact (rfl : _ = [_, _, _, _, _, _, _])) | ((with_reducible apply w_stA); · exact (rfl : _ = [_, _, _, _, _, _, _])) | (with_reducible refine w_sseq ?_) | (with_reducible refine w_set ?_) | (with_reducible refine w_ret ?_) | (with_reducible refine w_retN ?_) | (with_reducible refine w_nx ?_) | (with_reducible refine w_drop ?_) | (with_reducible refine w_if ?_) | (with_reducible refine w_asg ?_) | (with_reducible refine w_par ?_) | (with_reducible refine w_par3 ?_) | (with_reducible refine w_put ?_) | (with_reducible refine w_for ?_) | (with_reducible refine w_op ?_) | (with_reducible refine w_un ?_) | (with_reducible refine w_fz ?_) | (with_reducible refine w_fzV ?_) | (with_reducible refine w_fzL ?_) | (with_reducible refine w_c ?_) | ((with_reducible apply w_var); · exact rfl) | ((with_reducible apply w_varO); · exact rfl) | ((with_reducible apply w_mov); · exact rfl) | ((with_reducible apply w_movO); · exact rfl) | ((with_reducible apply w_subV); · exact rfl) | ((with_reducible apply w_subO); · exact rfl) | (with_reducible refine w_chain ?_) | (with_reducible refine w_chK ?_) | (with_reducible refine w_tst ?_) | (with_reducible refine w_not ?_) | (with_reducible refine w_andT ?_) | (with_reducible refine w_orT ?_) | (with_reducible refine w_andV ?_) | (with_reducible refine w_orV ?_) | (with_reducible refine w_notV ?_) | (with_reducible refine w_ife ?_) | (with_reducible refine w_nil ?_) | (with_reducible refine w_cons ?_) | (with_reducible refine w_anil ?_) | (with_reducible refine w_ava ?_) | ((with_reducible apply w_asl); · exact rfl) | (with_reducible refine w_tup ?_) | (with_reducible refine w_lst ?_) | (with_reducible refine w_cb ?_) | (with_reducible refine w_call ?_) | ((with_reducible apply w_app); · exact rfl) | (with_reducible refine w_sl ?_) | (with_reducible refine w_pn ?_) | (with_reducible refine w_ps ?_) | (with_reducible refine w_lc ?_) | (with_reducible refine w_seqX ?_) | (with_reducible refine w_aapp ?_) | (with_reducible refine w_ex1 ?_) | (with_reducible refine w_tryF ?_) | (with_reducible refine w_m1 ?_) | (with_reducible refine w_mw ?_) | (with_reducible refine w_rng1 ?_) | (with_reducible refine w_rng2 ?_) | (with_reducible refine w_zip ?_) | (with_reducible refine o_add ?_) | (with_reducible refine o_eqStr ?_ ?_ ?_) | (with_reducible refine o_neStr ?_ ?_ ?_) | (with_reducible refine o_lenStr ?_ ?_) | (with_reducible refine o_slStr ?_ ?_) | (with_reducible refine o_addStr ?_ ?_) | (with_reducible refine o_addL ?_ ?_) | (with_reducible refine o_inS ?_) | (with_reducible refine o_ninS ?_) | (with_reducible refine o_inL ?_ ?_) | (with_reducible refine o_split ?_ ?_ ?_) | (with_reducible refine o_part ?_ ?_ ?_) | (with_reducible refine o_join ?_ ?_) | (with_reducible refine o_strI ?_ ?_) | (with_reducible refine o_sub ?_) | (with_reducible refine o_mul ?_ ?_) | (with_reducible refine o_mod ?_ ?_) | (with_reducible refine o_div ?_ ?_) | (with_reducible refine o_pow ?_ ?_) | (with_reducible refine o_lt ?_) | (with_reducible refine o_le ?_) | (with_reducible refine o_gt ?_) | (with_reducible refine o_ge ?_) | (with_reducible refine o_eqI ?_) | (with_reducible refine o_slS ?_) | (with_reducible refine o_slL ?_) | (with_reducible refine o_slT ?_) | (with_reducible refine o_eqB ?_) | (with_reducible refine o_neB ?_) | (with_reducible refine o_isnN ?_) | (with_reducible refine o_isnI ?_) | (with_reducible refine o_isnB ?_) | (with_reducible refine o_isnS ?_) | (with_reducible refine o_isnT ?_) | (with_reducible refine o_isnL ?_) | (with_reducible refine o_ntnN ?_) | (with_reducible refine o_ntnI ?_) | (with_reducible refine o_ntnT ?_) | (with_reducible refine o_ntnL ?_) | (with_reducible refine br_t ?_) | (with_reducible refine br_f ?_) | (with_reducible refine br_nt ?_) | (with_reducible refine br_nf ?_) | (with_reducible refine br_d ?_) | (with_reducible refine br_e ?_) | (with_reducible refine o_neI ?_) | (with_reducible refine o_neg ?_) | (with_reducible refine o_abs ?_) | ((with_reducible apply o_ixT); · exact rfl) | ((with_reducible apply o_ixL); · exact rfl) | (with_reducible refine o_len ?_) | (with_reducible refine o_lenL ?_) | (with_reducible refine o_tupT ?_) | (with_reducible refine o_tupL ?_) | (with_reducible refine o_listT ?_) | (with_reducible refine o_listL ?_) | (with_reducible refine o_all ?_) | (with_reducible refine o_any ?_) | ((with_reducible refine o_isi0 ?_); first | refine o_isI kit_int_int rfl ?_ | refine o_isI kit_int_bool rfl ?_ | refine o_isI kit_int_tuple rfl ?_ | refine o_isI kit_int_list rfl ?_ | refine o_isI kit_int_dict rfl ?_ | refine o_isI kit_bool_bool rfl ?_ | refine o_isI kit_bool_int rfl ?_ | refine o_isI kit_bool_tuple rfl ?_ | refine o_isI kit_bool_list rfl ?_ | refine o_isI kit_str_bool rfl ?_ | refine o_isI kit_str_int rfl ?_ | refine o_isI kit_tuple_bool rfl ?_ | refine o_isI kit_tuple_int rfl ?_ | refine o_isI kit_tuple_tuple rfl ?_ | refine o_isI kit_tuple_list rfl ?_ | refine o_isI kit_tuple_dict rfl ?_ | refine o_isI kit_list_bool rfl ?_ | refine o_isI kit_list_int rfl ?_ | refine o_isI kit_list_tuple rfl ?_ | refine o_isI kit_list_list rfl ?_ | refine o_isI kit_list_dict rfl ?_ | refine o_isI kit_non_bool rfl ?_ | refine o_isI kit_non_tuple rfl ?_ | refine o_isI kit_non_int rfl ?_) | ((with_reducible refine o_isit0 ?_); first | refine o_isT kits_int rfl ?_ | refine o_isT kits_str rfl ?_ | refine o_isT kits_tuple rfl ?_ | refine o_isT kits_list rfl ?_) | ((with_reducible apply x_len); · exact Nat.le_of_ble_eq_true rfl) | ((with_reducible apply x_is); · exact rfl) | ((with_reducible apply x_put); (· exact rfl); (· exact rfl); · exact rfl) | ((with_reducible apply x_call0); (· exact List.nodup_nil); · exact rfl) | ((with_reducible apply x_call0); (· exact nd1 _); · exact rfl) | ((with_reducible apply x_one); · exact rfl) | ((with_reducible apply x_two); · exact rfl) | ((with_reducible apply br_T); · exact rfl) | ((with_reducible apply br_F); · exact rfl))))
namespace Lw
open L2 PySem PySem.Spec PyProof.Rows Fm
def dW : Option (List Rnd) → D
  | none => .non
  | some l => .lst false (l.map dR)
theorem colon_round {t : Str} {p r : List Nat} (e : TL.par (sl ": ") [] (sl t) = some (p, r)) (h : 58 ∈ r) : roundB t = none := by
  rw [roundB_eq e, colon_steps (r := ⟨r.toArray⟩) h]
  split
  · rfl
  · split <;> rfl
/-- one round of the law's reading -/
theorem lround_ok {n : Nat} {t w : Str} {m : List Rnd} {s3 s4 s5 s6 : SD} (h : Tx n w) (hn : n ≤ 90000) (hm : m.length ≤ 100000) {b : S}
    (hb : b = sSeq (sSet 3 (mM1 splitG (mVar 2) (mC (.str ": ")))) (sSeq (sSet 4 (mCall f__law_number_in [] (aVa (mSub 3 (mC (.int 0))) (aVa (mC (.int 30)) (aNil))))) (sSeq (sIf (mOr (mTst (mOp neD (mCB lenD (mCons (mVar 3) (mNil))) (mC (.int 2)))) (mOr (mTst (mOp isnD (mVar 4) (mC .non))) (mTst (mOp ltD (mVar 4) (mC (.int 1)))))) (sRet (mC .non)) (sNx)) (sSeq (sSet 5 (mLc (iSeq (mM1 splitG (mSub 3 (mC (.int 1))) (mC (.str ", ")))) [6] (gN 6) (M.ret true) (mCall f__law_step_in [] (aVa (mVar 6) (aNil))))) (sSeq (sIf (mTst (mOp inD (mC .non) (mVar 5))) (sRet (mC .non)) (sNx)) (sDrop (mApp 1 (mCons (mTup (mCons (mVar 4) (mCons (mCB tupD (mCons (mVar 5) (mNil))) (mNil)))) (mNil))))))))) :
    Wp b [.va (.str t), .ow (.lst false (m.map dR)), .va (.str w), s3, s4, s5, s6] (fun f ρ => match roundB w with
      | none => f = .rt (.va .non) ∧ ρ.length = 7
      | some a => f = .nx ∧ ∃ s2 s3 s4 s5 s6, ρ = [.va (.str t), .ow (.lst false ((m ++ [a]).map dR)), s2, s3, s4, s5, s6]) NoX := by
  subst hb
  have big := big_of h (by omega)
  cases e : TL.par (sl ": ") [] (sl w) with
  | none =>
    rw [roundB_no e]
    obtain ⟨e1, _⟩ := cut_no sep_col e
    walk_at "own7"
    · rw [e1]
      walk_at "own7"
      refine fw_mono (lnum_ok h (by omega) (by decide)) ?_
      rintro r o ⟨rfl, rfl⟩
      walk_at "own7"
      exact ⟨rfl, rfl⟩
    · exact big
    · exact sep_len sep_col
  | some pr =>
    obtain ⟨p, q⟩ := pr
    have c := cut_of sep_col h e
    walk_at "own7"
    · rw [c.e, List.map_cons]
      walk_at "own7"
      refine o_ixL (at_hd _ _) ?_
      walk_at "own7"
      refine fw_mono (lnum_ok c.one (by omega) (by decide)) ?_
      rintro r o ⟨rfl, rfl⟩
      walk_at "own7"
      rw [← List.map_cons, List.length_map, List.length_cons]
      cases e2 : TL.par (sl ": ") [] (sl ⟨q.toArray⟩) with
      | some pr2 =>
        obtain ⟨p2, q2⟩ := pr2
        have c2 := cut_of sep_col c.two e2
        obtain ⟨u, us, eu⟩ := split_cons (x := ⟨q2.toArray⟩) sep_col
        rw [colon_round e (((par_spl sep_col.ne [] q).1 p2 q2 e2).2.2.1 58 (by rw [lit_col]; decide))]
        rw [c2.e, eu, List.length_cons, List.length_cons]
        rw [decide_eq_false (show ¬ ((us.length + 1 + 1 + 1 : Nat) : Int) = 2 by omega)]
        walk_at "own7"
        exact ⟨rfl, rfl⟩
      | none =>
        obtain ⟨c2, _⟩ := cut_no sep_col e2
        rw [c2, roundB_eq e]
        rw [decide_eq_true (show (([(⟨q.toArray⟩ : Str)].length + 1 : Nat) : Int) = 2 by rfl)]
        walk_at "own7"
        cases hb : numB 30 ⟨p.toArray⟩ with
        | none =>
          rw [show dI none = .non from rfl]
          walk_at "own7"
          exact ⟨rfl, rfl⟩
        | some k =>
          rw [show dI (some k) = .int k from rfl]
          walk_at "own7"
          refine ⟨fun a => ?_, fun a => ?_⟩
          · have a := of_decide_eq_true a
            dsimp only
            rw [if_pos a]
            walk_at "own7"
            exact ⟨rfl, rfl⟩
          · have a := of_decide_eq_false a
            dsimp only
            rw [if_neg a]
            walk_at "own7"
            · have sn := split_len sep_com c.two
              refine w_lcG (L := (Txt.split ⟨q.toArray⟩ ", ").map stepB) (m := dO dS) (by simp only [List.length_map]) (fun i d c2 hd hc => ?_) (by simp only [List.length_map]; omega) ?_
              · rw [List.getElem?_map] at hd
                obtain ⟨w, hw, rfl⟩ := Option.map_eq_some_iff.mp hd
                have hc := map_get hw hc
                subst hc
                refine ⟨_, rfl, ?_⟩
                walk_at "own7"
                refine fw_mono (lstep_ok (split_tx sep_com c.two (List.mem_of_getElem? hw)) hn) ?_
                rintro r o ⟨rfl, rfl⟩
                walk_at "own7"
                exact ⟨rfl, rfl⟩
              walk_at "own7"
              · rw [any_peq fun _ => rfl]
                refine ⟨fun b => ?_, fun b => ?_⟩
                · unfold stepsB
                  rw [any_none b]
                  walk_at "own7"
                  exact ⟨rfl, rfl⟩
                · obtain ⟨l, e1, e2⟩ := any_some b
                  unfold stepsB
                  rw [e1, map_dO e2]
                  walk_at "own7"
                  refine ⟨_, _, _, rfl, rfl, by rw [List.length_map]; omega, ?_⟩
                  walk_at "own7"
                  have ea : (m ++ [((k, l) : Rnd)]).map dR = m.map dR ++ [dR (k, l)] := by
                    rw [List.map_append]
                    rfl
                  show Fl.nx = .nx ∧ ∃ s2 s3 s4 s5 s6, (_ : List SD) = [.va (.str t), .ow (.lst false ((m ++ [((k, l) : Rnd)]).map dR)), s2, s3, s4, s5, s6]
                  rw [ea]
                  exact ⟨rfl, _, _, _, _, _, rfl⟩
              · refine plL_of fun d hd => ?_
                obtain ⟨o, ho, rfl⟩ := List.mem_map.mp hd
                cases o with
                | none => exact pl_non _
                | some s =>
                  obtain ⟨u, hu, eu⟩ := List.mem_map.mp ho
                  exact pl_dS (n := 57) (stepB_tx (split_tx sep_com c.two hu) eu).ok
            · exact big_of c.two (by omega)
            · exact sep_len sep_com
    · exact big
    · exact sep_len sep_col
theorem lwalk_ok {n : Nat} {t : Str} (h : Tx n t) (hn : n ≤ 90000) : Fw (f__law_walk_in [.va (.str t)]) (fun r o => (r = .va (dW (walkB t)) ∨ r = .ow (dW (walkB t)) ∧ walkB t ≠ none) ∧ o = [.un]) NoX := by
  have big := big_of h (by omega)
  have sn := split_len sep_sem h
  refine fw_run rfl ?_
  by_cases z : t = "stay"
  · have e : walkB t = some [] := if_pos z
    rw [e]
    walk_at "own7"
    · rw [decide_eq_true z]
      walk_at "own7"
      exact ⟨.inr ⟨rfl, fun z => by cases z⟩, rfl⟩
    · exact h.ok
    · decide +kernel
  · have e : walkB t = allO ((Txt.split t "; ").map roundB) := if_neg z
    rw [e]
    walk_at "own7"
    · rw [decide_eq_false z]
      walk_at "own7"
      · refine w_forL (I := fun i ρ => ∃ m s2 s3 s4 s5 s6, ρ = [.va (.str t), .ow (.lst false (m.map dR)), s2, s3, s4, s5, s6] ∧ allO (((Txt.split t "; ").take i).map roundB) = some m ∧ m.length = i) ?_ ⟨[], _, _, _, _, _, rfl, rfl, rfl⟩ ?_
        · rintro i d ρ hd ⟨m, s2, s3, s4, s5, s6, rfl, hm, lm⟩
          rw [List.getElem?_map] at hd
          obtain ⟨w, hw, rfl⟩ := Option.map_eq_some_iff.mp hd
          have hi := (List.getElem?_eq_some_iff.mp hw).1
          refine ⟨_, rfl, ?_⟩
          refine (lround_ok (split_tx sep_sem h (List.mem_of_getElem? hw)) hn (by omega) rfl).mono (fun f ρ2 k => ?_) fun _ _ z => z
          cases eb : roundB w with
          | none =>
            rw [eb] at k
            obtain ⟨rfl, k⟩ := k
            match ρ2, k with
            | [_, _, _, _, _, _, _], _ =>
              refine ⟨.inl ?_, rfl⟩
              rw [allO_stop hw eb]
              rfl
          | some a =>
            rw [eb] at k
            obtain ⟨rfl, s2, s3, s4, s5, s6, rfl⟩ := k
            exact ⟨_, _, _, _, _, _, rfl, allO_more hw eb hm, by rw [List.length_append, lm]; rfl⟩
        · rintro ρ ⟨m, s2, s3, s4, s5, s6, rfl, hm, lm⟩
          rw [List.length_map, List.take_length] at hm
          rw [hm]
          walk_at "own7"
          exact ⟨.inr ⟨rfl, fun z => by cases z⟩, rfl⟩
      · exact big
      · exact sep_len sep_sem
    · exact h.ok
    · decide +kernel
end Lw
set_option maxHeartbeats 990000
open L2 PySem PySem.Spec PyProof.Rows Fm
local macro_rules | `(tactic| walk_at "own") => `(tactic| (repeat (first | (with_reducible refine w_sseq ?_) | (with_reducible refine w_set ?_) | (with_reducible refine w_ret ?_) | (with_reducible refine w_retN ?_) | (with_reducible refine w_nx ?_) | (with_reducible refine w_drop ?_) | (with_reducible refine w_if ?_) | (with_reducible refine w_asg ?_) | (with_reducible refine w_par ?_) | (with_reducible refine w_par3 ?_) | (with_reducible refine w_put ?_) | (with_reducible refine w_for ?_) | (with_reducible refine w_op ?_) | (with_reducible refine w_un ?_) | (with_reducible refine w_fz ?_) | (with_reducible refine w_fzV ?_) | (with_reducible refine w_fzL ?_) | (with_reducible refine w_c ?_) | ((with_reducible apply w_var); · exact rfl) | ((with_reducible apply w_varO); · exact rfl) | ((with_reducible apply w_mov); · exact rfl) | ((with_reducible apply w_movO); · exact rfl) | ((with_reducible apply w_subV); · exact rfl) | ((with_reducible apply w_subO); · exact rfl) | (with_reducible refine w_chain ?_) | (with_reducible refine w_chK ?_) | (with_reducible refine w_tst ?_) | (with_reducible refine w_not ?_) | (with_reducible refine w_andT ?_) | (with_reducible refine w_orT ?_) | (with_reducible refine w_andV ?_) | (with_reducible refine w_orV ?_) | (with_reducible refine w_notV ?_) | (with_reducible refine w_ife ?_) | (with_reducible refine w_nil ?_) | (with_reducible refine w_cons ?_) | (with_reducible refine w_anil ?_) | (with_reducible refine w_ava ?_) | ((with_reducible apply w_asl); · exact rfl) | (with_reducible refine w_tup ?_) | (with_reducible refine w_lst ?_) | (with_reducible refine w_cb ?_) | (with_reducible refine w_call ?_) | ((with_reducible apply w_app); · exact rfl) | (with_reducible refine w_sl ?_) | (with_reducible refine w_pn ?_) | (with_reducible refine w_ps ?_) | (with_reducible refine w_lc ?_) | (with_reducible refine w_seqX ?_) | (with_reducible refine w_aapp ?_) | (with_reducible refine w_ex1 ?_) | (with_reducible refine w_tryF ?_) | (with_reducible refine w_m1 ?_) | (with_reducible refine w_mw ?_) | (with_reducible refine w_rng1 ?_) | (with_reducible refine w_rng2 ?_) | (with_reducible refine w_zip ?_) | (with_reducible refine o_add ?_) | (with_reducible refine o_eqStr ?_ ?_ ?_) | (with_reducible refine o_neStr ?_ ?_ ?_) | (with_reducible refine o_lenStr ?_ ?_) | (with_reducible refine o_slStr ?_ ?_) | (with_reducible refine o_addStr ?_ ?_) | (with_reducible refine o_addL ?_ ?_) | (with_reducible refine o_inS ?_) | (with_reducible refine o_ninS ?_) | (with_reducible refine o_inL ?_ ?_) | (with_reducible refine o_split ?_ ?_ ?_) | (with_reducible refine o_part ?_ ?_ ?_) | (with_reducible refine o_join ?_ ?_) | (with_reducible refine o_strI ?_ ?_) | (with_reducible refine o_sub ?_) | (with_reducible refine o_mul ?_ ?_) | (with_reducible refine o_mod ?_ ?_) | (with_reducible refine o_div ?_ ?_) | (with_reducible refine o_pow ?_ ?_) | (with_reducible refine o_lt ?_) | (with_reducible refine o_le ?_) | (with_reducible refine o_gt ?_) | (with_reducible refine o_ge ?_) | (with_reducible refine o_eqI ?_) | (with_reducible refine o_slS ?_) | (with_reducible refine o_slL ?_) | (with_reducible refine o_slT ?_) | (with_reducible refine o_eqB ?_) | (with_reducible refine o_neB ?_) | (with_reducible refine o_isnN ?_) | (with_reducible refine o_isnI ?_) | (with_reducible refine o_isnB ?_) | (with_reducible refine o_isnS ?_) | (with_reducible refine o_isnT ?_) | (with_reducible refine o_isnL ?_) | (with_reducible refine o_ntnN ?_) | (with_reducible refine o_ntnI ?_) | (with_reducible refine o_ntnT ?_) | (with_reducible refine o_ntnL ?_) | (with_reducible refine br_t ?_) | (with_reducible refine br_f ?_) | (with_reducible refine br_nt ?_) | (with_reducible refine br_nf ?_) | (with_reducible refine br_d ?_) | (with_reducible refine br_e ?_) | (with_reducible refine o_neI ?_) | (with_reducible refine o_neg ?_) | (with_reducible refine o_abs ?_) | ((with_reducible apply o_ixT); · exact rfl) | ((with_reducible apply o_ixL); · exact rfl) | (with_reducible refine o_len ?_) | (with_reducible refine o_lenL ?_) | (with_reducible refine o_tupT ?_) | (with_reducible refine o_tupL ?_) | (with_reducible refine o_listT ?_) | (with_reducible refine o_listL ?_) | (with_reducible refine o_all ?_) | (with_reducible refine o_any ?_) | ((with_reducible refine o_isi0 ?_); first | refine o_isI kit_int_int rfl ?_ | refine o_isI kit_int_bool rfl ?_ | refine o_isI kit_int_tuple rfl ?_ | refine o_isI kit_int_list rfl ?_ | refine o_isI kit_int_dict rfl ?_ | refine o_isI kit_bool_bool rfl ?_ | refine o_isI kit_bool_int rfl ?_ | refine o_isI kit_bool_tuple rfl ?_ | refine o_isI kit_bool_list rfl ?_ | refine o_isI kit_str_bool rfl ?_ | refine o_isI kit_str_int rfl ?_ | refine o_isI kit_tuple_bool rfl ?_ | refine o_isI kit_tuple_int rfl ?_ | refine o_isI kit_tuple_tuple rfl ?_ | refine o_isI kit_tuple_list rfl ?_ | refine o_isI kit_tuple_dict rfl ?_ | refine o_isI kit_list_bool rfl ?_ | refine o_isI kit_list_int rfl ?_ | refine o_isI kit_list_tuple rfl ?_ | refine o_isI kit_list_list rfl ?_ | refine o_isI kit_list_dict rfl ?_ | refine o_isI kit_non_bool rfl ?_ | refine o_isI kit_non_tuple rfl ?_ | refine o_isI kit_non_int rfl ?_) | ((with_reducible refine o_isit0 ?_); first | refine o_isT kits_int rfl ?_ | refine o_isT kits_str rfl ?_ | refine o_isT kits_tuple rfl ?_ | refine o_isT kits_list rfl ?_) | ((with_reducible apply x_len); · exact Nat.le_of_ble_eq_true rfl) | ((with_reducible apply x_is); · exact rfl) | ((with_reducible apply x_put); (· exact rfl); (· exact rfl); · exact rfl) | ((with_reducible apply x_call0); (· exact List.nodup_nil); · exact rfl) | ((with_reducible apply x_call0); (· exact nd1 _); · exact rfl) | ((with_reducible apply x_one); · exact rfl) | ((with_reducible apply x_two); · exact rfl) | ((with_reducible apply br_T); · exact rfl) | ((with_reducible apply br_F); · exact rfl))))
namespace Lw
open L2 PySem PySem.Spec PyProof.Rows Fm
theorem rng_eq {n i : Nat} {d : D} (h : (rngD 0 n)[i]? = some d) : i < n ∧ d = .int (i : Int) := by
  have hi : i < n := by
    have z := (List.getElem?_eq_some_iff.mp h).1
    rw [rngD_len] at z
    exact z
  rw [rngD_at hi] at h
  cases h
  refine ⟨hi, ?_⟩
  rw [Int.zero_add]
theorem get_some {γ : Type} {l : List γ} {i : Nat} (h : i < l.length) : ∃ x, l[i]? = some x := ⟨_, List.getElem?_eq_getElem h⟩
theorem small_len {n : Nat} (h : n ≤ 100000) : (-(2 ^ 62) : Int) ≤ (n : Int) ∧ (n : Int) < 2 ^ 62 := by omega
theorem all_true {n : Nat} : (List.replicate n true).all id = true := by
  induction n with
  | zero => rfl
  | succ n ih => rw [List.replicate_succ, List.all_cons, ih]; rfl
theorem same_seq {n : Nat} {l : List D} {d : D} (hd : d = .tup l ∨ ∃ b, d = .lst b l) (hl : l.length ≤ 100000) (ih : ∀ e ∈ l, Fw (f__law_same n [.va e, .va e]) (fun r o => r = .va (.bl true) ∧ o = [.un, .un]) NoX) : Fw (f__law_same (n + 1) [.va d, .va d]) (fun r o => r = .va (.bl true) ∧ o = [.un, .un]) NoX := by
  rcases hd with rfl | ⟨b, rfl⟩
  all_goals
    refine fw_run rfl ?_
    walk_at "own"
    refine ⟨small_len hl, ?_⟩
    refine w_lcG (L := List.replicate l.length true) (m := D.bl) (by rw [List.length_replicate, rngD_len, Int.toNat_natCast]) (fun i d c hd hc => ?_) (by rw [rngD_len, Int.toNat_natCast]; omega) ?_
    · obtain ⟨hi, rfl⟩ := rng_eq hd
      have hc2 := List.eq_of_mem_replicate (List.mem_of_getElem? hc)
      subst hc2
      obtain ⟨x, ex⟩ := get_some (l := l) hi
      have ax : atI l (i : Int) = some x := by rw [Fm.atI_nat, ex]
      refine ⟨_, rfl, ?_⟩
      walk_at "own"
      first | refine o_ixT ax ?_ | refine o_ixL ax ?_
      walk_at "own"
      first | refine o_ixT ax ?_ | refine o_ixL ax ?_
      walk_at "own"
      refine fw_mono (ih x (List.mem_of_getElem? ex)) ?_
      rintro res o ⟨rfl, rfl⟩
      walk_at "own"
      exact ⟨rfl, rfl⟩
    · walk_at "own"
      refine ⟨?_, rfl⟩
      rw [all_true]
/-- plain, of no great size; texts too -/
def okT : Nat → D → Bool
  | _, .non => true
  | _, .bl _ => true
  | _, .int _ => true
  | _, .str s => PyData.strOk s
  | n + 1, .tup l => decide (l.length ≤ 100000) && l.all (okT n)
  | n + 1, .lst _ l => decide (l.length ≤ 100000) && l.all (okT n)
  | _, _ => false
theorem same_ok : ∀ (n : Nat) (d : D), okT n d = true → Fw (f__law_same (n + 1) [.va d, .va d]) (fun r o => r = .va (.bl true) ∧ o = [.un, .un]) NoX
  | n, .non, _ => by
    refine fw_run rfl ?_
    walk_at "own"
    exact ⟨rfl, rfl⟩
  | n, .bl b, _ => by
    refine fw_run rfl ?_
    walk_at "own"
    exact ⟨by simp, rfl⟩
  | n, .int b, _ => by
    refine fw_run rfl ?_
    walk_at "own"
    exact ⟨by simp, rfl⟩
  | 0, .tup l, h => by cases h
  | 0, .lst b l, h => by cases h
  | n + 1, .tup l, h => by
    obtain ⟨h1, h2⟩ := Bool.and_eq_true_iff.mp (show (decide (l.length ≤ 100000) && l.all (okT n)) = true from h)
    exact same_seq (.inl rfl) (of_decide_eq_true h1) fun e he => same_ok n e (List.all_eq_true.mp h2 e he)
  | n + 1, .lst b l, h => by
    obtain ⟨h1, h2⟩ := Bool.and_eq_true_iff.mp (show (decide (l.length ≤ 100000) && l.all (okT n)) = true from h)
    exact same_seq (.inr ⟨b, rfl⟩) (of_decide_eq_true h1) fun e he => same_ok n e (List.all_eq_true.mp h2 e he)
  | n, .str s, h => by
    have h : PyData.strOk s = true := by
      unfold okT at h
      exact h
    refine fw_run rfl ?_
    walk_at "own"
    · refine ⟨?_, rfl⟩
      rw [decide_eq_true rfl]
    · exact h
    · exact h
  | n, .dk _ _, h => by cases n <;> cases h
  | n, .ins _ _ _, h => by cases n <;> cases h
  | n, .ty _, h => by cases n <;> cases h
  | n, .adr _, h => by cases n <;> cases h
  | n, .scr _, h => by cases n <;> cases h
structure Drw (n : Nat) (d : D) : Prop where
  ex : ∃ (b c : Bool) (cells : List Int) (at_ big seed cnt : Int), d = .lst b [.lst c (cells.map D.int), .int at_, .int big, .int seed, .int cnt] ∧ 0 ≤ at_ ∧ 0 ≤ big ∧ (0 ≤ seed ∧ seed < 1000000007) ∧ 0 ≤ cnt ∧ cnt ≤ n
theorem modM (a : Int) : 0 ≤ a.fmod 1000000007 ∧ a.fmod 1000000007 < 1000000007 := ⟨Int.fmod_nonneg_of_pos a (by decide), Int.fmod_lt_of_pos a (by decide)⟩
theorem fdiv_nn {a b : Int} (ha : 0 ≤ a) (hb : 0 < b) : 0 ≤ a.fdiv b := by
  rw [Int.fdiv_eq_ediv_of_nonneg a (Int.le_of_lt hb)]
  exact Int.ediv_nonneg ha (Int.le_of_lt hb)
theorem pick_ok {n : Nat} {d : D} {many : Int} (h : Drw n d) (h1 : 1 ≤ many) (h2 : Sz 8000 many) (hn : n ≤ 1000000000) : Fw (f__law_pick [.ow d, .va (.int many)]) (fun r o => ∃ q, r = .va (.int q) ∧ (0 ≤ q ∧ q < many) ∧ ∃ d', o = [.ow d', .un] ∧ Drw (n + 1) d') NoX := by
  obtain ⟨b, c, cells, at_, big, seed, cnt, rfl, g1, g2, g3, g4, g5⟩ := h.ex
  have hm : many ≠ 0 := by omega
  refine fw_run rfl ?_
  refine w_sseq ?_
  refine w_mid (q := fun f ρ => f = .nx ∧ ∃ (at_ big seed : Int) (s2 : SD), ρ = [.ow (.lst b [.lst c (cells.map D.int), .int at_, .int big, .int seed, .int cnt]), .va (.int many), s2, .un] ∧ 0 ≤ at_ ∧ 0 ≤ big ∧ (0 ≤ seed ∧ seed < 1000000007)) ?_ ?_
  · walk_at "own"
    refine ⟨fun _ => ?_, fun _ => ?_⟩
    · walk_at "own"
      refine ⟨fun z => ?_, fun _ => ?_⟩
      · obtain ⟨cell, hc⟩ := at_int g1 (of_decide_eq_true z)
        walk_at "own"
        refine o_ixL hc ?_
        walk_at "own"
        · refine ⟨fun y => ?_, fun _ => ?_⟩
          · have y := of_decide_eq_true y
            walk_at "own"
            exact ⟨rfl, at_ + 1, cell, seed, _, rfl, by omega, Int.le_trans (by decide) y, g3⟩
          · walk_at "own"
            · exact ⟨rfl, at_ + 1, 0, (seed + cell).fmod 1000000007, _, rfl, by omega, by decide, modM _⟩
            · decide
        · decide
      · walk_at "own"
        exact ⟨rfl, at_, big, seed, _, rfl, g1, g2, g3⟩
    · walk_at "own"
      exact ⟨rfl, at_, big, seed, _, rfl, g1, g2, g3⟩
  · rintro _ _ ⟨rfl, at_, big, seed, s2, rfl, g1, g2, g3⟩
    walk_at "own"
    refine ⟨fun y => ?_, fun _ => ?_⟩
    · walk_at "own"
      · exact ⟨⟨Int.fmod_nonneg_of_pos _ (by omega), Int.fmod_lt_of_pos _ (by omega)⟩, _, rfl, b, c, cells, at_, big.fdiv many, seed, cnt, rfl, g1, fdiv_nn g2 (by omega), g3, g4, by omega⟩
      · exact divG_of hm h2 (by decide)
      · exact hm
    · walk_at "own"
      · have q := fdiv_nn (b := 5) (modM (seed ^ Int.toNat 3 + 40503 * (cnt + 1) + 17)).1 (by decide)
        exact ⟨⟨Int.fmod_nonneg_of_pos _ (by omega), Int.fmod_lt_of_pos _ (by omega)⟩, _, rfl, b, c, cells, at_, big, _, cnt + 1, rfl, g1, g2, modM _, by omega, by omega⟩
      · exact hm
      · exact divG_of (k := 8) (by decide) (by unfold Sz; decide) (by decide)
      · decide
      · exact mulG_of (j := 17) (k := 40) (by unfold Sz; decide) (by unfold Sz; omega) (by decide)
      · exact ⟨by decide, by decide, by omega⟩
theorem fw_drw {f : FR} {P : Int → Prop} {n : Nat} {u : List SD} (h : Fw f (fun r o => ∃ q, r = .va (.int q) ∧ P q ∧ ∃ d', o = .ow d' :: u ∧ Drw n d') NoX) {p : SD → List SD → Prop} {E : Exn → List SD → Prop} (g : ∀ q d', P q → Drw n d' → p (.va (.int q)) (.ow d' :: u)) : Fw f p E := by
  refine fw_mono h ?_
  rintro r o ⟨q, rfl, hq, d', rfl, hd⟩
  exact g q d' hq hd
theorem Drw.mono {m n : Nat} {d : D} (h : Drw m d) (l : m ≤ n) : Drw n d := by
  obtain ⟨b, c, cells, a1, a2, a3, a4, e, g1, g2, g3, g4, g5⟩ := h.ex
  exact ⟨b, c, cells, a1, a2, a3, a4, e, g1, g2, g3, g4, by omega⟩
theorem begin_ok {ns : List Int} {d : D} (hd : d = .scr (ns.map D.int) ∨ d = .lst false (ns.map D.int)) : Fw (f__law_begin [.va d]) (fun r o => ∃ D0, r = .ow D0 ∧ (o = [.un] ∧ Drw 0 D0)) NoX := by
  obtain ⟨cells, e⟩ := cutD_map ns D.int none (some 63)
  rcases hd with rfl | rfl
  all_goals
    refine fw_run rfl ?_
    walk_at "own"
    rw [e]
    exact ⟨rfl, false, false, cells, 0, 0, 1, 0, rfl, by decide, by decide, ⟨by decide, by decide⟩, by decide, by decide⟩
theorem szS {a : Int} (h : a.natAbs < 1000000000) : Sz 8000 a := Sz.mono (j := 30) (show a.natAbs < 2 ^ 30 by omega) (by decide)
end Lw
set_option maxHeartbeats 990000
open L2 PySem PySem.Spec PyProof.Rows Fm
namespace Lw
open L2 PySem PySem.Spec PyProof.Rows Fm
theorem sl_len (s : Str) : s.length = (sl s).length := Array.length_toList.symm
theorem sl_app (a b : Str) : sl (a ++ b) = sl a ++ sl b := TL.tl_append a b
theorem tx_app {m n : Nat} {a b : Str} (ha : Tx m a) (hb : Tx n b) : Tx (m + n) (a ++ b) := ⟨by
  have := ha.len
  have := hb.len
  have e : (a ++ b).length = a.length + b.length := Str.length_append a b
  omega, fun c hc => by
  have hc : c ∈ sl (a ++ b) := hc
  rw [sl_app] at hc
  rcases in_app hc with z | z
  · exact ha.asc c z
  · exact hb.asc c z⟩
theorem joinL_mem {S : List Nat} : ∀ {ps : List (List Nat)} {c : Nat}, c ∈ TL.joinL S ps → c ∈ S ∨ ∃ p ∈ ps, c ∈ p
  | [], _, h => by cases h
  | [p], _, h => .inr ⟨p, List.mem_cons_self .., h⟩
  | p :: q :: r, c, h => by
    rcases in_app (show c ∈ p ++ (S ++ TL.joinL S (q :: r)) from h) with z | z
    · exact .inr ⟨p, List.mem_cons_self .., z⟩
    · rcases in_app z with z | z
      · exact .inl z
      · rcases joinL_mem z with y | ⟨x, y1, y2⟩
        · exact .inl y
        · exact .inr ⟨x, List.mem_cons_of_mem _ y1, y2⟩
theorem join_tx {y : Str} {ps : List Str} {n : Nat} (hy : ∀ c ∈ sl y, c < 128) (hp : ∀ p ∈ ps, ∀ c ∈ sl p, c < 128) (hn : (ps.map (·.length)).sum + (ps.length - 1) * y.length ≤ n) : Tx n (Txt.join y ps) := by
  have e : Txt.join y ps = Str.join y ps := StrLaws.glued_eq_join y ps
  rw [e]
  refine ⟨?_, fun c hc => ?_⟩
  · cases ps with
    | nil => exact Nat.zero_le _
    | cons a l =>
      rw [len_join_cons]
      exact hn
  · have hc : c ∈ TL.tl (Str.join y ps) := hc
    rw [TL.tl_join] at hc
    rcases joinL_mem hc with z | ⟨q, z1, z2⟩
    · exact hy c z
    · obtain ⟨p, hp1, rfl⟩ := List.mem_map.mp z1
      exact hp p hp1 c z2
theorem sum_le {l : List Nat} {n : Nat} (h : ∀ a ∈ l, a ≤ n) : l.sum ≤ l.length * n := by
  induction l with
  | nil => exact Nat.zero_le _
  | cons a l ih =>
    rw [List.sum_cons, List.length_cons, Nat.succ_mul]
    have := h a (List.mem_cons_self ..)
    have := ih fun b hb => h b (List.mem_cons_of_mem _ hb)
    omega
theorem joined {y : Str} {ps : List Str} {n m k : Nat} (hy : Tx k y) (hp : ∀ p ∈ ps, Tx n p) (hm : ps.length ≤ m) : Tx (m * (n + k)) (Txt.join y ps) ∧ (ps.map (·.length)).sum + ps.length * y.length ≤ m * (n + k) := by
  have s : (ps.map (·.length)).sum ≤ ps.length * n := by
    have z := sum_le (l := ps.map (·.length)) (n := n) fun a ha => by
      obtain ⟨p, h1, rfl⟩ := List.mem_map.mp ha
      exact (hp p h1).len
    rw [List.length_map] at z
    exact z
  have t : ps.length * y.length ≤ ps.length * k := Nat.mul_le_mul_left _ hy.len
  have u : ps.length * (n + k) ≤ m * (n + k) := Nat.mul_le_mul_right _ hm
  rw [Nat.mul_add] at u
  have v : (ps.length - 1) * y.length ≤ ps.length * y.length := Nat.mul_le_mul_right _ (Nat.sub_le ..)
  exact ⟨join_tx hy.asc (fun p h => (hp p h).asc) (by omega), by omega⟩
theorem numL_tx {n k : Nat} (hk : 0 < k) (h : n < 10 ^ k) : (TL.numL n).length ≤ k ∧ ∀ c ∈ TL.numL n, c < 128 := ⟨TL.numL_len hk h, fun c hc => by
  have := TL.numL_digits n c hc
  omega⟩
theorem tx_str {i : Int} {k : Nat} (hk : 0 < k) (h : i.natAbs < 10 ^ k) : Tx (k + 1) (Str.ofString (toString i)) := by
  cases i with
  | ofNat n =>
    obtain ⟨h1, h2⟩ := numL_tx hk (n := n) h
    have e : sl (Str.ofString (toString (Int.ofNat n))) = TL.numL n := TL.tl_num n
    exact ⟨by rw [sl_len, e]; omega, fun c hc => h2 c (by rw [← e]; exact hc)⟩
  | negSucc n =>
    obtain ⟨h1, h2⟩ := numL_tx hk (n := n + 1) h
    have e : sl (Str.ofString (toString (Int.negSucc n))) = 45 :: TL.numL (n + 1) := by
      have a := TL.tl_ofString (toString (Int.negSucc n))
      have b := TL.tl_num (n + 1)
      rw [TL.tl_ofString] at b
      rw [show sl (Str.ofString (toString (Int.negSucc n))) = _ from a, ← b]
      have c : toString (Int.negSucc n) = "-" ++ toString (((n + 1 : Nat)) : Int) := rfl
      rw [c, String.toList_append, List.map_append]
      rfl
    exact ⟨by rw [sl_len, e, List.length_cons]; omega, fun c hc => by
      have hc : c ∈ sl _ := hc
      rw [e] at hc
      rcases in_cons hc with rfl | z
      · decide
      · exact h2 c z⟩
theorem log_small {i : Int} (h : i.natAbs < 10 ^ 40) : i.natAbs.log2 < 1920 := by
  by_cases z : i.natAbs = 0
  · rw [z]
    decide
  · rw [Nat.log2_lt z]
    exact Nat.lt_of_lt_of_le h (by decide +kernel)
/-- one of some texts -/
theorem one_ok {n : Nat} {d : D} {x : Bool} {l : List Str} (h : Drw n d) (h0 : 0 < l.length) (h1 : l.length ≤ 100000) (hn : n ≤ 1000000) : Fw (f__law_one [.ow d, .va (.lst x (l.map D.str))]) (fun r o => ∃ w, r = .va (.str w) ∧ w ∈ l ∧ ∃ d', o = [.ow d', .un] ∧ Drw (n + 1) d') NoX := by
  refine fw_run rfl ?_
  walk_at "own2"
  refine fw_drw (pick_ok h (by rw [List.length_map]; omega) (szS (by rw [List.length_map]; omega)) (by omega)) fun q d' hq hd => ?_
  rw [List.length_map] at hq
  obtain ⟨k, rfl⟩ : ∃ k : Nat, q = k := ⟨q.toNat, by omega⟩
  have hk : k < l.length := by omega
  walk_at "own2"
  refine o_ixL (show atI _ _ = some (D.str l[k]) by rw [Fm.atI_nat, List.getElem?_map, List.getElem?_eq_getElem hk]; rfl) ?_
  walk_at "own2"
  exact ⟨List.getElem_mem hk, d', rfl, hd⟩
theorem ones_ok {n m : Nat} {d : D} {s : Str} (h : Drw n d) (hs : Tx m s) (h0 : 0 < s.length) (h1 : m ≤ 100000) (hn : n ≤ 1000000) : Fw (f__law_one [.ow d, .va (.str s)]) (fun r o => ∃ w, r = .va (.str w) ∧ Tx 1 w ∧ ∃ d', o = [.ow d', .un] ∧ Drw (n + 1) d') NoX := by
  have hl := hs.len
  refine fw_run rfl ?_
  walk_at "own2"
  · refine fw_drw (pick_ok h (by omega) (szS (by omega)) (by omega)) fun q d' hq hd => ?_
    obtain ⟨k, rfl⟩ : ∃ k : Nat, q = k := ⟨q.toNat, by omega⟩
    have hk : k < (sl s).length := by
      rw [sl_len] at hq
      omega
    walk_at "own2"
    refine o_ixStr ?_ (show atI (sl s) _ = some (sl s)[k] by rw [Fm.atI_nat, List.getElem?_eq_getElem hk]) (by omega)
    walk_at "own2"
    exact ⟨⟨Nat.le_refl 1, fun c hc => by
      have hc : c ∈ [(sl s)[k]] := hc
      rw [in_one hc]
      exact hs.asc _ (List.getElem_mem hk)⟩, d', rfl, hd⟩
  · omega
end Lw
set_option maxHeartbeats 990000
open L2 PySem PySem.Spec PyProof.Rows Fm
local macro_rules | `(tactic| walk_at "own10") => `(tactic| (repeat (first | ((with_reducible apply w_stP); · exact (rfl : _ = [_, _, _, _, _, _, _, _, _, _])) | ((with_reducible apply w_stS); · exact (rfl : _ = [_, _, _, _, _, _, _, _, _, _])) | ((with_reducible apply w_stA); · exact (rfl : _ = [_, _, _, _, _, _, _, _, _, _])) | (with_reducible refine w_sseq ?_) | (with_reducible refine w_set ?_) | (with_reducible refine w_ret ?_) | (with_reducible refine w_retN ?_) | (with_reducible refine w_nx ?_) | (with_reducible refine w_drop ?_) | (with_reducible refine w_if ?_) | (with_reducible refine w_asg ?_) | (with_reducible refine w_par ?_) | (with_reducible refine w_par3 ?_) | (with_reducible refine w_put ?_) | (with_reducible refine w_for ?_) | (with_reducible refine w_op ?_) | (with_reducible refine w_un ?_) | (with_reducible refine w_fz ?_) | (with_reducible refine w_fzV ?_) | (with_reducible refine w_fzL ?_) | (with_reducible refine w_c ?_) | ((with_reducible apply w_var); · exact rfl) | ((with_reducible apply w_varO); · exact rfl) | ((with_reducible apply w_mov); · exact rfl) | ((with_reducible apply w_movO); · exact rfl) | ((with_reducible apply w_subV); · exact rfl) | ((with_reducible apply w_subO); · exact rfl) | (with_reducible refine w_chain ?_) | (with_reducible refine w_chK ?_) | (with_reducible refine w_tst ?_) | (with_reducible refine w_not ?_) | (with_reducible refine w_andT ?_) | (with_reducible refine w_orT ?_) | (with_reducible refine w_andV ?_) | (with_reducible refine w_orV ?_) | (with_reducible refine w_notV ?_) | (with_reducible refine w_ife ?_) | (with_reducible refine w_nil ?_) | (with_reducible refine w_cons ?_) | (with_reducible refine w_anil ?_) | (with_reducible refine w_ava ?_) | ((with_reducible apply w_asl); · exact rfl) | (with_reducible refine w_tup ?_) | (with_reducible refine w_lst ?_) | (with_reducible refine w_cb ?_) | (with_reducible refine w_call ?_) | ((with_reducible apply w_app); · exact rfl) | (with_reducible refine w_sl ?_) | (with_reducible refine w_pn ?_) | (with_reducible refine w_ps ?_) | (with_reducible refine w_lc ?_) | (with_reducible refine w_seqX ?_) | (with_reducible refine w_aapp ?_) | (with_reducible refine w_ex1 ?_) | (with_reducible refine w_tryF ?_) | (with_reducible refine w_m1 ?_) | (with_reducible refine w_mw ?_) | (with_reducible refine w_rng1 ?_) | (with_reducible refine w_rng2 ?_) | (with_reducible refine w_zip ?_) | (with_reducible refine o_add ?_) | (with_reducible refine o_eqStr ?_ ?_ ?_) | (with_reducible refine o_neStr ?_ ?_ ?_) | (with_reducible refine o_lenStr ?_ ?_) | (with_reducible refine o_slStr ?_ ?_) | (with_reducible refine o_addStr ?_ ?_) | (with_reducible refine o_addL ?_ ?_) | (with_reducible refine o_inS ?_) | (with_reducible refine o_ninS ?_) | (with_reducible refine o_inL ?_ ?_) | (with_reducible refine o_split ?_ ?_ ?_) | (with_reducible refine o_part ?_ ?_ ?_) | (with_reducible refine o_join ?_ ?_) | (with_reducible refine o_strI ?_ ?_) | (with_reducible refine o_sub ?_) | (with_reducible refine o_mul ?_ ?_) | (with_reducible refine o_mod ?_ ?_) | (with_reducible refine o_div ?_ ?_) | (with_reducible refine o_pow ?_ ?_) | (with_reducible refine o_lt ?_) | (with_reducible refine o_le ?_) | (with_reducible refine o_gt ?_) | (with_reducible refine o_ge ?_) | (with_reducible refine o_eqI ?_) | (with_reducible refine o_slS ?_) | (with_reducible refine o_slL ?_) | (with_reducible refine o_slT ?_) | (with_reducible refine o_eqB ?_) | (with_reducible refine o_neB ?_) | (with_reducible refine o_isnN ?_) | (with_reducible refine o_isnI ?_) | (with_reducible refine o_isnB ?_) | (with_reducible refine o_isnS ?_) | (with_reducible refine o_isnT ?_) | (with_reducible refine o_isnL ?_) | (with_reducible refine o_ntnN ?_) | (with_reducible refine o_ntnI ?_) | (with_reducible refine o_ntnT ?_) | (with_reducible refine o_ntnL ?_) | (with_reducible refine br_t ?_) | (with_reducible refine br_f ?_) | (with_reducible refine br_nt ?_) | (with_reducible refine br_nf ?_) | (with_reducible refine br_d ?_) | (with_reducible refine br_e ?_) | (with_reducible refine o_neI ?_) | (with_reducible refine o_neg ?_) | (with_reducible refine o_abs ?_) | ((with_reducible apply o_ixT); · exact rfl) | ((with_reducible apply o_ixL); · exact rfl) | (with_reducible refine o_len ?_) | (with_reducible refine o_lenL ?_) | (with_reducible refine o_tupT ?_) | (with_reducible refine o_tupL ?_) | (with_reducible refine o_listT ?_) | (with_reducible refine o_listL ?_) | (with_reducible refine o_all ?_) | (with_reducible refine o_any ?_) | ((with_reducible refine o_isi0 ?_); first | refine o_isI kit_int_int rfl ?_ | refine o_isI kit_int_bool rfl ?_ | refine o_isI kit_int_tuple rfl ?_ | refine o_isI kit_int_list rfl ?_ | refine o_isI kit_int_dict rfl ?_ | refine o_isI kit_bool_bool rfl ?_ | refine o_isI kit_bool_int rfl ?_ | refine o_isI kit_bool_tuple rfl ?_ | refine o_isI kit_bool_list rfl ?_ | refine o_isI kit_str_bool rfl ?_ | refine o_isI kit_str_int rfl ?_ | refine o_isI kit_tuple_bool rfl ?_ | refine o_isI kit_tuple_int rfl ?_ | refine o_isI kit_tuple_tuple rfl ?_ | refine o_isI kit_tuple_list rfl ?_ | refine o_isI kit_tuple_dict rfl ?_ | refine o_isI kit_list_bool rfl ?_ | refine o_isI kit_list_int rfl ?_ | refine o_isI kit_list_tuple rfl ?_ | refine o_isI kit_list_list rfl ?_ | refine o_isI kit_list_dict rfl ?_ | refine o_isI kit_non_bool rfl ?_ | refine o_isI kit_non_tuple rfl ?_ | refine o_isI kit_non_int rfl ?_) | ((with_reducible refine o_isit0 ?_); first | refine o_isT kits_int rfl ?_ | refine o_isT kits_str rfl ?_ | refine o_isT kits_tuple rfl ?_ | refine o_isT kits_list rfl ?_) | ((with_reducible apply x_len); · exact Nat.le_of_ble_eq_true rfl) | ((with_reducible apply x_is); · exact rfl) | ((with_reducible apply x_put); (· exact rfl); (· exact rfl); · exact rfl) | ((with_reducible apply x_call0); (· exact List.nodup_nil); · exact rfl) | ((with_reducible apply x_call0); (· exact nd1 _); · exact rfl) | ((with_reducible apply x_one); · exact rfl) | ((with_reducible apply x_two); · exact rfl) | ((with_reducible apply br_T); · exact rfl) | ((with_reducible apply br_F); · exact rfl))))
namespace Lw
open L2 PySem PySem.Spec PyProof.Rows Fm
abbrev abc : Str := "abcdefghijklmnopqrstuvwxyz"
theorem abc_len : abc.length = 26 := by decide +kernel
theorem abc_tx : Tx 26 abc := ⟨Nat.le_of_eq abc_len, by decide +kernel⟩
theorem nil_tx : Tx 0 "" := ⟨by decide +kernel, by decide +kernel⟩
theorem tup_at {l : List Int} {q : Int} (h : 0 ≤ q ∧ q < (l.length : Nat)) : ∃ z ∈ l, atI (l.map D.int) q = some (.int z) := by
  obtain ⟨k, rfl⟩ : ∃ k : Nat, q = k := ⟨q.toNat, by omega⟩
  have hk : k < l.length := by omega
  refine ⟨l[k], List.getElem_mem hk, ?_⟩
  rw [Fm.atI_nat, List.getElem?_map, List.getElem?_eq_getElem hk]
  rfl
theorem names_ok {n : Nat} {d : D} (h : Drw n d) (hn : n ≤ 100000) : Fw (f__law_names [.ow d, .va (.int 3)]) (fun r o => ∃ l : List Str, r = .ow (.lst false (l.map D.str)) ∧ (l.length = 3 ∧ ∀ w ∈ l, Tx 6 w) ∧ ∃ d', o = [.ow d', .un] ∧ Drw (n + 20) d') NoX := by
  refine fw_run rfl ?_
  refine w_sseq ?_
  refine w_mid (q := fun f ρ => f = .nx ∧ ρ = [.ow d, .va (.int 3), .va (.str abc), .un, .un, .un, .un, .un, .un, .un]) ?_ ?_
  · walk_at "own10"
    exact ⟨rfl, rfl⟩
  rintro _ _ ⟨rfl, rfl⟩
  refine w_sseq ?_
  refine w_mid (q := fun f ρ => f = .nx ∧ ∃ w d' s8, ρ = [.ow d', .va (.int 3), .va (.str abc), .va (.str w), .un, .un, .un, .un, s8, .un] ∧ Tx 5 w ∧ Drw (n + 7) d') ?_ ?_
  · walk_at "own10"
    refine fw_drw (pick_ok h (by decide) (szS (by decide)) (by omega)) fun q d1 hq k1 => ?_
    walk_at "own10"
    refine ⟨by omega, ?_⟩
    refine w_lcQ (I := fun i ρ => ∃ d' s8, ρ = [.ow d', .va (.int 3), .va (.str abc), .un, .un, .un, .un, .un, s8, .un] ∧ Drw (n + 1 + i) d') (Q := Tx 1) (m := D.str) ?_ ⟨d1, _, rfl, k1⟩ (by rw [rngD_len]; omega) ?_
    · rintro i e ρ hi ⟨d2, s8, rfl, k2⟩
      obtain ⟨hi2, rfl⟩ := rng_eq hi
      refine ⟨_, rfl, ?_⟩
      walk_at "own10"
      refine fw_mono (ones_ok k2 abc_tx (by rw [abc_len]; decide) (by decide) (by omega)) ?_
      rintro r o ⟨w, rfl, hw, d3, rfl, k3⟩
      walk_at "own10"
      exact ⟨⟨w, hw, rfl⟩, d3, _, rfl, k3⟩
    · rintro L ρ hL hQ ⟨d2, s8, rfl, k2⟩
      rw [rngD_len] at hL k2
      have j := joined (m := 5) nil_tx hQ (by omega)
      walk_at "own10"
      · exact ⟨rfl, _, d2, _, rfl, j.1, k2.mono (by omega)⟩
      · have := j.2
        omega
  rintro _ _ ⟨rfl, w, d1, s8, rfl, hw, k1⟩
  have lw := hw.len
  have letters : ∀ i : Int, 0 ≤ i ∧ i < 26 → ∃ c, atI (sl abc) i = some c ∧ c < 128 := fun i hi => by
    obtain ⟨k, rfl⟩ : ∃ k : Nat, i = k := ⟨i.toNat, by omega⟩
    have e : (sl abc).length = 26 := by rw [← sl_len, abc_len]
    have hk : k < (sl abc).length := by omega
    refine ⟨(sl abc)[k], ?_, abc_tx.asc _ (List.getElem_mem hk)⟩
    rw [Fm.atI_nat, List.getElem?_eq_getElem hk]
  walk_at "own10"
  · refine fw_drw (pick_ok k1 (by omega) (szS (by omega)) (by omega)) fun at_ d2 ha k2 => ?_
    walk_at "own10"
    refine fw_drw (pick_ok k2 (by decide) (szS (by decide)) (by omega)) fun first d3 hf k3 => ?_
    walk_at "own10"
    refine fw_drw (pick_ok k3 (by decide) (szS (by decide)) (by omega)) fun sp d4 hs k4 => ?_
    obtain ⟨step, hm, es⟩ := tup_at (l := [1, 3, 5, 7, 11, 25]) hs
    have hstep : step.natAbs < 26 := by
      simp only [List.mem_cons, or_false, List.not_mem_nil] at hm
      omega
    walk_at "own10"
    refine o_ixT es ?_
    walk_at "own10"
    refine ⟨by decide, ?_⟩
    refine w_lcQ (I := fun i ρ => ∃ s8, ρ = [.ow d4, .va (.int 3), .va (.str abc), .va (.str w), .va (.int at_), .va (.int first), .va (.int step), .un, s8, .un]) (Q := Tx 1) (m := D.str) ?_ ⟨_, rfl⟩ (by decide) ?_
    · rintro i e ρ hi ⟨s8, rfl⟩
      obtain ⟨hi2, rfl⟩ := rng_eq hi
      refine ⟨_, rfl, ?_⟩
      walk_at "own10"
      · obtain ⟨c, ec, hc⟩ := letters ((first + step * i).fmod 26) ⟨Int.fmod_nonneg_of_pos _ (by decide), Int.fmod_lt_of_pos _ (by decide)⟩
        refine o_ixStr ?_ ec (by rw [abc_len]; decide)
        walk_at "own10"
        exact ⟨⟨⟨#[c]⟩, ⟨Nat.le_refl 1, fun x hx => by
          have hx : x ∈ [c] := hx
          rw [in_one hx]
          exact hc⟩, rfl⟩, _, rfl⟩
      · decide
      · exact mulG_of (j := 5) (k := 5) (by unfold Sz; omega) (by unfold Sz; omega) (by decide)
    · rintro L ρ hL hQ ⟨s8, rfl⟩
      have hL3 : L.length = 3 := hL
      obtain ⟨at', rfl⟩ : ∃ k : Nat, at_ = k := ⟨at_.toNat, by omega⟩
      walk_at "own10"
      refine w_lcQ (I := fun i ρ => ∃ s9, ρ = [.ow d4, .va (.int 3), .va (.str abc), .va (.str w), .va (.int at'), .va (.int first), .va (.int step), .va (.lst false (L.map D.str)), s8, s9]) (Q := Tx 6) (m := D.str) ?_ ⟨_, rfl⟩ (by rw [List.length_map]; omega) ?_
      · rintro i e ρ hi ⟨s9, rfl⟩
        rw [List.getElem?_map] at hi
        obtain ⟨x, hx, rfl⟩ := Option.map_eq_some_iff.mp hi
        have tx := hQ x (List.mem_of_getElem? hx)
        have t1 := tx_take hw at'
        have t2 := tx_drop hw at'
        have e3 : (cutS w none (some (at' : Int)) ++ x ++ cutS w (some (at' : Int)) none).length = w.length + x.length := by
          rw [Str.length_append, Str.length_append, sl_len, cut_none, sl_len (cutS _ _ _), cut_some, sl_len w, List.length_take, List.length_drop]
          omega
        have lx := tx.len
        have tt := tx_app (tx_app t1 tx) t2
        have e4 : (cutS w none (some (at' : Int)) ++ x).length ≤ 10 := Nat.le_trans (tx_app t1 tx).len (by decide)
        have e5 := t1.len
        have e6 := t2.len
        refine ⟨_, rfl, ?_⟩
        walk_at "own10"
        · exact ⟨⟨_, ⟨by rw [e3]; omega, tt.asc⟩, rfl⟩, _, rfl⟩
        · omega
        · omega
        · omega
        · omega
      · rintro L2 ρ hL2 hQ2 ⟨s9, rfl⟩
        rw [List.length_map] at hL2
        walk_at "own10"
        exact ⟨⟨by omega, hQ2⟩, d4, rfl, k4.mono (by omega)⟩
  · omega
end Lw
set_option maxHeartbeats 990000
open L2 PySem PySem.Spec PyProof.Rows Fm
namespace Lw
open L2 PySem PySem.Spec PyProof.Rows Fm
structure StepOk (s : Step) : Prop where
  name : Tx 6 s.1
  len : s.2.length ≤ 3
  small : ∀ i ∈ s.2, i.natAbs < 10 ^ 7
structure RndOk (r : Rnd) : Prop where
  many : r.1.natAbs < 10 ^ 30
  len : r.2.length ≤ 5
  all : ∀ s ∈ r.2, StepOk s
theorem lnumbers_ok {n : Nat} {d : D} {ways limit : Int} (h : Drw n d) (hw : 0 ≤ ways ∧ ways < 4) (hl : 1 ≤ limit ∧ limit ≤ 1000000) (hn : n ≤ 100000) : Fw (f__law_numbers [.ow d, .va (.int ways), .va (.int limit)])
    (fun r o => ∃ l : List Int, r = .va (dNs l) ∧ (l.length ≤ 3 ∧ ∀ i ∈ l, i.natAbs < 10 ^ 7) ∧ ∃ d', o = [.ow d', .un, .un] ∧ Drw (n + 3) d') NoX := by
  refine fw_run rfl ?_
  walk_at "own4"
  refine ⟨by omega, ?_⟩
  refine w_lcQ (I := fun i ρ => ∃ d' s3, ρ = [.ow d', .va (.int ways), .va (.int limit), s3] ∧ Drw (n + i) d') (Q := fun i : Int => i.natAbs < 10 ^ 7) (m := D.int) ?_ ⟨d, _, rfl, h⟩ (by rw [rngD_len]; omega) ?_
  · rintro i e ρ hi ⟨d2, s3, rfl, k2⟩
    obtain ⟨hi2, rfl⟩ := rng_eq hi
    refine ⟨_, rfl, ?_⟩
    walk_at "own4"
    · refine fw_drw (pick_ok k2 (by omega) (szS (by omega)) (by omega)) fun q d3 hq k3 => ?_
      walk_at "own4"
      exact ⟨⟨_, by omega, rfl⟩, d3, _, rfl, k3⟩
    · exact mulG_of (j := 5) (k := 20) (by unfold Sz; decide) (by unfold Sz; omega) (by decide)
  · rintro L ρ hL hQ ⟨d2, s3, rfl, k2⟩
    rw [rngD_len] at hL k2
    walk_at "own4"
    exact ⟨⟨by omega, hQ⟩, d2, rfl, k2.mono (by omega)⟩
theorem drawn_ok {n : Nat} {d : D} (h : Drw n d) (hn : n ≤ 10000) : Fw (f__law_drawn_rounds [.ow d])
    (fun r o => ∃ l : List Rnd, r = .ow (.lst false (l.map dR)) ∧ (l.length ≤ 5 ∧ ∀ r ∈ l, RndOk r) ∧ ∃ d', o = [.ow d'] ∧ Drw (n + 200) d') NoX := by
  refine fw_run rfl ?_
  walk_at "own7"
  refine fw_drw (pick_ok h (by decide) (szS (by decide)) (by omega)) fun ways d1 hways k1 => ?_
  walk_at "own7"
  refine fw_mono (names_ok k1 (by omega)) ?_
  rintro r o ⟨nm, rfl, ⟨nl, nt⟩, d2, rfl, k2⟩
  walk_at "own7"
  refine fw_drw (pick_ok k2 (by decide) (szS (by decide)) (by omega)) fun many d3 hmany k3 => ?_
  walk_at "own7"
  refine ⟨by omega, ?_⟩
  refine w_forL (I := fun i ρ => ∃ (l : List Rnd) (d' : D) (s3 s4 s5 s6 : SD), ρ = [.ow d', .ow (.lst false (l.map dR)), .va (.int ways), s3, s4, s5, s6] ∧ (s3 = .ow (.lst false (nm.map D.str)) ∨ s3 = .va (.lst false (nm.map D.str))) ∧ (l.length = i ∧ ∀ r ∈ l, RndOk r) ∧ Drw (n + 22 + 30 * i) d') ?_ ⟨[], d3, _, _, _, _, rfl, .inl rfl, ⟨rfl, fun _ h => by cases h⟩, k3⟩ ?_
  · rintro i dd ρ hi ⟨l, d4, s3, s4, s5, s6, rfl, h3, ⟨ll, lr⟩, k4⟩
    obtain ⟨hi5, rfl⟩ := rng_eq hi
    refine ⟨_, rfl, ?_⟩
    walk_at "own7"
    refine fw_drw (pick_ok k4 (by decide) (szS (by decide)) (by omega)) fun ms d5 hms k5 => ?_
    walk_at "own7"
    refine ⟨by omega, ?_⟩
    refine w_forL (I := fun j ρ => ∃ (t : List Step) (d' : D) (s3 s6 : SD), ρ = [.ow d', .ow (.lst false (l.map dR)), .va (.int ways), s3, .va (.int i), .ow (.lst false (t.map dS)), s6] ∧ (s3 = .ow (.lst false (nm.map D.str)) ∨ s3 = .va (.lst false (nm.map D.str))) ∧ (t.length = j ∧ ∀ s ∈ t, StepOk s) ∧ Drw (n + 22 + 30 * i + 1 + 5 * j) d') ?_ ⟨[], d5, _, _, rfl, h3, ⟨rfl, fun _ h => by cases h⟩, k5⟩ ?_
    · rintro j dd ρ hj ⟨t, d6, s3, s6, rfl, h3, ⟨tl, tr⟩, k6⟩
      obtain ⟨hj5, rfl⟩ := rng_eq hj
      refine ⟨_, rfl, ?_⟩
      rcases h3 with rfl | rfl
      all_goals
        walk_at "own7"
        refine fw_mono (one_ok k6 (by omega) (by omega) (by omega)) ?_
        rintro r o ⟨w, rfl, hw, d7, rfl, k7⟩
        walk_at "own7"
        · refine fw_drw (pick_ok k7 (by decide) (szS (by decide)) (by omega)) fun q d8 hq k8 => ?_
          obtain ⟨limit, hm, es⟩ := tup_at (l := [2, 10 ^ 6]) hq
          have hlim : 1 ≤ limit ∧ limit ≤ 1000000 := by
            rcases in_cons hm with rfl | hm
            · omega
            · rw [in_one hm]
              omega
          walk_at "own7"
          refine o_ixT es ?_
          walk_at "own7"
          refine fw_mono (lnumbers_ok k8 hways hlim (by omega)) ?_
          rintro r o ⟨nms, rfl, hnms, d9, rfl, k9⟩
          walk_at "own7"
          refine ⟨_, _, _, rfl, rfl, by rw [List.length_map]; omega, ?_⟩
          walk_at "own7"
          have ea : (t ++ [((w, nms) : Step)]).map dS = t.map dS ++ [dS (w, nms)] := by
            rw [List.map_append]
            rfl
          refine ⟨t ++ [(w, nms)], d9, _, _, by rw [ea]; rfl, .inr rfl, ⟨by rw [List.length_append, tl]; rfl, fun s hs => ?_⟩, k9.mono (by omega)⟩
          rcases in_app hs with z | z
          · exact tr s z
          · rw [in_one z]
            exact ⟨nt w hw, hnms.1, hnms.2⟩
        · exact ⟨by decide, by decide, by omega⟩
    · rintro ρ ⟨t, d6, s3, s6, rfl, h3, ⟨tl, tr⟩, k6⟩
      rw [rngD_len] at tl k6
      walk_at "own7"
      · refine fw_drw (pick_ok k6 (by decide) (szS (by decide)) (by omega)) fun q d8 hq k8 => ?_
        obtain ⟨limit, hm, es⟩ := tup_at (l := [3, 10 ^ 6, 10 ^ 29]) hq
        have hlim : 1 ≤ limit ∧ limit ≤ 10 ^ 29 := by
          simp only [List.mem_cons, or_false, List.not_mem_nil] at hm
          rcases hm with rfl | rfl | rfl
          · omega
          · omega
          · omega
        walk_at "own7"
        refine o_ixT es ?_
        walk_at "own7"
        refine fw_drw (pick_ok k8 (by omega) (Sz.mono (j := 100) (by unfold Sz; omega) (by decide)) (by omega)) fun count d9 hcount k9 => ?_
        walk_at "own7"
        refine ⟨_, _, _, rfl, rfl, by rw [List.length_map]; omega, ?_⟩
        walk_at "own7"
        have ea : (l ++ [((1 + count, t) : Rnd)]).map dR = l.map dR ++ [dR (1 + count, t)] := by
          rw [List.map_append]
          rfl
        refine ⟨l ++ [(1 + count, t)], d9, _, _, _, _, by rw [ea]; rfl, h3, ⟨by rw [List.length_append, ll]; rfl, fun s hs => ?_⟩, k9.mono (by omega)⟩
        rcases in_app hs with z | z
        · exact lr s z
        · rw [in_one z]
          exact ⟨show (1 + count).natAbs < _ by omega, show t.length ≤ 5 by omega, tr⟩
      · exact ⟨by decide, by decide, by omega⟩
      · exact ⟨by decide, by decide, by omega⟩
  · rintro ρ ⟨l, d4, s3, s4, s5, s6, rfl, h3, ⟨ll, lr⟩, k4⟩
    rw [rngD_len] at ll k4
    walk_at "own7"
    exact ⟨⟨by omega, lr⟩, d4, rfl, k4.mono (by omega)⟩
end Lw
set_option maxHeartbeats 990000
open L2 PySem PySem.Spec PyProof.Rows Fm
namespace Lw
open L2 PySem PySem.Spec PyProof.Rows Fm
theorem sp_tx : Tx 1 " " := ⟨by decide +kernel, by decide +kernel⟩
theorem col_tx : Tx 2 ": " := ⟨by decide +kernel, by decide +kernel⟩
theorem com_tx : Tx 2 ", " := ⟨by decide +kernel, by decide +kernel⟩
theorem sem_tx : Tx 2 "; " := ⟨by decide +kernel, by decide +kernel⟩
theorem pl_dR {n : Nat} {r : Rnd} (h : RndOk r) : D.pl (n + 4) (dR r) = true := pl_tup fun d hd => by
  rcases in_cons hd with rfl | hd
  · exact pl_int _ _
  · rw [in_one hd]
    refine pl_tup fun e he => ?_
    obtain ⟨s, hs, rfl⟩ := List.mem_map.mp he
    exact pl_dS (h.all s hs).name.ok
theorem words_ok {l : List Rnd} (hl : l.length ≤ 5) (h : ∀ r ∈ l, RndOk r) : Fw (f__law_walk_words [.va (.lst false (l.map dR))]) (fun r o => ∃ w, r = .va (.str w) ∧ Tx 1125 w ∧ o = [.un]) NoX := by
  have hp : (D.lst false (l.map dR)).pl 60 = true := plL_of fun d hd => by
    obtain ⟨r, hr, rfl⟩ := List.mem_map.mp hd
    exact pl_dR (n := 55) (h r hr)
  refine fw_run rfl ?_
  walk_at "own8"
  refine o_eq ?_ hp (by rfl)
  walk_at "own8"
  refine ⟨fun _ => ?_, fun _ => ?_⟩
  · walk_at "own8"
    exact ⟨⟨by decide +kernel, by decide +kernel⟩, rfl⟩
  walk_at "own8"
  refine w_forL (I := fun i ρ => ∃ (ws : List Str) (s2 s3 s4 s5 s6 s7 : SD), ρ = [.va (.lst false (l.map dR)), .ow (.lst false (ws.map D.str)), s2, s3, s4, s5, s6, s7] ∧ (ws.length = i ∧ ∀ w ∈ ws, Tx 223 w)) ?_ ⟨[], _, _, _, _, _, _, rfl, rfl, fun _ h => by cases h⟩ ?_
  · rintro i d ρ hd ⟨ws, s2, s3, s4, s5, s6, s7, rfl, lw, tw⟩
    rw [List.getElem?_map] at hd
    obtain ⟨r, hr, rfl⟩ := Option.map_eq_some_iff.mp hd
    have rok := h r (List.mem_of_getElem? hr)
    have hi := (List.getElem?_eq_some_iff.mp hr).1
    have rl := rok.len
    refine ⟨_, rfl, ?_⟩
    walk_at "own8"
    refine w_lcQ (I := fun k ρ => ∃ (s5 s6 s7 : SD), ρ = [.va (.lst false (l.map dR)), .ow (.lst false (ws.map D.str)), .va (.int r.1), .va (.tup (r.2.map dS)), s4, s5, s6, s7]) (Q := Tx 36) (m := D.str) ?_ ⟨_, _, _, rfl⟩ (by rw [List.length_map]; omega) ?_
    · rintro k e ρ hk ⟨s5, s6, s7, rfl⟩
      rw [List.getElem?_map] at hk
      obtain ⟨s, hs, rfl⟩ := Option.map_eq_some_iff.mp hk
      have sok := rok.all s (List.mem_of_getElem? hs)
      have sl3 := sok.len
      refine ⟨_, rfl, ?_⟩
      walk_at "own8"
      refine w_lcQ (I := fun k ρ => ∃ (s7 : SD), ρ = [.va (.lst false (l.map dR)), .ow (.lst false (ws.map D.str)), .va (.int r.1), .va (.tup (r.2.map dS)), s4, .va (.str s.1), .va (.tup (s.2.map D.int)), s7]) (Q := Tx 8) (m := D.str) ?_ ⟨_, rfl⟩ (by rw [List.length_map]; omega) ?_
      · rintro j e ρ hj ⟨s7, rfl⟩
        rw [List.getElem?_map] at hj
        obtain ⟨x, hx, rfl⟩ := Option.map_eq_some_iff.mp hj
        have hs := sok.small x (List.mem_of_getElem? hx)
        refine ⟨_, rfl, ?_⟩
        walk_at "own8"
        · exact ⟨⟨_, tx_str (by decide) hs, rfl⟩, _, rfl⟩
        · exact log_small (Nat.lt_of_lt_of_le hs (by decide))
      · rintro L ρ hL hQ ⟨s7, rfl⟩
        rw [List.length_map] at hL
        have tt : ∀ w ∈ s.1 :: L, Tx 8 w := fun w hw => by
          rcases in_cons hw with rfl | hw
          · exact sok.name.mono (by decide)
          · exact hQ w hw
        have j := joined (m := 4) sp_tx tt (by rw [List.length_cons]; omega)
        walk_at "own8"
        · rw [show [D.str s.1] ++ L.map D.str = (s.1 :: L).map D.str from rfl]
          walk_at "own8"
          · exact ⟨⟨_, j.1, rfl⟩, _, _, _, rfl⟩
          · have := j.2
            omega
        · rw [List.length_map, List.length_singleton]
          omega
    · rintro L ρ hL hQ ⟨s5, s6, s7, rfl⟩
      rw [List.length_map] at hL
      have j := joined (m := 5) com_tx hQ (by omega)
      have t1 := tx_str (by decide) rok.many
      have l1 := t1.len
      have l2 := j.1.len
      have t2 := tx_app t1 col_tx
      have l3 := t2.len
      have l4 := col_tx.len
      walk_at "own8"
      · refine ⟨_, _, _, rfl, rfl, by rw [List.length_map]; omega, ?_⟩
        walk_at "own8"
        refine ⟨ws ++ [_], _, _, _, _, _, _, by rw [List.map_append]; rfl, by rw [List.length_append, lw]; rfl, fun w hw => ?_⟩
        rcases in_app hw with z | z
        · exact tw w z
        · rw [in_one z]
          exact tx_app t2 j.1
      · omega
      · have := j.2
        omega
      · omega
      · exact log_small (Nat.lt_of_lt_of_le rok.many (by decide))
  · rintro ρ ⟨ws, s2, s3, s4, s5, s6, s7, rfl, lw, tw⟩
    rw [List.length_map] at lw
    have j := joined (m := 5) sem_tx tw (by omega)
    walk_at "own8"
    · exact ⟨j.1, rfl⟩
    · have := j.2
      omega
end Lw
set_option maxHeartbeats 990000
open L2 PySem PySem.Spec PyProof.Rows Fm
namespace Lw
open L2 PySem PySem.Spec PyProof.Rows Fm
def repS (s : Str) (k : Int) : Str := ⟨(List.replicate k.toNat s.cps).foldl (· ++ ·) #[]⟩
theorem o_repS {p : SD → Prop} {s : Str} {k : Int} (h : p (.va (.str (repS s k)))) (g : 2 ≤ k ∧ k < 2 ^ 62 ∧ s.length ≠ 0 ∧ s.length * k.toNat ≤ 1000000) : Ow (repD (.str s) (.int k)) p := ⟨_, if_pos g, h⟩
def odds : List Str := ["", " ", "0", "-", ";", ":", ",", "a", "A", "; ", ": ", ", ", "1", "-1", "stay", "\n"]
def odd_numbers : List Str := ["0", "-0", "07", "1234567", "12345678", "0:", "-1:", repS "1" 30 ++ ":", repS "1" 31 ++ ":"]
theorem tx_all {n : Nat} {l : List Str} (h : (l.all fun s => decide (s.length ≤ n) && s.cps.toList.all fun c => decide (c < 128)) = true) : ∀ w ∈ l, Tx n w := fun w hw => by
  have z := List.all_eq_true.mp h w hw
  obtain ⟨z1, z2⟩ := Bool.and_eq_true_iff.mp z
  exact ⟨of_decide_eq_true z1, fun c hc => of_decide_eq_true (List.all_eq_true.mp z2 c hc)⟩
theorem odds_tx : ∀ w ∈ odds, Tx 4 w := tx_all (by decide +kernel)
theorem odd_numbers_tx : ∀ w ∈ odd_numbers, Tx 32 w := tx_all (by decide +kernel)
/-- a part left out, another put in -/
theorem put_tx {n m : Nat} {w x : Str} (h : Tx n w) (hx : Tx m x) (i j : Nat) (hij : i ≤ j) : Tx (n + m) (cutS w none (some (i : Int)) ++ x ++ cutS w (some (j : Int)) none) ∧ (cutS w none (some (i : Int))).length + x.length ≤ n + m ∧ (cutS w none (some (i : Int)) ++ x).length + (cutS w (some (j : Int)) none).length ≤ n + m := by
  have e1 : (cutS w none (some (i : Int))).length = min i w.length := by
    rw [sl_len, cut_none, List.length_take, sl_len w]
  have e2 : (cutS w (some (j : Int)) none).length = w.length - j := by
    rw [sl_len, cut_some, List.length_drop, sl_len w]
  have t := tx_app (tx_app (tx_take h i) hx) (tx_drop h j)
  have lw := h.len
  have lx := hx.len
  have e3 : (cutS w none (some (i : Int)) ++ x).length = (cutS w none (some (i : Int))).length + x.length := Str.length_append _ _
  have e4 : (cutS w none (some (i : Int)) ++ x ++ cutS w (some (j : Int)) none).length = (cutS w none (some (i : Int)) ++ x).length + (cutS w (some (j : Int)) none).length := Str.length_append _ _
  exact ⟨⟨by omega, t.asc⟩, by omega, by omega⟩
theorem sum_app (l m : List Str) : ((l ++ m).map (·.length)).sum = (l.map (·.length)).sum + (m.map (·.length)).sum := by
  rw [List.map_append, List.sum_append]
theorem sum_td (ws : List Str) (i : Nat) : (ws.map (·.length)).sum = ((ws.take i).map (·.length)).sum + ((ws.drop i).map (·.length)).sum := by
  rw [← sum_app, List.take_append_drop]
theorem sum_one (w : Str) : ([w].map (·.length)).sum = w.length := by
  show w.length + ([] : List Nat).sum = _
  exact Nat.add_zero _
theorem cutm_upto (ws : List Str) (k : Nat) : cutD (ws.map D.str) none (some (k : Int)) = (ws.take k).map D.str := by rw [cutD_upto, List.map_take]
theorem cutm_from (ws : List Str) (k : Nat) : cutD (ws.map D.str) (some (k : Int)) none = (ws.drop k).map D.str := by rw [cutD_from, List.map_drop]
/-- words of a text, some of them others -/
theorem re_tx {n m : Nat} {t : Str} (h : Tx n t) (hn : n ≤ 100000) (hm : m ≤ 100000) {i j : Nat} (hi : i < (Txt.split t " ").length) (hj : i ≤ j) {x : Str} (hx : Tx m x) {ps : List Str} (e : ps = (Txt.split t " ").take i ++ [x] ++ (Txt.split t " ").drop j) :
    Tx (n + m + 1) (Txt.join " " ps) ∧ (ps.map (·.length)).sum + ps.length * (" " : Str).length ≤ 1000000 := by
  subst e
  have one : (" " : Str).length = 1 := by decide +kernel
  obtain ⟨s1, s2⟩ := split_sum (x := t) sep_sp
  rw [one] at s1
  have l1 := h.len
  have lx := hx.len
  have a1 := sum_td (Txt.split t " ") i
  have a2 := sum_td (Txt.split t " ") j
  have mono : (((Txt.split t " ").drop j).map (·.length)).sum ≤ (((Txt.split t " ").drop i).map (·.length)).sum := by
    obtain ⟨k, rfl⟩ : ∃ k, j = i + k := ⟨j - i, by omega⟩
    have z := sum_td ((Txt.split t " ").drop i) k
    rw [List.drop_drop] at z
    omega
  have s : ((((Txt.split t " ").take i ++ [x] ++ (Txt.split t " ").drop j)).map (·.length)).sum ≤ ((Txt.split t " ").map (·.length)).sum + m := by
    rw [sum_app, sum_app, sum_one]
    omega
  have c : ((Txt.split t " ").take i ++ [x] ++ (Txt.split t " ").drop j).length ≤ (Txt.split t " ").length + 1 := by
    rw [List.length_append, List.length_append, List.length_take, List.length_drop, List.length_singleton]
    omega
  have ne : 1 ≤ (Txt.split t " ").length := by omega
  refine ⟨join_tx sp_tx.asc (fun p hp => ?_) ?_, ?_⟩
  · have all := fun q (hq : q ∈ Txt.split t " ") => (split_tx sep_sp h hq).asc
    rcases in_app hp with z | z
    · rcases in_app z with z | z
      · exact all p (List.mem_of_mem_take z)
      · rw [in_one z]
        exact hx.asc
    · exact all p (List.mem_of_mem_drop z)
  · rw [one]
    omega
  · rw [one]
    omega
theorem spoilt_ok {n k : Nat} {t : Str} {d : D} (hd : Drw k d) (hk : k ≤ 100000) (h : Tx n t) (hn : n ≤ 10000) : Fw (f__law_spoilt [.ow d, .va (.str t)]) (fun r o => ∃ w, r = .va (.str w) ∧ Tx (2 * n + 40) w ∧ ∃ d', o = [.ow d', .un] ∧ Drw (k + 5) d') NoX := by
  have lt := h.len
  have sp := split_len sep_sp h
  have spn : 0 < (Txt.split t " ").length := List.length_pos_iff.mpr (split_ne sep_sp)
  refine fw_run rfl ?_
  walk_at "own8"
  · refine fw_drw (pick_ok hd (by omega) (szS (by omega)) (by omega)) fun at_ d1 ha k1 => ?_
    obtain ⟨i, rfl⟩ : ∃ i : Nat, at_ = i := ⟨at_.toNat, by omega⟩
    walk_at "own8"
    refine fw_mono (one_ok (l := odds) k1 (by decide) (by decide) (by omega)) ?_
    rintro r o ⟨odd, rfl, ho, d2, rfl, k2⟩
    have todd := odds_tx odd ho
    obtain ⟨p1, p2, p3⟩ := put_tx h todd i i (Nat.le_refl _)
    obtain ⟨p4, p5, p6⟩ := put_tx h todd i (i + 1) (by omega)
    walk_at "own8"
    refine fw_drw (pick_ok k2 (by decide) (szS (by decide)) (by omega)) fun way d3 hway k3 => ?_
    walk_at "own8"
    refine ⟨fun _ => ?_, fun _ => ?_⟩
    · walk_at "own8"
      · exact ⟨p1.mono (by omega), d3, rfl, k3.mono (by omega)⟩
      all_goals omega
    walk_at "own8"
    refine ⟨fun _ => ?_, fun _ => ?_⟩
    · walk_at "own8"
      · exact ⟨p4.mono (by omega), d3, rfl, k3.mono (by omega)⟩
      · exact Nat.le_trans p6 (by omega)
      all_goals omega
    walk_at "own8"
    · refine fw_drw (pick_ok k3 (by rw [List.length_map]; omega) (szS (by rw [List.length_map]; omega)) (by omega)) fun spot d4 hspot k4 => ?_
      rw [List.length_map] at hspot
      obtain ⟨j, rfl⟩ : ∃ j : Nat, spot = j := ⟨spot.toNat, by omega⟩
      have hj : j < (Txt.split t " ").length := by omega
      walk_at "own8"
      refine o_repS ?_ (by decide +kernel)
      walk_at "own8"
      · refine o_repS ?_ (by decide +kernel)
        walk_at "own8"
        · refine fw_mono (one_ok (l := odd_numbers) k4 (by decide) (by decide) (by omega)) ?_
          rintro r o ⟨num, rfl, hnum, d5, rfl, k5⟩
          have tnum := odd_numbers_tx num hnum
          walk_at "own8"
          refine ⟨fun _ => ?_, fun _ => ?_⟩
          · obtain ⟨r1, r2⟩ := re_tx h (by omega) (by decide) hj (Nat.le_succ _) tnum rfl
            walk_at "own8"
            · rw [cutm_upto, show ((j : Int) + 1) = ((j + 1 : Nat) : Int) from rfl, cutm_from, show [D.str num] = [num].map D.str from rfl, ← List.map_append, ← List.map_append]
              walk_at "own8"
              · exact ⟨r1.mono (by omega), d5, rfl, k5⟩
              · exact r2
            · rw [cutm_upto, show ((j : Int) + 1) = ((j + 1 : Nat) : Int) from rfl, cutm_from]
              simp only [List.length_append, List.length_map, List.length_take, List.length_drop, List.length_singleton]
              omega
            · rw [cutm_upto]
              simp only [List.length_append, List.length_map, List.length_take, List.length_drop, List.length_singleton]
              omega
          · have tx : Tx n (Txt.split t " ")[j] := split_tx sep_sp h (List.getElem_mem hj)
            obtain ⟨r1, r2⟩ := re_tx h (by omega) (by omega) hj (Nat.le_refl _) tx rfl
            walk_at "own8"
            refine o_ixL (show atI _ _ = some (D.str (Txt.split t " ")[j]) by rw [Fm.atI_nat, List.getElem?_map, List.getElem?_eq_getElem hj]; rfl) ?_
            walk_at "own8"
            · rw [cutm_upto, cutm_from, show [D.str (Txt.split t " ")[j]] = [(Txt.split t " ")[j]].map D.str from rfl, ← List.map_append, ← List.map_append]
              walk_at "own8"
              · exact ⟨r1.mono (by omega), d5, rfl, k5⟩
              · exact r2
            · rw [cutm_upto, cutm_from]
              simp only [List.length_append, List.length_map, List.length_take, List.length_drop, List.length_singleton]
              omega
            · rw [cutm_upto]
              simp only [List.length_append, List.length_map, List.length_take, List.length_drop, List.length_singleton]
              omega
        · decide +kernel
      · decide +kernel
    · omega
    · exact sep_len sep_sp
  · omega
end Lw
set_option maxHeartbeats 990000
open L2 PySem PySem.Spec PyProof.Rows Fm
local macro_rules | `(tactic| walk_at "own9") => `(tactic| (repeat (first | ((with_reducible apply w_stP); · exact (rfl : _ = [_, _, _, _, _, _, _, _, _])) | ((with_reducible apply w_stS); · exact (rfl : _ = [_, _, _, _, _, _, _, _, _])) | ((with_reducible apply w_stA); · exact (rfl : _ = [_, _, _, _, _, _, _, _, _])) | (with_reducible refine w_sseq ?_) | (with_reducible refine w_set ?_) | (with_reducible refine w_ret ?_) | (with_reducible refine w_retN ?_) | (with_reducible refine w_nx ?_) | (with_reducible refine w_drop ?_) | (with_reducible refine w_if ?_) | (with_reducible refine w_asg ?_) | (with_reducible refine w_par ?_) | (with_reducible refine w_par3 ?_) | (with_reducible refine w_put ?_) | (with_reducible refine w_for ?_) | (with_reducible refine w_op ?_) | (with_reducible refine w_un ?_) | (with_reducible refine w_fz ?_) | (with_reducible refine w_fzV ?_) | (with_reducible refine w_fzL ?_) | (with_reducible refine w_c ?_) | ((with_reducible apply w_var); · exact rfl) | ((with_reducible apply w_varO); · exact rfl) | ((with_reducible apply w_mov); · exact rfl) | ((with_reducible apply w_movO); · exact rfl) | ((with_reducible apply w_subV); · exact rfl) | ((with_reducible apply w_subO); · exact rfl) | (with_reducible refine w_chain ?_) | (with_reducible refine w_chK ?_) | (with_reducible refine w_tst ?_) | (with_reducible refine w_not ?_) | (with_reducible refine w_andT ?_) | (with_reducible refine w_orT ?_) | (with_reducible refine w_andV ?_) | (with_reducible refine w_orV ?_) | (with_reducible refine w_notV ?_) | (with_reducible refine w_ife ?_) | (with_reducible refine w_nil ?_) | (with_reducible refine w_cons ?_) | (with_reducible refine w_anil ?_) | (with_reducible refine w_ava ?_) | ((with_reducible apply w_asl); · exact rfl) | (with_reducible refine w_tup ?_) | (with_reducible refine w_lst ?_) | (with_reducible refine w_cb ?_) | (with_reducible refine w_call ?_) | ((with_reducible apply w_app); · exact rfl) | (with_reducible refine w_sl ?_) | (with_reducible refine w_pn ?_) | (with_reducible refine w_ps ?_) | (with_reducible refine w_lc ?_) | (with_reducible refine w_seqX ?_) | (with_reducible refine w_aapp ?_) | (with_reducible refine w_ex1 ?_) | (with_reducible refine w_tryF ?_) | (with_reducible refine w_m1 ?_) | (with_reducible refine w_mw ?_) | (with_reducible refine w_rng1 ?_) | (with_reducible refine w_rng2 ?_) | (with_reducible refine w_zip ?_) | (with_reducible refine o_add ?_) | (with_reducible refine o_eqStr ?_ ?_ ?_) | (with_reducible refine o_neStr ?_ ?_ ?_) | (with_reducible refine o_lenStr ?_ ?_) | (with_reducible refine o_slStr ?_ ?_) | (with_reducible refine o_addStr ?_ ?_) | (with_reducible refine o_addL ?_ ?_) | (with_reducible refine o_inS ?_) | (with_reducible refine o_ninS ?_) | (with_reducible refine o_inL ?_ ?_) | (with_reducible refine o_split ?_ ?_ ?_) | (with_reducible refine o_part ?_ ?_ ?_) | (with_reducible refine o_join ?_ ?_) | (with_reducible refine o_strI ?_ ?_) | (with_reducible refine o_sub ?_) | (with_reducible refine o_mul ?_ ?_) | (with_reducible refine o_mod ?_ ?_) | (with_reducible refine o_div ?_ ?_) | (with_reducible refine o_pow ?_ ?_) | (with_reducible refine o_lt ?_) | (with_reducible refine o_le ?_) | (with_reducible refine o_gt ?_) | (with_reducible refine o_ge ?_) | (with_reducible refine o_eqI ?_) | (with_reducible refine o_slS ?_) | (with_reducible refine o_slL ?_) | (with_reducible refine o_slT ?_) | (with_reducible refine o_eqB ?_) | (with_reducible refine o_neB ?_) | (with_reducible refine o_isnN ?_) | (with_reducible refine o_isnI ?_) | (with_reducible refine o_isnB ?_) | (with_reducible refine o_isnS ?_) | (with_reducible refine o_isnT ?_) | (with_reducible refine o_isnL ?_) | (with_reducible refine o_ntnN ?_) | (with_reducible refine o_ntnI ?_) | (with_reducible refine o_ntnT ?_) | (with_reducible refine o_ntnL ?_) | (with_reducible refine br_t ?_) | (with_reducible refine br_f ?_) | (with_reducible refine br_nt ?_) | (with_reducible refine br_nf ?_) | (with_reducible refine br_d ?_) | (with_reducible refine br_e ?_) | (with_reducible refine o_neI ?_) | (with_reducible refine o_neg ?_) | (with_reducible refine o_abs ?_) | ((with_reducible apply o_ixT); · exact rfl) | ((with_reducible apply o_ixL); · exact rfl) | (with_reducible refine o_len ?_) | (with_reducible refine o_lenL ?_) | (with_reducible refine o_tupT ?_) | (with_reducible refine o_tupL ?_) | (with_reducible refine o_listT ?_) | (with_reducible refine o_listL ?_) | (with_reducible refine o_all ?_) | (with_reducible refine o_any ?_) | ((with_reducible refine o_isi0 ?_); first | refine o_isI kit_int_int rfl ?_ | refine o_isI kit_int_bool rfl ?_ | refine o_isI kit_int_tuple rfl ?_ | refine o_isI kit_int_list rfl ?_ | refine o_isI kit_int_dict rfl ?_ | refine o_isI kit_bool_bool rfl ?_ | refine o_isI kit_bool_int rfl ?_ | refine o_isI kit_bool_tuple rfl ?_ | refine o_isI kit_bool_list rfl ?_ | refine o_isI kit_str_bool rfl ?_ | refine o_isI kit_str_int rfl ?_ | refine o_isI kit_tuple_bool rfl ?_ | refine o_isI kit_tuple_int rfl ?_ | refine o_isI kit_tuple_tuple rfl ?_ | refine o_isI kit_tuple_list rfl ?_ | refine o_isI kit_tuple_dict rfl ?_ | refine o_isI kit_list_bool rfl ?_ | refine o_isI kit_list_int rfl ?_ | refine o_isI kit_list_tuple rfl ?_ | refine o_isI kit_list_list rfl ?_ | refine o_isI kit_list_dict rfl ?_ | refine o_isI kit_non_bool rfl ?_ | refine o_isI kit_non_tuple rfl ?_ | refine o_isI kit_non_int rfl ?_) | ((with_reducible refine o_isit0 ?_); first | refine o_isT kits_int rfl ?_ | refine o_isT kits_str rfl ?_ | refine o_isT kits_tuple rfl ?_ | refine o_isT kits_list rfl ?_) | ((with_reducible apply x_len); · exact Nat.le_of_ble_eq_true rfl) | ((with_reducible apply x_is); · exact rfl) | ((with_reducible apply x_put); (· exact rfl); (· exact rfl); · exact rfl) | ((with_reducible apply x_call0); (· exact List.nodup_nil); · exact rfl) | ((with_reducible apply x_call0); (· exact nd1 _); · exact rfl) | ((with_reducible apply x_one); · exact rfl) | ((with_reducible apply x_two); · exact rfl) | ((with_reducible apply br_T); · exact rfl) | ((with_reducible apply br_F); · exact rfl))))
namespace Lw
open L2 PySem PySem.Spec PyProof.Rows Fm
theorem okT_tup {n : Nat} {l : List D} (h : l.length ≤ 100000) (k : ∀ d ∈ l, okT n d = true) : okT (n + 1) (.tup l) = true := by
  show (decide (l.length ≤ 100000) && l.all (okT n)) = true
  rw [decide_eq_true h, Bool.true_and, List.all_eq_true]
  exact k
theorem okT_lst {n : Nat} {b : Bool} {l : List D} (h : l.length ≤ 100000) (k : ∀ d ∈ l, okT n d = true) : okT (n + 1) (.lst b l) = true := by
  show (decide (l.length ≤ 100000) && l.all (okT n)) = true
  rw [decide_eq_true h, Bool.true_and, List.all_eq_true]
  exact k
theorem okT_int (n : Nat) (i : Int) : okT n (.int i) = true := by cases n <;> rfl
theorem okT_str {n : Nat} {s : Str} (h : PyData.strOk s = true) : okT n (.str s) = true := by cases n <;> exact h
theorem allO_len {α : Type} {l : List (Option α)} {m : List α} (h : allO l = some m) : m.length = l.length := by
  rw [allO_eq h, List.length_map]
theorem allO_from {α γ : Type} {f : γ → Option α} {l : List γ} {m : List α} (h : allO (l.map f) = some m) : ∀ a ∈ m, ∃ c ∈ l, f c = some a := fun a ha => by
  have z : some a ∈ l.map f := by
    rw [allO_eq h]
    exact List.mem_map_of_mem ha
  exact List.mem_map.mp z
theorem okT_dS {k n : Nat} {t : Str} (h : Tx k t) (hk : k ≤ 90000) {s : Step} (e : stepB t = some s) : okT (n + 2) (dS s) = true := by
  have t1 := stepB_tx h e
  obtain ⟨w, ws, e1⟩ := split_cons (x := t) sep_sp
  have ln := split_len sep_sp h
  rw [e1, List.length_cons] at ln
  rw [stepB_eq e1] at e
  split at e
  · obtain ⟨l, h1, rfl⟩ := Option.map_eq_some_iff.mp e
    have hl := allO_len h1
    rw [List.length_map] at hl
    refine okT_tup (show 2 ≤ 100000 by decide) fun d hd => ?_
    rcases in_cons hd with rfl | hd
    · exact okT_str t1.ok
    · rw [in_one hd]
      refine okT_tup (by rw [List.length_map]; show l.length ≤ _; omega) fun e he => ?_
      obtain ⟨i, _, rfl⟩ := List.mem_map.mp he
      exact okT_int _ _
  · cases e
theorem okT_dR {k n : Nat} {t : Str} (h : Tx k t) (hk : k ≤ 90000) {r : Rnd} (e : roundB t = some r) : okT (n + 4) (dR r) = true := by
  cases e1 : TL.par (sl ": ") [] (sl t) with
  | none =>
    rw [roundB_no e1] at e
    cases e
  | some pr =>
    obtain ⟨p, q⟩ := pr
    have c := cut_of sep_col h e1
    rw [roundB_eq e1] at e
    split at e
    · cases e
    · split at e
      · cases e
      · obtain ⟨l, h1, rfl⟩ := Option.map_eq_some_iff.mp e
        have hl := allO_len h1
        have ln := split_len sep_com c.two
        rw [List.length_map] at hl
        refine okT_tup (show 2 ≤ 100000 by decide) fun d hd => ?_
        rcases in_cons hd with rfl | hd
        · exact okT_int _ _
        · rw [in_one hd]
          refine okT_tup (by rw [List.length_map]; show l.length ≤ _; omega) fun e he => ?_
          obtain ⟨s, hs, rfl⟩ := List.mem_map.mp he
          obtain ⟨u, hu, eu⟩ := allO_from h1 s hs
          exact okT_dS (split_tx sep_com c.two hu) hk eu
theorem okT_dW {k n : Nat} {t : Str} (h : Tx k t) (hk : k ≤ 90000) : okT (n + 5) (dW (walkB t)) = true := by
  unfold walkB
  split
  · rfl
  · cases e : allO ((Txt.split t "; ").map roundB) with
    | none => rfl
    | some l =>
      have hl := allO_len e
      have ln := split_len sep_sem h
      rw [List.length_map] at hl
      refine okT_lst (by rw [List.length_map]; omega) fun d hd => ?_
      obtain ⟨r, hr, rfl⟩ := List.mem_map.mp hd
      obtain ⟨u, hu, eu⟩ := allO_from e r hr
      exact okT_dR (split_tx sep_sem h hu) hk eu
def szN : Nat → Nat
  | 0 => 1125
  | k + 1 => 2 * szN k + 40
theorem szN_2 {k : Nat} (h : k < 3) : szN k ≤ 4620 := by
  match k, h with
  | 0, _ => decide
  | 1, _ => decide
  | 2, _ => decide
theorem szN_3 {k : Nat} (h : k < 4) : szN k ≤ 9280 := by
  match k, h with
  | 0, _ => decide
  | 1, _ => decide
  | 2, _ => decide
  | 3, _ => decide
theorem law_ok {ns : List Int} {d : D} (hd : d = .scr (ns.map D.int) ∨ d = .lst false (ns.map D.int)) : Fw (f_law [.va d]) (fun r o => r = .va (.bl true)) NoX := by
  refine fw_run rfl ?_
  walk_at "own9"
  refine fw_mono (begin_ok hd) ?_
  rintro r o ⟨D0, rfl, rfl, h0⟩
  walk_at "own9"
  refine ⟨by decide, ?_⟩
  refine w_forL (I := fun i ρ => ∃ d' s2 s3 s4 s5 s6 s7 s8, ρ = [.va d, .ow d', s2, s3, s4, s5, s6, s7, s8] ∧ Drw (300 * i) d') ?_ ⟨D0, _, _, _, _, _, _, _, rfl, h0⟩ ?_
  · rintro i dd ρ hi ⟨d1, s2, s3, s4, s5, s6, s7, s8, rfl, k1⟩
    obtain ⟨hi5, rfl⟩ := rng_eq hi
    have hi5 : i < 5 := hi5
    refine ⟨_, rfl, ?_⟩
    walk_at "own9"
    refine fw_mono (drawn_ok k1 (by omega)) ?_
    rintro r o ⟨l, rfl, ⟨ll, lr⟩, d2, rfl, k2⟩
    walk_at "own9"
    refine fw_mono (words_ok ll lr) ?_
    rintro r o ⟨w0, rfl, hw0, rfl⟩
    walk_at "own9"
    refine fw_drw (pick_ok k2 (by decide) (szS (by decide)) (by omega)) fun bends d3 hb k3 => ?_
    walk_at "own9"
    refine ⟨by omega, ?_⟩
    refine w_forL (I := fun j ρ => ∃ w d' s4, ρ = [.va d, .ow d', .va (.int i), .va (.str w), s4, s5, s6, s7, s8] ∧ Tx (szN j) w ∧ Drw (300 * i + 201 + 5 * j) d') ?_ ⟨w0, d3, _, rfl, hw0, k3⟩ ?_
    · rintro j dd ρ hj ⟨w, d4, s4, rfl, hw, k4⟩
      obtain ⟨hj4, rfl⟩ := rng_eq hj
      refine ⟨_, rfl, ?_⟩
      walk_at "own9"
      refine fw_mono (spoilt_ok k4 (by omega) hw (Nat.le_trans (szN_2 (k := j) (by omega)) (by decide))) ?_
      rintro r o ⟨w2, rfl, hw2, d5, rfl, k5⟩
      walk_at "own9"
      exact ⟨w2, d5, _, rfl, hw2, k5⟩
    · rintro ρ ⟨w, d4, s4, rfl, hw, k4⟩
      rw [rngD_len] at hw k4
      have hw := hw.mono (szN_3 (k := bends.toNat) (by omega))
      have ok := okT_dW (n := 54) hw (by decide)
      have k5 : Drw (300 * (i + 1)) d4 := k4.mono (by omega)
      walk_at "own9"
      refine fw_mono (lwalk_ok hw (by decide)) ?_
      rintro r o ⟨hr, rfl⟩
      have wk := walk_ok hw (by decide)
      cases e : walkB w with
      | none =>
        rw [e] at hr
        have hr : r = .va .non := hr.elim (fun z => z) fun z => absurd rfl z.2
        subst hr
        walk_at "own9"
        refine fw_exc (wk.2 e) ?_
        rintro x o ⟨rfl, rfl⟩
        refine ⟨⟨rfl, Nat.lt_of_lt_of_le (show 8 < 9 by decide) (Nat.le_refl 9)⟩, _, rfl, ?_⟩
        walk_at "own9"
        refine fw_mono (same_ok 59 .non (by rfl)) ?_
        rintro r o ⟨rfl, rfl⟩
        walk_at "own9"
        refine fw_mono (same_ok 59 (.int 0) (by rfl)) ?_
        rintro r o ⟨rfl, rfl⟩
        walk_at "own9"
        exact ⟨d4, _, _, _, _, _, _, _, rfl, k5⟩
      | some l2 =>
        rw [e] at hr ok
        have hr : r = .va (.lst false (l2.map dR)) ∨ r = .ow (.lst false (l2.map dR)) := hr.imp (fun z => z) fun z => z.1
        have ok : okT 59 (.lst false (l2.map dR)) = true := ok
        rcases hr with rfl | rfl
        all_goals
          walk_at "own9"
          refine fw_mono (wk.1 l2 e) ?_
          rintro r o ⟨hr, rfl⟩
          rcases hr with rfl | rfl
          all_goals
            walk_at "own9"
            refine fw_mono (same_ok 59 _ ok) ?_
            rintro r o ⟨rfl, rfl⟩
            walk_at "own9"
            refine fw_mono (same_ok 59 .non (by rfl)) ?_
            rintro r o ⟨rfl, rfl⟩
            walk_at "own9"
            exact ⟨d4, _, _, _, _, _, _, _, rfl, k5⟩
  · rintro ρ' ⟨d', s2, s3, s4, s5, s6, s7, s8, rfl, k1⟩
    walk_at "own9"
    rfl
theorem truth : Truth f_law := fun ns _ _ d hd => by
  obtain ⟨r, o, e, h⟩ := (law_ok hd).ok
  rw [e, h]
  exact ⟨o, rfl⟩
end Lw
set_option maxHeartbeats 390000
namespace Lw
open L2 PySem PySem.Spec PyProof.Rows Fm
def dd_is_name : He.DefD := ⟨("is_name", none), "is_name", "is_name", defArgs t_is_name, defBody t_is_name, defScope t_is_name, [], []⟩
def dd_number_in : He.DefD := ⟨("number_in", none), "number_in", "number_in", defArgs t_number_in, defBody t_number_in, defScope t_number_in, [], [("figures", .int 7)]⟩
def dd_numbers_in : He.DefD := ⟨("numbers_in", none), "numbers_in", "numbers_in", defArgs t_numbers_in, defBody t_numbers_in, defScope t_numbers_in, [], []⟩
def dd_step_in : He.DefD := ⟨("step_in", none), "step_in", "step_in", defArgs t_step_in, defBody t_step_in, defScope t_step_in, [], []⟩
def dd_round_in : He.DefD := ⟨("round_in", none), "round_in", "round_in", defArgs t_round_in, defBody t_round_in, defScope t_round_in, [], []⟩
def dd_read_walk : He.DefD := ⟨("read_walk", none), "read_walk", "read_walk", defArgs t_read_walk, defBody t_read_walk, defScope t_read_walk, [], []⟩
def dd__law_pick : He.DefD := ⟨("_law_pick", none), "_law_pick", "_law_pick", defArgs t__law_pick, defBody t__law_pick, defScope t__law_pick, [], []⟩
def dd__law_one : He.DefD := ⟨("_law_one", none), "_law_one", "_law_one", defArgs t__law_one, defBody t__law_one, defScope t__law_one, [], []⟩
def dd__law_begin : He.DefD := ⟨("_law_begin", none), "_law_begin", "_law_begin", defArgs t__law_begin, defBody t__law_begin, defScope t__law_begin, [], []⟩
def dd__law_walk_words : He.DefD := ⟨("_law_walk_words", none), "_law_walk_words", "_law_walk_words", defArgs t__law_walk_words, defBody t__law_walk_words, defScope t__law_walk_words, [], []⟩
def dd__law_names : He.DefD := ⟨("_law_names", none), "_law_names", "_law_names", defArgs t__law_names, defBody t__law_names, defScope t__law_names, [], []⟩
def dd__law_numbers : He.DefD := ⟨("_law_numbers", none), "_law_numbers", "_law_numbers", defArgs t__law_numbers, defBody t__law_numbers, defScope t__law_numbers, [], []⟩
def dd__law_drawn_rounds : He.DefD := ⟨("_law_drawn_rounds", none), "_law_drawn_rounds", "_law_drawn_rounds", defArgs t__law_drawn_rounds, defBody t__law_drawn_rounds, defScope t__law_drawn_rounds, [], []⟩
def dd__law_number_in : He.DefD := ⟨("_law_number_in", none), "_law_number_in", "_law_number_in", defArgs t__law_number_in, defBody t__law_number_in, defScope t__law_number_in, [], []⟩
def dd__law_is_name : He.DefD := ⟨("_law_is_name", none), "_law_is_name", "_law_is_name", defArgs t__law_is_name, defBody t__law_is_name, defScope t__law_is_name, [], []⟩
def dd__law_step_in : He.DefD := ⟨("_law_step_in", none), "_law_step_in", "_law_step_in", defArgs t__law_step_in, defBody t__law_step_in, defScope t__law_step_in, [], []⟩
def dd__law_walk_in : He.DefD := ⟨("_law_walk_in", none), "_law_walk_in", "_law_walk_in", defArgs t__law_walk_in, defBody t__law_walk_in, defScope t__law_walk_in, [], []⟩
def dd__law_same : He.DefD := ⟨("_law_same", none), "_law_same", "_law_same", defArgs t__law_same, defBody t__law_same, defScope t__law_same, [], []⟩
def dd__law_spoilt : He.DefD := ⟨("_law_spoilt", none), "_law_spoilt", "_law_spoilt", defArgs t__law_spoilt, defBody t__law_spoilt, defScope t__law_spoilt, [], []⟩
def dd_law : He.DefD := ⟨("law", none), "law", "law", defArgs t_law, defBody t_law, defScope t_law, [], []⟩
def dd_BadText_i : He.DefD := ⟨("BadText", some "__init__"), "__init__", "BadText.__init__", defArgs t_BadText_i, defBody t_BadText_i, defScope t_BadText_i, [], []⟩
def fn : List He.DefD := [dd_is_name, dd_number_in, dd_numbers_in, dd_step_in, dd_round_in, dd_read_walk, dd__law_pick, dd__law_one, dd__law_begin, dd__law_walk_words, dd__law_names, dd__law_numbers, dd__law_drawn_rounds, dd__law_number_in, dd__law_is_name, dd__law_step_in, dd__law_walk_in, dd__law_same, dd__law_spoilt, dd_law, dd_BadText_i]
def clx (K : PySem.W.Frag) : String → Addr := fun c => He.ga K (Str.ofString c)
def tabx (K : PySem.W.Frag) : List (Addr × Str) := []
abbrev tf : List He.Defn := []
def fa : List He.Fa := [.glo "is_name", .glo "number_in", .glo "numbers_in", .glo "step_in", .glo "round_in", .glo "read_walk", .glo "_law_pick", .glo "_law_one", .glo "_law_begin", .glo "_law_walk_words", .glo "_law_names", .glo "_law_numbers", .glo "_law_drawn_rounds", .glo "_law_number_in", .glo "_law_is_name", .glo "_law_step_in", .glo "_law_walk_in", .glo "_law_same", .glo "_law_spoilt", .glo "law", .free "all", .free "any", .free "bool", .free "dict", .free "int", .free "isinstance", .free "len", .free "list", .free "range", .free "str", .free "tuple", .glo "BadText", .str "FIGURES" "0123456789", .str "LETTERS" "abcdefghijklmnopqrstuvwxyz", .int "LONGEST" 8, .int "MOST_COUNT" 30]
def ex (K : PySem.W.Frag) : Bool := excB K (He.ga K "BadText") (He.fAd K ("BadText", some "__init__")) "called" && decide (PySem.W.findIn K (.ref (He.ga K "BadText")) "row" = some none) && cat1B K (He.ga K "BadText") (He.ga K "BadText") "row"
def loose : List Str := ["MeshError", "BadText", "LONGEST", "LETTERS", "is_name", "MOST_FIGURES", "MOST_COUNT", "FIGURES", "number_in", "numbers_in", "step_in", "round_in", "read_walk", "_law_pick", "_law_one", "_law_begin", "_law_walk_words", "_law_names", "_law_numbers", "_law_drawn_rounds", "_law_number_in", "_law_is_name", "_law_step_in", "_law_walk_in", "_law_same", "_law_spoilt"]
abbrev R : PySem.W.OpenRow := PySem.W.OpenLaw.row PySem.Challenge.rw_farmesh_k56_walk_texts_read_or_refused
abbrev hk : PySem.W.Hook := He.hookX 4 fa fn [] tf ex
def ob (s : PySem.W.SharedT) : He.AlX := He.obsX 4 fa fn [] tf ex (HandSHeadRun.getT s)
theorem ob_eq (s : PySem.W.SharedT) : ob s = hk.obs s.abs := He.obsX_eq (HandSHeadRun.getT_eq s)
theorem run (w : World) : HandSHeadRun.RunEq R (PySem.W.view R.prog [30]) hk ob 4000 loose w := by
  intro os
  kernel_rfl
theorem facts {w : World} {K : PySem.W.Frag} {h : Heap} {mg : Str → Option Value} {a : Addr} (X : K.In h) (G : h.Ns mainGlobals mg) (hfa : mg ("law" : Str) = some (.ref a)) (c : He.SaysX fa fn [] tf ex w h K) : LamX.LawAtS PySem.Challenge.rw_farmesh_k56_walk_texts_read_or_refused w K (L2.CX PySem.Challenge.rw_farmesh_k56_walk_texts_read_or_refused.prog w) 66 63 "_law_script" mg a h := by
  obtain ⟨fd_is_name, F_is_name⟩ := c.t.d.def_ 0 (d := dd_is_name) rfl
  have g_is_name := He.glo_ok X G (c.t.d.fact 0 (f := .glo "is_name") rfl)
  obtain ⟨fd_number_in, F_number_in⟩ := c.t.d.def_ 1 (d := dd_number_in) rfl
  have g_number_in := He.glo_ok X G (c.t.d.fact 1 (f := .glo "number_in") rfl)
  obtain ⟨fd_numbers_in, F_numbers_in⟩ := c.t.d.def_ 2 (d := dd_numbers_in) rfl
  have g_numbers_in := He.glo_ok X G (c.t.d.fact 2 (f := .glo "numbers_in") rfl)
  obtain ⟨fd_step_in, F_step_in⟩ := c.t.d.def_ 3 (d := dd_step_in) rfl
  have g_step_in := He.glo_ok X G (c.t.d.fact 3 (f := .glo "step_in") rfl)
  obtain ⟨fd_round_in, F_round_in⟩ := c.t.d.def_ 4 (d := dd_round_in) rfl
  have g_round_in := He.glo_ok X G (c.t.d.fact 4 (f := .glo "round_in") rfl)
  obtain ⟨fd_read_walk, F_read_walk⟩ := c.t.d.def_ 5 (d := dd_read_walk) rfl
  have g_read_walk := He.glo_ok X G (c.t.d.fact 5 (f := .glo "read_walk") rfl)
  obtain ⟨fd__law_pick, F__law_pick⟩ := c.t.d.def_ 6 (d := dd__law_pick) rfl
  have g__law_pick := He.glo_ok X G (c.t.d.fact 6 (f := .glo "_law_pick") rfl)
  obtain ⟨fd__law_one, F__law_one⟩ := c.t.d.def_ 7 (d := dd__law_one) rfl
  have g__law_one := He.glo_ok X G (c.t.d.fact 7 (f := .glo "_law_one") rfl)
  obtain ⟨fd__law_begin, F__law_begin⟩ := c.t.d.def_ 8 (d := dd__law_begin) rfl
  have g__law_begin := He.glo_ok X G (c.t.d.fact 8 (f := .glo "_law_begin") rfl)
  obtain ⟨fd__law_walk_words, F__law_walk_words⟩ := c.t.d.def_ 9 (d := dd__law_walk_words) rfl
  have g__law_walk_words := He.glo_ok X G (c.t.d.fact 9 (f := .glo "_law_walk_words") rfl)
  obtain ⟨fd__law_names, F__law_names⟩ := c.t.d.def_ 10 (d := dd__law_names) rfl
  have g__law_names := He.glo_ok X G (c.t.d.fact 10 (f := .glo "_law_names") rfl)
  obtain ⟨fd__law_numbers, F__law_numbers⟩ := c.t.d.def_ 11 (d := dd__law_numbers) rfl
  have g__law_numbers := He.glo_ok X G (c.t.d.fact 11 (f := .glo "_law_numbers") rfl)
  obtain ⟨fd__law_drawn_rounds, F__law_drawn_rounds⟩ := c.t.d.def_ 12 (d := dd__law_drawn_rounds) rfl
  have g__law_drawn_rounds := He.glo_ok X G (c.t.d.fact 12 (f := .glo "_law_drawn_rounds") rfl)
  obtain ⟨fd__law_number_in, F__law_number_in⟩ := c.t.d.def_ 13 (d := dd__law_number_in) rfl
  have g__law_number_in := He.glo_ok X G (c.t.d.fact 13 (f := .glo "_law_number_in") rfl)
  obtain ⟨fd__law_is_name, F__law_is_name⟩ := c.t.d.def_ 14 (d := dd__law_is_name) rfl
  have g__law_is_name := He.glo_ok X G (c.t.d.fact 14 (f := .glo "_law_is_name") rfl)
  obtain ⟨fd__law_step_in, F__law_step_in⟩ := c.t.d.def_ 15 (d := dd__law_step_in) rfl
  have g__law_step_in := He.glo_ok X G (c.t.d.fact 15 (f := .glo "_law_step_in") rfl)
  obtain ⟨fd__law_walk_in, F__law_walk_in⟩ := c.t.d.def_ 16 (d := dd__law_walk_in) rfl
  have g__law_walk_in := He.glo_ok X G (c.t.d.fact 16 (f := .glo "_law_walk_in") rfl)
  obtain ⟨fd__law_same, F__law_same⟩ := c.t.d.def_ 17 (d := dd__law_same) rfl
  have g__law_same := He.glo_ok X G (c.t.d.fact 17 (f := .glo "_law_same") rfl)
  obtain ⟨fd__law_spoilt, F__law_spoilt⟩ := c.t.d.def_ 18 (d := dd__law_spoilt) rfl
  have g__law_spoilt := He.glo_ok X G (c.t.d.fact 18 (f := .glo "_law_spoilt") rfl)
  obtain ⟨fd_law, F_law⟩ := c.t.d.def_ 19 (d := dd_law) rfl
  have g_law := He.glo_ok X G (c.t.d.fact 19 (f := .glo "law") rfl)
  have m_all := He.free_ok X G (c.t.d.fact 20 (f := .free "all") rfl)
  have m_any := He.free_ok X G (c.t.d.fact 21 (f := .free "any") rfl)
  have m_bool := He.free_ok X G (c.t.d.fact 22 (f := .free "bool") rfl)
  have m_dict := He.free_ok X G (c.t.d.fact 23 (f := .free "dict") rfl)
  have m_int := He.free_ok X G (c.t.d.fact 24 (f := .free "int") rfl)
  have m_isinstance := He.free_ok X G (c.t.d.fact 25 (f := .free "isinstance") rfl)
  have m_len := He.free_ok X G (c.t.d.fact 26 (f := .free "len") rfl)
  have m_list := He.free_ok X G (c.t.d.fact 27 (f := .free "list") rfl)
  have m_range := He.free_ok X G (c.t.d.fact 28 (f := .free "range") rfl)
  have m_str := He.free_ok X G (c.t.d.fact 29 (f := .free "str") rfl)
  have m_tuple := He.free_ok X G (c.t.d.fact 30 (f := .free "tuple") rfl)
  have g_BadText := He.glo_ok X G (c.t.d.fact 31 (f := .glo "BadText") rfl)
  obtain ⟨fd_BadText_i, F_BadText_i⟩ := c.t.d.def_ 20 (d := dd_BadText_i) rfl
  obtain ⟨z_FIGURES, g_FIGURES⟩ := He.str_ok X G (c.t.d.fact 32 (f := .str "FIGURES" "0123456789") rfl)
  obtain ⟨z_LETTERS, g_LETTERS⟩ := He.str_ok X G (c.t.d.fact 33 (f := .str "LETTERS" "abcdefghijklmnopqrstuvwxyz") rfl)
  obtain ⟨z_LONGEST, g_LONGEST⟩ := He.int_ok X G (c.t.d.fact 34 (f := .int "LONGEST" 8) rfl)
  obtain ⟨z_MOST_COUNT, g_MOST_COUNT⟩ := He.int_ok X G (c.t.d.fact 35 (f := .int "MOST_COUNT" 30) rfl)
  have cx := c.more
  unfold ex at cx
  simp only [Bool.and_eq_true] at cx
  have T_BadText : Try1K K (kx K (clx K) (tabx K)) (.ref (He.ga K "BadText")) "row" hits_BadText := cat1B_ok (κ := kx K (clx K) (tabx K)) (cs := ["BadText"]) (by
    simp only [List.forall_mem_cons]
    exact ⟨cx.2, fun _ z => nomatch z⟩)
  have B_is_name : Binds K fd_is_name ["text"] [] := L2.FunD.bindsN F_is_name fun _ _ _ _ _ _ us hl => match us, hl with | [_], _ => rfl
  have B_number_in_1 : BindsV K fd_number_in ["word", "figures"] [V.int 7] := L2.FunD.binds0 F_number_in 1 (by simp [He.DefD.kws, dd_number_in]) rfl fun _ _ _ _ _ _ us ks h1 h2 => match us, ks, h1, h2 with | [_], [_], _, _ => ⟨_, _, _, _, _, _, rfl, rfl, rfl⟩
  have BP_number_in_1 : BindsPK K fd_number_in ["word", "figures"] 1 ["figures"] := Fm.FunD.bindsPK F_number_in fun _ _ _ _ _ _ us ws h1 h2 => match us, ws, h1, h2 with | [_], [_], _, _ => rfl
  have B_numbers_in : Binds K fd_numbers_in ["words"] [] := L2.FunD.bindsN F_numbers_in fun _ _ _ _ _ _ us hl => match us, hl with | [_], _ => rfl
  have B_step_in : Binds K fd_step_in ["text"] [] := L2.FunD.bindsN F_step_in fun _ _ _ _ _ _ us hl => match us, hl with | [_], _ => rfl
  have B_round_in : Binds K fd_round_in ["text"] [] := L2.FunD.bindsN F_round_in fun _ _ _ _ _ _ us hl => match us, hl with | [_], _ => rfl
  have B_read_walk : Binds K fd_read_walk ["text"] [] := L2.FunD.bindsN F_read_walk fun _ _ _ _ _ _ us hl => match us, hl with | [_], _ => rfl
  have B__law_pick : Binds K fd__law_pick ["_law_draw", "_law_many"] [] := L2.FunD.bindsN F__law_pick fun _ _ _ _ _ _ us hl => match us, hl with | [_, _], _ => rfl
  have B__law_one : Binds K fd__law_one ["_law_draw", "_law_some"] [] := L2.FunD.bindsN F__law_one fun _ _ _ _ _ _ us hl => match us, hl with | [_, _], _ => rfl
  have B__law_begin : Binds K fd__law_begin ["_law_script"] [] := L2.FunD.bindsN F__law_begin fun _ _ _ _ _ _ us hl => match us, hl with | [_], _ => rfl
  have B__law_walk_words : Binds K fd__law_walk_words ["_law_rounds"] [] := L2.FunD.bindsN F__law_walk_words fun _ _ _ _ _ _ us hl => match us, hl with | [_], _ => rfl
  have B__law_names : Binds K fd__law_names ["_law_draw", "_law_many"] [] := L2.FunD.bindsN F__law_names fun _ _ _ _ _ _ us hl => match us, hl with | [_, _], _ => rfl
  have B__law_numbers : Binds K fd__law_numbers ["_law_draw", "_law_ways", "_law_limit"] [] := L2.FunD.bindsN F__law_numbers fun _ _ _ _ _ _ us hl => match us, hl with | [_, _, _], _ => rfl
  have B__law_drawn_rounds : Binds K fd__law_drawn_rounds ["_law_draw"] [] := L2.FunD.bindsN F__law_drawn_rounds fun _ _ _ _ _ _ us hl => match us, hl with | [_], _ => rfl
  have B__law_number_in : Binds K fd__law_number_in ["_law_word", "_law_figures"] [] := L2.FunD.bindsN F__law_number_in fun _ _ _ _ _ _ us hl => match us, hl with | [_, _], _ => rfl
  have B__law_is_name : Binds K fd__law_is_name ["_law_word"] [] := L2.FunD.bindsN F__law_is_name fun _ _ _ _ _ _ us hl => match us, hl with | [_], _ => rfl
  have B__law_step_in : Binds K fd__law_step_in ["_law_words"] [] := L2.FunD.bindsN F__law_step_in fun _ _ _ _ _ _ us hl => match us, hl with | [_], _ => rfl
  have B__law_walk_in : Binds K fd__law_walk_in ["_law_words"] [] := L2.FunD.bindsN F__law_walk_in fun _ _ _ _ _ _ us hl => match us, hl with | [_], _ => rfl
  have B__law_same : Binds K fd__law_same ["_law_found", "_law_due"] [] := L2.FunD.bindsN F__law_same fun _ _ _ _ _ _ us hl => match us, hl with | [_, _], _ => rfl
  have B__law_spoilt : Binds K fd__law_spoilt ["_law_draw", "_law_words"] [] := L2.FunD.bindsN F__law_spoilt fun _ _ _ _ _ _ us hl => match us, hl with | [_, _], _ => rfl
  have B_law : Binds K fd_law ["_law_script"] [] := L2.FunD.bindsN F_law fun _ _ _ _ _ _ us hl => match us, hl with | [_], _ => rfl
  cases hfa.symm.trans g_law
  refine law_at (cl := clx K) (tabs := tabx K) (cs := []) (fun p h => by cases h) (fun p h => by cases h) (fun p h => by cases h) (fun p h => by cases h) (fun s u => L2.FunD.bindsA (ps := ["_law_script"]) F_law (fun _ _ _ _ _ _ us hl => match us, hl with | [_], _ => rfl) s [u] rfl) truth fun base kb gb _ => ?_
  have X_BadText : ExC2 PySem.Challenge.rw_farmesh_k56_walk_texts_read_or_refused.prog w K mg base (kx K (clx K) (tabx K)) "BadText" "BadText" "called" "badtext" "row" "row" _ fd_BadText_i := excB_ok2 (κ := kx K (clx K) (tabx K)) (c := "BadText") cx.1.1 (of_decide_eq_true cx.1.2) g_BadText (init2_ok F_BadText_i sc_BadText_i) (L2.FunD.bindsN F_BadText_i fun _ _ _ _ _ _ us hl => match us, hl with | [_, _], _ => rfl)
  have C_is_name : Callee PySem.Challenge.rw_farmesh_k56_walk_texts_read_or_refused.prog w K mg base (kx K (clx K) (tabx K)) "is_name" 1 ["text"] f_is_name _ fd_is_name := ⟨ok_is_name F_is_name m_all g_LETTERS g_LONGEST m_len, g_is_name, F_is_name.kp⟩
  have C_number_in : Callee PySem.Challenge.rw_farmesh_k56_walk_texts_read_or_refused.prog w K mg base (kx K (clx K) (tabx K)) "number_in" 1 ["word", "figures"] f_number_in _ fd_number_in := ⟨ok_number_in F_number_in m_any g_FIGURES m_int m_len, g_number_in, F_number_in.kp⟩
  have C_numbers_in : Callee PySem.Challenge.rw_farmesh_k56_walk_texts_read_or_refused.prog w K mg base (kx K (clx K) (tabx K)) "numbers_in" 2 ["words"] f_numbers_in _ fd_numbers_in := ⟨ok_numbers_in F_numbers_in m_tuple C_number_in B_number_in_1, g_numbers_in, F_numbers_in.kp⟩
  have C_step_in : Callee PySem.Challenge.rw_farmesh_k56_walk_texts_read_or_refused.prog w K mg base (kx K (clx K) (tabx K)) "step_in" 3 ["text"] f_step_in _ fd_step_in := ⟨ok_step_in F_step_in C_is_name B_is_name C_numbers_in B_numbers_in, g_step_in, F_step_in.kp⟩
  have C_round_in : Callee PySem.Challenge.rw_farmesh_k56_walk_texts_read_or_refused.prog w K mg base (kx K (clx K) (tabx K)) "round_in" 4 ["text"] f_round_in _ fd_round_in := ⟨ok_round_in F_round_in m_any g_MOST_COUNT m_tuple C_number_in BP_number_in_1 C_step_in B_step_in, g_round_in, F_round_in.kp⟩
  have C_read_walk : Callee PySem.Challenge.rw_farmesh_k56_walk_texts_read_or_refused.prog w K mg base (kx K (clx K) (tabx K)) "read_walk" 5 ["text"] f_read_walk _ fd_read_walk := ⟨ok_read_walk F_read_walk m_any C_round_in B_round_in X_BadText, g_read_walk, F_read_walk.kp⟩
  have C__law_pick : Callee PySem.Challenge.rw_farmesh_k56_walk_texts_read_or_refused.prog w K mg base (kx K (clx K) (tabx K)) "_law_pick" 1 ["_law_draw", "_law_many"] f__law_pick _ fd__law_pick := ⟨ok__law_pick F__law_pick m_len, g__law_pick, F__law_pick.kp⟩
  have C__law_one : Callee PySem.Challenge.rw_farmesh_k56_walk_texts_read_or_refused.prog w K mg base (kx K (clx K) (tabx K)) "_law_one" 2 ["_law_draw", "_law_some"] f__law_one _ fd__law_one := ⟨ok__law_one F__law_one m_len C__law_pick B__law_pick, g__law_one, F__law_one.kp⟩
  have C__law_begin : Callee PySem.Challenge.rw_farmesh_k56_walk_texts_read_or_refused.prog w K mg base (kx K (clx K) (tabx K)) "_law_begin" 1 ["_law_script"] f__law_begin _ fd__law_begin := ⟨ok__law_begin F__law_begin m_list, g__law_begin, F__law_begin.kp⟩
  have C__law_walk_words : Callee PySem.Challenge.rw_farmesh_k56_walk_texts_read_or_refused.prog w K mg base (kx K (clx K) (tabx K)) "_law_walk_words" 1 ["_law_rounds"] f__law_walk_words _ fd__law_walk_words := ⟨ok__law_walk_words F__law_walk_words m_str, g__law_walk_words, F__law_walk_words.kp⟩
  have C__law_names : Callee PySem.Challenge.rw_farmesh_k56_walk_texts_read_or_refused.prog w K mg base (kx K (clx K) (tabx K)) "_law_names" 3 ["_law_draw", "_law_many"] f__law_names _ fd__law_names := ⟨ok__law_names F__law_names m_len m_range C__law_pick B__law_pick C__law_one B__law_one, g__law_names, F__law_names.kp⟩
  have C__law_numbers : Callee PySem.Challenge.rw_farmesh_k56_walk_texts_read_or_refused.prog w K mg base (kx K (clx K) (tabx K)) "_law_numbers" 2 ["_law_draw", "_law_ways", "_law_limit"] f__law_numbers _ fd__law_numbers := ⟨ok__law_numbers F__law_numbers m_range m_tuple C__law_pick B__law_pick, g__law_numbers, F__law_numbers.kp⟩
  have C__law_drawn_rounds : Callee PySem.Challenge.rw_farmesh_k56_walk_texts_read_or_refused.prog w K mg base (kx K (clx K) (tabx K)) "_law_drawn_rounds" 4 ["_law_draw"] f__law_drawn_rounds _ fd__law_drawn_rounds := ⟨ok__law_drawn_rounds F__law_drawn_rounds m_range m_tuple C__law_pick B__law_pick C__law_one B__law_one C__law_names B__law_names C__law_numbers B__law_numbers, g__law_drawn_rounds, F__law_drawn_rounds.kp⟩
  have C__law_number_in : Callee PySem.Challenge.rw_farmesh_k56_walk_texts_read_or_refused.prog w K mg base (kx K (clx K) (tabx K)) "_law_number_in" 1 ["_law_word", "_law_figures"] f__law_number_in _ fd__law_number_in := ⟨ok__law_number_in F__law_number_in m_all m_int m_len, g__law_number_in, F__law_number_in.kp⟩
  have C__law_is_name : Callee PySem.Challenge.rw_farmesh_k56_walk_texts_read_or_refused.prog w K mg base (kx K (clx K) (tabx K)) "_law_is_name" 1 ["_law_word"] f__law_is_name _ fd__law_is_name := ⟨ok__law_is_name F__law_is_name m_all m_len, g__law_is_name, F__law_is_name.kp⟩
  have C__law_step_in : Callee PySem.Challenge.rw_farmesh_k56_walk_texts_read_or_refused.prog w K mg base (kx K (clx K) (tabx K)) "_law_step_in" 2 ["_law_words"] f__law_step_in _ fd__law_step_in := ⟨ok__law_step_in F__law_step_in m_tuple C__law_number_in B__law_number_in C__law_is_name B__law_is_name, g__law_step_in, F__law_step_in.kp⟩
  have C__law_walk_in : Callee PySem.Challenge.rw_farmesh_k56_walk_texts_read_or_refused.prog w K mg base (kx K (clx K) (tabx K)) "_law_walk_in" 3 ["_law_words"] f__law_walk_in _ fd__law_walk_in := ⟨ok__law_walk_in F__law_walk_in m_len m_tuple C__law_number_in B__law_number_in C__law_step_in B__law_step_in, g__law_walk_in, F__law_walk_in.kp⟩
  have C__law_same : Callee PySem.Challenge.rw_farmesh_k56_walk_texts_read_or_refused.prog w K mg base (kx K (clx K) (tabx K)) "_law_same" 65 ["_law_found", "_law_due"] (f__law_same 60) _ fd__law_same := ⟨(ok__law_same F__law_same g__law_same F__law_same.kp B__law_same m_all m_bool m_dict m_int m_isinstance m_len m_list m_range m_str m_tuple 60).mono (show 60 + 1 ≤ 65 from by decide), g__law_same, F__law_same.kp⟩
  have C__law_spoilt : Callee PySem.Challenge.rw_farmesh_k56_walk_texts_read_or_refused.prog w K mg base (kx K (clx K) (tabx K)) "_law_spoilt" 3 ["_law_draw", "_law_words"] f__law_spoilt _ fd__law_spoilt := ⟨ok__law_spoilt F__law_spoilt m_len C__law_pick B__law_pick C__law_one B__law_one, g__law_spoilt, F__law_spoilt.kp⟩
  exact ok_law F_law m_range C_read_walk B_read_walk C__law_pick B__law_pick C__law_begin B__law_begin C__law_walk_words B__law_walk_words C__law_drawn_rounds B__law_drawn_rounds C__law_walk_in B__law_walk_in C__law_same B__law_same C__law_spoilt B__law_spoilt g_BadText T_BadText
end Lw
open PyProof.Rows PySem PySem.W PySem.Calls
theorem PySem.Challenge.cw_farmesh_k56_walk_texts_read_or_refused_holds : PySem.Challenge.rw_farmesh_k56_walk_texts_read_or_refused.Holds := by
  w_on; o_law
  refine HandSHeadRun.head_any (r := OpenLaw.row PySem.Challenge.rw_farmesh_k56_walk_texts_read_or_refused) (q := view (OpenLaw.row PySem.Challenge.rw_farmesh_k56_walk_texts_read_or_refused).prog [30]) (H := Lw.hk) (ob := Lw.ob) (M := 4000) (loose := Lw.loose) (d := HandSHeadRun.topDef (OpenLaw.row PySem.Challenge.rw_farmesh_k56_walk_texts_read_or_refused).prog 30) (kwd := []) Lw.ob_eq
    (by kernel_rfl) (fun s => by kernel_rfl) Lw.run (by kernel_rfl) (by kernel_rfl) (by kernel_rfl) (by rfl) (by first | assumption | decide +kernel) (by decide +kernel) ⟨rfl, rfl, rfl, rfl, rfl, by decide +kernel⟩ ?hw ?hc
  case hw => w_witness2
  case hc =>
    refine LamX.walk_ofTsE (l := PySem.Challenge.rw_farmesh_k56_walk_texts_read_or_refused) (n := 63) (k := 66) (x := "_law_script") (CX := fun w => L2.CX PySem.Challenge.rw_farmesh_k56_walk_texts_read_or_refused.prog w) rfl (by decide) (by kernel_rfl) ⟨rfl, by decide, by decide⟩ ?F (fun w H s e s' z => Fm.cx_no z)
    intro w mg fa h Y G hmg0
    obtain ⟨K, KX, c⟩ := Y
    have hmg : mg ("law" : PySem.Str) = some (PySem.Value.ref fa) := by
      have e : (HandSHeadRun.topDef (OpenLaw.row PySem.Challenge.rw_farmesh_k56_walk_texts_read_or_refused).prog 30).name = ("law" : PySem.Str) := by kernel_rfl
      rw [← e]
      exact hmg0
    exact ⟨K, KX, Lw.facts KX G hmg c⟩

