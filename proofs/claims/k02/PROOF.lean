import PyProof.Rows.All
import Wide.All
import OpenK.AllK
import Wide.FinOn
import HandS.ForMost
import HandS.ForExc
import HandS.IsInst
import HandS.Conv
import HandS.Deep
import HandS.SortInts
import HandS.Style
import HandS.TupAny
import KE.KSortedM
import HandS.TryOnly
import KE.GoesEnum
import KE.GoesMore
import HandS.Ends
import HandS.More
import HandS.Rev
import HandS.ExcSuper
import HandS.ExcInit
import HandS.TryMany
import HandS.ExcIs
import HandS.ExcField
import KE.KExcIs
import KE.KSuper
import HandS.Words
import HandS.HotCalls
import PyProof.ReprRoads
import PyProof.CallFns
import PyProof.ReprLen
import KE.RegKSuper
import KE.RegKIsAll
import KE.RegKTryMore
import PySem.Challenge.RW_reelvault_k02_parts_of_a_house
set_option Elab.async false
set_option linter.all false
set_option maxRecDepth 100000
set_option maxHeartbeats 2000000
/-! VL1: a layer of plain values over the hand layer. Data are trees (PyData); a slot holds a tree, part of which may be owned (lists that nobody else holds). -/
namespace VL
open PySem PySem.Spec PyProof.Rows L2

abbrev D := PySem.PyData
abbrev Frag := PySem.W.Frag
abbrev S := L2.St

/-- an owned value: frozen data, or a list (a tuple) that nobody else holds, of owned values -/
inductive Ow where
  | fz (d : D)
  | ls (xs : List Ow)
  | tp (xs : List Ow)
mutual
def Ow.toD : Ow → D
  | .fz d => d
  | .ls xs => .list (toDs xs)
  | .tp xs => .tuple (toDs xs)
def toDs : List Ow → List D
  | [] => []
  | x :: xs => x.toD :: toDs xs
end
theorem toDs_map : ∀ xs : List Ow, toDs xs = xs.map Ow.toD
  | [] => rfl
  | x :: xs => by rw [toDs, toDs_map xs]; rfl
theorem toDs_fz : ∀ ds : List D, toDs (ds.map Ow.fz) = ds
  | [] => rfl
  | d :: ds => by
    show Ow.toD (.fz d) :: toDs (ds.map Ow.fz) = d :: ds
    rw [toDs_fz ds]; rfl

/-- a slot: its own value, or a thing of the caller's that is read alone -/
inductive Sl where
  | own (ow : Ow)
  | bor (d : D)
def Sl.d : Sl → D
  | .own ow => ow.toD
  | .bor d => d
abbrev Rho := List (Option Sl)
/-- an expression's value: a value of its own; the thing at a path of an owned slot; a thing of the caller's -/
inductive RV where
  | val (ow : Ow)
  | ref (i : Nat) (p : List Nat) (ow : Ow)
  | bor (d : D)
def RV.d : RV → D
  | .val ow => ow.toD
  | .ref _ _ ow => ow.toD
  | .bor d => d
/-- an exception: its class, its fields -/
structure Exn where
  cls : Str
  fs : List (Str × D)
inductive Res (α : Type) where
  | ok (a : α)
  | err (x : Exn)
  | stuck
def Res.bind {α β : Type} : Res α → (α → Res β) → Res β
  | .ok a, f => f a
  | .err x, _ => .err x
  | .stuck, _ => .stuck
abbrev EC := Rho → Res RV
abbrev TC := Rho → Res Bool
inductive SRes where
  | next (ρ : Rho)
  | ret (ow : Ow)
  | brk (ρ : Rho)
  | cont (ρ : Rho)
  | err (x : Exn) (ρ : Rho)
  | stuck
abbrev SC := Rho → SRes

/-! ### heaps -/
def Sub (F F' : Hp) : Prop := ∀ a o, F a = some o → F' a = some o
theorem Sub.refl (F : Hp) : Sub F F := fun _ _ h => h
theorem Sub.trans {A B C : Hp} (h : Sub A B) (h' : Sub B C) : Sub A C := fun a o e => h' a o (h a o e)
theorem Sub.rd {F F' : Hp} (h : Sub F F') {a : Addr} {u : HO} (r : Rd F a u) : Rd F' a u := by
  rcases r with r | ⟨o, r⟩
  · exact .inl (h a _ r)
  · exact .inr ⟨o, h a _ r⟩
theorem Sub.sqL {K : Frag} {F F' : Hp} (h : Sub F F') {a : Addr} {xs : List V} (r : SqL K F a xs) : SqL K F' a xs := by
  rcases r with r | r
  · exact .inl (h.rd r)
  · exact .inr r
theorem Sub.sqT {K : Frag} {F F' : Hp} (h : Sub F F') {a : Addr} {xs : List V} (r : SqT K F a xs) : SqT K F' a xs := by
  rcases r with r | r
  · exact .inl (h.rd r)
  · exact .inr r
/-- a list: tracked, or of the written part -/
def LK (K : Frag) (H : Hp) (a : Addr) (xs : List V) : Prop := Rd H a (.lst xs) ∨ ∃ (its : Array Value) (n : Nat), K.lookup a = some { cls := .type "list", data := .seq its n } ∧ its.size ≤ sizeLine ∧ Vals xs its.toList
theorem LK.sqL {K : Frag} {H : Hp} {a : Addr} {xs : List V} (h : LK K H a xs) : SqL K H a xs := by
  rcases h with h | ⟨its, n, h1, h2, h3⟩
  · exact .inl h
  · exact .inr ⟨_, its, n, h1, rfl, rfl, rfl, h2, h3⟩
theorem LK.of {K : Frag} {H : Hp} {a : Addr} {xs : List V} (h : H a = some (.lst xs)) : LK K H a xs := .inl (.inl h)
theorem Sub.lk {K : Frag} {F F' : Hp} (h : Sub F F') {a : Addr} {xs : List V} (r : LK K F a xs) : LK K F' a xs := by
  rcases r with r | r
  · exact .inl (h.rd r)
  · exact .inr r
/-! what a value stands for: a tree -/
mutual
inductive Rp (K : Frag) (H : Hp) : V → D → Prop
  | non : Rp K H .non .none
  | bl (b : Bool) : Rp K H (.bl b) (.bool b)
  | int (i : Int) : Rp K H (.int i) (.int i)
  | str (x : Str) : Rp K H (.str x) (.str x)
  | lst {a : Addr} {xs : List V} {ds : List D} : LK K H a xs → RpAll K H xs ds → Rp K H (.ref a) (.list ds)
  | tup {a : Addr} {xs : List V} {ds : List D} : SqT K H a xs → RpAll K H xs ds → Rp K H (.ref a) (.tuple ds)
inductive RpAll (K : Frag) (H : Hp) : List V → List D → Prop
  | nil : RpAll K H [] []
  | cons {v : V} {vs : List V} {d : D} {ds : List D} : Rp K H v d → RpAll K H vs ds → RpAll K H (v :: vs) (d :: ds)
end
mutual
theorem Rp.dp {K : Frag} {H : Hp} : ∀ {d : D} {v : V}, Rp K H v d → Dp K H v d
  | .none, _, .non => .non
  | .bool _, _, .bl b => .bl b
  | .int _, _, .int i => .int i
  | .str _, _, .str x => .str x
  | .list _, _, .lst s a => .lst s.sqL (RpAll.dp a)
  | .tuple _, _, .tup s a => .tup s (RpAll.dp a)
theorem RpAll.dp {K : Frag} {H : Hp} : ∀ {ds : List D} {vs : List V}, RpAll K H vs ds → DpAll K H vs ds
  | [], _, .nil => .nil
  | _ :: _, _, .cons a r => .cons (Rp.dp a) (RpAll.dp r)
end
mutual
theorem Rp.mono {K : Frag} {F F' : Hp} (h : Sub F F') : ∀ {d : D} {v : V}, Rp K F v d → Rp K F' v d
  | .none, _, .non => .non
  | .bool _, _, .bl b => .bl b
  | .int _, _, .int i => .int i
  | .str _, _, .str x => .str x
  | .list _, _, .lst s a => .lst (h.lk s) (RpAll.mono h a)
  | .tuple _, _, .tup s a => .tup (h.sqT s) (RpAll.mono h a)
theorem RpAll.mono {K : Frag} {F F' : Hp} (h : Sub F F') : ∀ {ds : List D} {vs : List V}, RpAll K F vs ds → RpAll K F' vs ds
  | [], _, .nil => .nil
  | _ :: _, _, .cons a r => .cons (Rp.mono h a) (RpAll.mono h r)
end
theorem RpAll.length {K : PySem.W.Frag} {F : Hp} : ∀ {ds : List PyData} {vs : List V}, RpAll K F vs ds → vs.length = ds.length
  | [], _, .nil => rfl
  | _ :: _, _, .cons _ r => by simp [RpAll.length r]
theorem RpAll.get {K : PySem.W.Frag} {F : Hp} : ∀ {ds : List PyData} {vs : List V} {i : Nat} {v : V}, RpAll K F vs ds → vs[i]? = some v → ∃ d, ds[i]? = some d ∧ Rp K F v d
  | [], _, _, _, .nil, e => by simp at e
  | d :: _, _, 0, _, .cons a r, e => by simp at e; subst e; exact ⟨d, rfl, a⟩
  | _ :: _, _, i + 1, _, .cons a r, e => by
    obtain ⟨d, h1, h2⟩ := RpAll.get (i := i) r (by simpa using e)
    exact ⟨d, by simpa using h1, h2⟩
theorem RpAll.get' {K : PySem.W.Frag} {F : Hp} {ds : List PyData} {vs : List V} {i : Nat} {d : PyData} (h : RpAll K F vs ds) (e : ds[i]? = some d) : ∃ v, vs[i]? = some v ∧ Rp K F v d := by
  have hl := h.length
  have hi : i < vs.length := by rw [hl]; exact (List.getElem?_eq_some_iff.mp e).1
  obtain ⟨d', h1, h2⟩ := h.get (v := vs[i]) (List.getElem?_eq_getElem hi)
  rw [e] at h1
  cases h1
  exact ⟨vs[i], List.getElem?_eq_getElem hi, h2⟩
theorem RpAll.append {K : PySem.W.Frag} {F : Hp} : ∀ {ds es : List PyData} {vs ws : List V}, RpAll K F vs ds → RpAll K F ws es → RpAll K F (vs ++ ws) (ds ++ es)
  | [], _, _, _, .nil, h => h
  | _ :: _, _, _, _, .cons a r, h => .cons a (RpAll.append r h)
/-- the heap grows: what stood stands; what is frozen anew was not there -/
structure Gr (H F H' F' : Hp) : Prop where
  hh : Sub H H'
  ff : Sub F F'
  fn : ∀ a, F' a ≠ none → F a ≠ none ∨ H a = none
  fh' : Sub F' H'
theorem Gr.refl {H F : Hp} (h : Sub F H) : Gr H F H F := ⟨Sub.refl _, Sub.refl _, fun _ h => .inl h, h⟩
theorem Sub.none {F F' : Hp} (h : Sub F F') {a : Addr} (e : F' a = none) : F a = none := by
  cases q : F a with
  | none => rfl
  | some o => rw [h a o q] at e; cases e
theorem Gr.trans {H F H1 F1 H2 F2 : Hp} (a : Gr H F H1 F1) (b : Gr H1 F1 H2 F2) : Gr H F H2 F2 :=
  ⟨a.hh.trans b.hh, a.ff.trans b.ff, fun x h => by
    rcases b.fn x h with q | q
    · exact a.fn x q
    · exact .inr (a.hh.none q), b.fh'⟩
theorem Gr.stay {H F H' F' : Hp} (g : Gr H F H' F') {a : Addr} (h1 : H a ≠ none) (h2 : F a = none) : F' a = none := by
  cases q : F' a with
  | none => rfl
  | some o =>
    rcases g.fn a (by rw [q]; simp) with z | z
    · exact absurd h2 z
    · exact absurd z h1

/-! ### what a value stands for -/
mutual
inductive OR (K : Frag) (H F : Hp) : V → Ow → List Addr → Prop
  | fz {v : V} {d : D} : Rp K F v d → OR K H F v (.fz d) []
  | ls {a : Addr} {vs : List V} {xs : List Ow} {A : List Addr} : H a = some (.lst vs) → F a = none → a ∉ A → ORs K H F vs xs A → OR K H F (.ref a) (.ls xs) (a :: A)
  | tp {a : Addr} {vs : List V} {xs : List Ow} {A : List Addr} : H a = some (.tup vs) → F a = none → a ∉ A → ORs K H F vs xs A → OR K H F (.ref a) (.tp xs) (a :: A)
inductive ORs (K : Frag) (H F : Hp) : List V → List Ow → List Addr → Prop
  | nil : ORs K H F [] [] []
  | cons {v : V} {x : Ow} {vs : List V} {xs : List Ow} {A B : List Addr} : OR K H F v x A → ORs K H F vs xs B → (∀ a ∈ A, a ∉ B) → ORs K H F (v :: vs) (x :: xs) (A ++ B)
end
mutual
theorem OR.keep {K : Frag} {H F H' F' : Hp} (hf : Sub F F') : ∀ {ow : Ow} {v : V} {A : List Addr}, OR K H F v ow A → (∀ a ∈ A, H' a = H a ∧ F' a = none) → OR K H' F' v ow A
  | .fz _, _, _, .fz h, _ => .fz (Rp.mono hf h)
  | .ls _, _, _, .ls h1 h2 h3 h4, k => .ls (by rw [(k _ List.mem_cons_self).1]; exact h1) (k _ List.mem_cons_self).2 h3 (ORs.keep hf h4 fun a h => k a (List.mem_cons_of_mem _ h))
  | .tp _, _, _, .tp h1 h2 h3 h4, k => .tp (by rw [(k _ List.mem_cons_self).1]; exact h1) (k _ List.mem_cons_self).2 h3 (ORs.keep hf h4 fun a h => k a (List.mem_cons_of_mem _ h))
theorem ORs.keep {K : Frag} {H F H' F' : Hp} (hf : Sub F F') : ∀ {xs : List Ow} {vs : List V} {A : List Addr}, ORs K H F vs xs A → (∀ a ∈ A, H' a = H a ∧ F' a = none) → ORs K H' F' vs xs A
  | [], _, _, .nil, _ => .nil
  | _ :: _, _, _, .cons h1 h2 h3, k => .cons (OR.keep hf h1 fun a h => k a (List.mem_append_left _ h)) (ORs.keep hf h2 fun a h => k a (List.mem_append_right _ h)) h3
end
mutual
theorem OR.there {K : Frag} {H F : Hp} : ∀ {ow : Ow} {v : V} {A : List Addr}, OR K H F v ow A → ∀ a ∈ A, H a ≠ none ∧ F a = none
  | .fz _, _, _, .fz _, a, h => by cases h
  | .ls _, _, _, .ls h1 h2 _ h4, a, h => by
    rcases List.mem_cons.mp h with rfl | h
    · exact ⟨by rw [h1]; simp, h2⟩
    · exact ORs.there h4 a h
  | .tp _, _, _, .tp h1 h2 _ h4, a, h => by
    rcases List.mem_cons.mp h with rfl | h
    · exact ⟨by rw [h1]; simp, h2⟩
    · exact ORs.there h4 a h
theorem ORs.there {K : Frag} {H F : Hp} : ∀ {xs : List Ow} {vs : List V} {A : List Addr}, ORs K H F vs xs A → ∀ a ∈ A, H a ≠ none ∧ F a = none
  | [], _, _, .nil, a, h => by cases h
  | _ :: _, _, _, .cons h1 h2 _, a, h => by
    rcases List.mem_append.mp h with h | h
    · exact OR.there h1 a h
    · exact ORs.there h2 a h
end
theorem OR.gr {K : Frag} {H F H' F' : Hp} {ow : Ow} {v : V} {A : List Addr} (h : OR K H F v ow A) (g : Gr H F H' F') : OR K H' F' v ow A :=
  h.keep g.ff fun a ha => by
    obtain ⟨h1, h2⟩ := h.there a ha
    refine ⟨?_, g.stay h1 h2⟩
    cases q : H a with
    | none => exact absurd q h1
    | some o => exact g.hh a o q
theorem ORs.gr {K : Frag} {H F H' F' : Hp} {xs : List Ow} {vs : List V} {A : List Addr} (h : ORs K H F vs xs A) (g : Gr H F H' F') : ORs K H' F' vs xs A :=
  h.keep g.ff fun a ha => by
    obtain ⟨h1, h2⟩ := h.there a ha
    refine ⟨?_, g.stay h1 h2⟩
    cases q : H a with
    | none => exact absurd q h1
    | some o => exact g.hh a o q
/-! read as data, in a heap that holds both -/
mutual
theorem OR.dpIn {K : Frag} {H F G : Hp} (hf : Sub F G) : ∀ {ow : Ow} {v : V} {A : List Addr}, OR K H F v ow A → (∀ a ∈ A, G a = H a) → Rp K G v ow.toD
  | .fz _, _, _, .fz h, _ => Rp.mono hf h
  | .ls _, _, _, .ls h1 _ _ h4, k => .lst (.of (by rw [k _ List.mem_cons_self]; exact h1)) (ORs.dpIn hf h4 fun a h => k a (List.mem_cons_of_mem _ h))
  | .tp _, _, _, .tp h1 _ _ h4, k => .tup (.of (by rw [k _ List.mem_cons_self]; exact h1)) (ORs.dpIn hf h4 fun a h => k a (List.mem_cons_of_mem _ h))
theorem ORs.dpIn {K : Frag} {H F G : Hp} (hf : Sub F G) : ∀ {xs : List Ow} {vs : List V} {A : List Addr}, ORs K H F vs xs A → (∀ a ∈ A, G a = H a) → RpAll K G vs (toDs xs)
  | [], _, _, .nil, _ => .nil
  | _ :: _, _, _, .cons h1 h2 _, k => .cons (OR.dpIn hf h1 fun a h => k a (List.mem_append_left _ h)) (ORs.dpIn hf h2 fun a h => k a (List.mem_append_right _ h))
end
theorem OR.dp {K : Frag} {H F : Hp} {ow : Ow} {v : V} {A : List Addr} (h : OR K H F v ow A) (hf : Sub F H) : Rp K H v ow.toD := h.dpIn hf fun _ _ => rfl
theorem ORs.dp {K : Frag} {H F : Hp} {xs : List Ow} {vs : List V} {A : List Addr} (h : ORs K H F vs xs A) (hf : Sub F H) : RpAll K H vs (toDs xs) := h.dpIn hf fun _ _ => rfl
theorem ORs.length {K : Frag} {H F : Hp} : ∀ {xs : List Ow} {vs : List V} {A : List Addr}, ORs K H F vs xs A → vs.length = xs.length
  | [], _, _, .nil => rfl
  | _ :: _, _, _, .cons _ r _ => by simp [ORs.length r]
theorem ORs.ofDp {K : Frag} {H F : Hp} : ∀ {ds : List D} {vs : List V}, RpAll K F vs ds → ORs K H F vs (ds.map Ow.fz) []
  | [], _, .nil => .nil
  | _ :: _, _, .cons a r => .cons (A := []) (B := []) (.fz a) (ORs.ofDp r) (fun _ h => by cases h)
theorem ORs.append {K : Frag} {H F : Hp} : ∀ {xs ys : List Ow} {vs ws : List V} {A B : List Addr}, ORs K H F vs xs A → ORs K H F ws ys B → (∀ a ∈ A, a ∉ B) → ORs K H F (vs ++ ws) (xs ++ ys) (A ++ B)
  | [], _, _, _, _, _, .nil, h, _ => h
  | x :: xs, ys, _, ws, _, B, @ORs.cons _ _ _ v _ vs _ A1 A2 a r k, h, n => by
    have ih := ORs.append r h (fun a ha => n a (List.mem_append_right _ ha))
    have : (A1 ++ A2) ++ B = A1 ++ (A2 ++ B) := List.append_assoc ..
    rw [this]
    refine .cons a ih fun b hb hm => ?_
    rcases List.mem_append.mp hm with z | z
    · exact k b hb z
    · exact n b (List.mem_append_left _ hb) z
/-- some addresses frozen -/
def frz (F H : Hp) (A : List Addr) : Hp := fun a => if a ∈ A then H a else F a
theorem frz_in {F H : Hp} {A : List Addr} {a : Addr} (h : a ∈ A) : frz F H A a = H a := by unfold frz; rw [if_pos h]
theorem frz_out {F H : Hp} {A : List Addr} {a : Addr} (h : a ∉ A) : frz F H A a = F a := by unfold frz; rw [if_neg h]
theorem frz_sub {F H : Hp} {A : List Addr} (h : ∀ a ∈ A, F a = none) : Sub F (frz F H A) := fun a o e => by
  by_cases q : a ∈ A
  · rw [h a q] at e; cases e
  · rw [frz_out q]; exact e
theorem frz_subH {F H : Hp} {A : List Addr} (h : Sub F H) : Sub (frz F H A) H := fun a o e => by
  by_cases q : a ∈ A
  · rw [frz_in q] at e; exact e
  · rw [frz_out q] at e; exact h a o e
theorem OR.freeze {K : Frag} {H F : Hp} {ow : Ow} {v : V} {A : List Addr} (h : OR K H F v ow A) : Rp K (frz F H A) v ow.toD :=
  h.dpIn (frz_sub fun a ha => (h.there a ha).2) fun a ha => frz_in ha
theorem ORs.freeze {K : Frag} {H F : Hp} {xs : List Ow} {vs : List V} {A : List Addr} (h : ORs K H F vs xs A) : RpAll K (frz F H A) vs (toDs xs) :=
  h.dpIn (frz_sub fun a ha => (h.there a ha).2) fun a ha => frz_in ha

/-! ### the state -/
def SlOk (K : Frag) (H0 H F : Hp) (σ : S) (i : Nat) (A : List Addr) : Option (Option Sl) → Prop
  | some (some (.own ow)) => ∃ v, σ[i]? = some (some v) ∧ OR K H F v ow A ∧ ∀ a ∈ A, H0 a = none
  | some (some (.bor d)) => A = [] ∧ ∃ v, σ[i]? = some (some v) ∧ Rp K H0 v d
  | _ => A = []
/-- .. with the owned addresses of each slot -/
structure SRA (K : Frag) (H0 F0 : Hp) (A : Nat → List Addr) (σ : S) (H F : Hp) (ρ : Rho) : Prop where
  len : ρ.length = σ.length
  gr : Gr H0 F0 H F
  sl : ∀ i, SlOk K H0 H F σ i (A i) ρ[i]?
  ap : ∀ i j, i ≠ j → ∀ a ∈ A i, a ∉ A j
structure SR (K : Frag) (H0 F0 : Hp) (σ : S) (H F : Hp) (ρ : Rho) : Prop where
  len : ρ.length = σ.length
  gr : Gr H0 F0 H F
  sl : ∃ A : Nat → List Addr, (∀ i, SlOk K H0 H F σ i (A i) ρ[i]?) ∧ ∀ i j, i ≠ j → ∀ a ∈ A i, a ∉ A j
theorem SRA.sr {K : Frag} {H0 F0 : Hp} {A : Nat → List Addr} {σ : S} {H F : Hp} {ρ : Rho} (h : SRA K H0 F0 A σ H F ρ) : SR K H0 F0 σ H F ρ := ⟨h.len, h.gr, A, h.sl, h.ap⟩
theorem SR.sra {K : Frag} {H0 F0 : Hp} {σ : S} {H F : Hp} {ρ : Rho} (h : SR K H0 F0 σ H F ρ) : ∃ A, SRA K H0 F0 A σ H F ρ := let ⟨A, a, b⟩ := h.sl; ⟨A, h.len, h.gr, a, b⟩
theorem SlOk.there {K : Frag} {H0 H F : Hp} {σ : S} {i : Nat} {A : List Addr} {o : Option (Option Sl)} (h : SlOk K H0 H F σ i A o) : ∀ a ∈ A, H a ≠ none ∧ F a = none ∧ H0 a = none := by
  intro a ha
  match o, h with
  | some (some (.own ow)), ⟨v, _, h, k⟩ => exact ⟨(h.there a ha).1, (h.there a ha).2, k a ha⟩
  | some (some (.bor d)), ⟨e, _⟩ => rw [e] at ha; cases ha
  | some none, e => rw [show A = [] from e] at ha; cases ha
  | none, e => rw [show A = [] from e] at ha; cases ha
theorem SlOk.gr {K : Frag} {H0 H F H' F' : Hp} {σ : S} {i : Nat} {A : List Addr} {o : Option (Option Sl)} (h : SlOk K H0 H F σ i A o) (g : Gr H F H' F') : SlOk K H0 H' F' σ i A o := by
  match o, h with
  | some (some (.own ow)), ⟨v, e, h, k⟩ => exact ⟨v, e, h.gr g, k⟩
  | some (some (.bor d)), h => exact h
  | some none, e => exact e
  | none, e => exact e
theorem SR.step {K : Frag} {H0 F0 H F H' F' : Hp} {σ : S} {ρ : Rho} (h : SR K H0 F0 σ H F ρ) (g : Gr H F H' F') : SR K H0 F0 σ H' F' ρ :=
  ⟨h.len, h.gr.trans g, let ⟨A, h1, h2⟩ := h.sl; ⟨A, fun i => (h1 i).gr g, h2⟩⟩
theorem SRA.step {K : Frag} {H0 F0 H F H' F' : Hp} {A : Nat → List Addr} {σ : S} {ρ : Rho} (h : SRA K H0 F0 A σ H F ρ) (g : Gr H F H' F') : SRA K H0 F0 A σ H' F' ρ :=
  ⟨h.len, h.gr.trans g, fun i => (h.sl i).gr g, h.ap⟩
theorem SR.sub {K : Frag} {H0 F0 H F : Hp} {σ : S} {ρ : Rho} (h : SR K H0 F0 σ H F ρ) : Sub F H := h.gr.fh'
/-- v is what lies at the path p of v0 (lists alone) -/
def At (H : Hp) : V → List Nat → V → Prop
  | v0, [], v => v = v0
  | v0, k :: p, v => ∃ a vs w, v0 = .ref a ∧ (H a = some (.lst vs) ∨ H a = some (.tup vs)) ∧ vs[k]? = some w ∧ At H w p v
def Ow.at : Ow → List Nat → Option Ow
  | ow, [] => some ow
  | .ls xs, k :: p => match xs[k]? with
    | some x => Ow.at x p
    | none => none
  | .tp xs, k :: p => match xs[k]? with
    | some x => Ow.at x p
    | none => none
  | .fz _, _ :: _ => none
theorem At.gr {H H' : Hp} (h : Sub H H') : ∀ {p : List Nat} {v0 v : V}, At H v0 p v → At H' v0 p v
  | [], _, _, e => e
  | _ :: _, _, _, ⟨a, vs, w, e, o, k, r⟩ => ⟨a, vs, w, e, o.imp (h a _) (h a _), k, At.gr h r⟩
/-- what an expression's value is -/
def RVOk (K : Frag) (H0 H F : Hp) (σ : S) (ρ : Rho) (v : V) (A : List Addr) : RV → Prop
  | .val ow => OR K H F v ow A
  | .ref i p ow => A = [] ∧ (∃ v0, σ[i]? = some (some v0) ∧ At H v0 p v) ∧ (∃ ow0, ρ[i]? = some (some (.own ow0)) ∧ ow0.at p = some ow) ∧ ∃ B, OR K H F v ow B
  | .bor d => A = [] ∧ Rp K H0 v d
theorem RVOk.gr {K : Frag} {H0 H F H' F' : Hp} {σ : S} {ρ : Rho} {v : V} {A : List Addr} {rv : RV} (h : RVOk K H0 H F σ ρ v A rv) (g : Gr H F H' F') : RVOk K H0 H' F' σ ρ v A rv := by
  match rv, h with
  | .val ow, h => exact OR.gr h g
  | .ref i p ow, ⟨e, ⟨v0, e0, r⟩, q, B, h⟩ => exact ⟨e, ⟨v0, e0, r.gr g.hh⟩, q, B, h.gr g⟩
  | .bor d, h => exact h
theorem RVOk.there {K : Frag} {H0 H F : Hp} {σ : S} {ρ : Rho} {v : V} {A : List Addr} {rv : RV} (h : RVOk K H0 H F σ ρ v A rv) : ∀ a ∈ A, H a ≠ none ∧ F a = none := by
  intro a ha
  match rv, h with
  | .val ow, h => exact OR.there h a ha
  | .ref i p ow, ⟨e, _⟩ => rw [e] at ha; cases ha
  | .bor d, ⟨e, _⟩ => rw [e] at ha; cases ha
theorem RVOk.dp {K : Frag} {H0 F0 H F : Hp} {σ : S} {ρ : Rho} {v : V} {A : List Addr} {rv : RV} (h : RVOk K H0 H F σ ρ v A rv) (s : SR K H0 F0 σ H F ρ) : Rp K H v rv.d := by
  match rv, h with
  | .val ow, h => exact OR.dp h s.sub
  | .ref i p ow, ⟨_, _, _, B, h⟩ => exact h.dp s.sub
  | .bor d, ⟨_, h⟩ => exact Rp.mono s.gr.hh h
/-- a new thing laid: the heap has grown -/
theorem Gr.laid {H F : Hp} {p : Addr} {o : HO} (h : Sub F H) (hp : H p = none) : Gr H F (upd H p o) F :=
  ⟨fun a u e => by rw [upd_ne (ne_of_none e hp)]; exact e, Sub.refl _, fun _ h => .inl h, fun a u e => by rw [upd_ne (ne_of_none (h a u e) hp)]; exact h a u e⟩
/-- .. and what it holds is frozen with it -/
theorem Gr.frozen {H F : Hp} {A : List Addr} {Hs Fs : Hp} (g : Gr Hs Fs H F) (hA : ∀ a ∈ A, Hs a = none) (hF : ∀ a ∈ A, F a = none) : Gr Hs Fs H (frz F H A) :=
  ⟨g.hh, g.ff.trans (frz_sub hF), fun a h => by
    by_cases q : a ∈ A
    · exact .inr (hA a q)
    · rw [frz_out q] at h; exact g.fn a h, frz_subH g.fh'⟩
end VL

set_option Elab.async false
set_option linter.all false
set_option maxRecDepth 100000
set_option maxHeartbeats 2000000
/-! VL2: what expressions and statements compute, over plain values (no heap). -/
namespace VL
open PySem PySem.Spec PyProof.Rows L2

def scal : D → Bool
  | .none => true
  | .bool _ => true
  | .int _ => true
  | .str _ => true
  | _ => false
def isFz : Ow → Bool
  | .fz _ => true
  | _ => false
def vOf : D → V
  | .none => .non
  | .bool b => .bl b
  | .int i => .int i
  | .str x => .str x
  | _ => .non
def Sl.rv (i : Nat) : Sl → RV
  | .own (.fz d) => .val (.fz d)
  | .own (.ls xs) => .ref i [] (.ls xs)
  | .own (.tp xs) => .ref i [] (.tp xs)
  | .bor d => if scal d = true then .val (.fz d) else .bor d
def rD (d : D) : Res RV := .ok (.val (.fz d))
def eVar (i : Nat) : EC := fun ρ => match ρ[i]? with
  | some (some s) => .ok (s.rv i)
  | _ => .stuck
def eK (d : D) : EC := fun _ => rD d
def eUn (f : RV → Res RV) (a : EC) : EC := fun ρ => (a ρ).bind f
def eBin (f : RV → RV → Res RV) (a b : EC) : EC := fun ρ => (a ρ).bind fun x => (b ρ).bind fun y => f x y

/-! ### the items of a row, to be stored elsewhere -/
def RV.items : RV → Option (List Ow)
  | .val (.fz (.list ds)) => some (ds.map Ow.fz)
  | .val (.fz (.tuple ds)) => some (ds.map Ow.fz)
  | .val (.fz _) => none
  | .val (.ls xs) => some xs
  | .val (.tp xs) => some xs
  | .ref _ _ (.ls xs) => if xs.all isFz = true then some xs else none
  | .ref _ _ (.tp xs) => if xs.all isFz = true then some xs else none
  | .ref _ _ (.fz _) => none
  | .bor (.list ds) => if ds.all scal = true then some (ds.map Ow.fz) else none
  | .bor (.tuple ds) => if ds.all scal = true then some (ds.map Ow.fz) else none
  | .bor _ => none
def isL : D → Bool
  | .list _ => true
  | _ => false
def isT : D → Bool
  | .tuple _ => true
  | _ => false
/-- a thing to be stored -/
def RV.ow : RV → Option Ow
  | .val ow => some ow
  | _ => none

/-! ### operators -/
def catL (x y : RV) : Res RV := match x.items, y.items with
  | some xs, some ys => if xs.length + ys.length ≤ 16777216 then .ok (.val (.ls (xs ++ ys))) else .stuck
  | _, _ => .stuck
def fAdd (x y : RV) : Res RV := match x.d, y.d with
  | .int i, .int j => rD (.int (i + j))
  | .list _, .list _ => catL x y
  | .str a, .str b => if a.length + b.length ≤ 16777216 then rD (.str (a ++ b)) else .stuck
  | _, _ => .stuck
def fSub (x y : RV) : Res RV := match x.d, y.d with
  | .int i, .int j => rD (.int (i - j))
  | _, _ => .stuck
def mulOk (i j : Int) : Bool := (decide (-(2 ^ 64) < i) && decide (i < 2 ^ 64)) || (decide (-(2 ^ 64) < j) && decide (j < 2 ^ 64))
def fMul (x y : RV) : Res RV := match x.d, y.d with
  | .int i, .int j => if mulOk i j = true then rD (.int (i * j)) else .stuck
  | _, _ => .stuck
def fDiv (x y : RV) : Res RV := match x.d, y.d with
  | .int i, .int j => if 0 < j ∧ j < 1073741824 then rD (.int (i / j)) else .stuck
  | _, _ => .stuck
def fMod (x y : RV) : Res RV := match x.d, y.d with
  | .int i, .int j => if 0 < j then rD (.int (i % j)) else .stuck
  | _, _ => .stuck
def fPow (x y : RV) : Res RV := match x.d, y.d with
  | .int i, .int j => if 0 ≤ j ∧ j ≤ 1000000 ∧ i.natAbs < 2 ^ 64 then rD (.int (i ^ j.toNat)) else .stuck
  | _, _ => .stuck
def fShl (x y : RV) : Res RV := match x.d, y.d with
  | .int i, .int j => if 0 ≤ j ∧ j ≤ 1000000 ∧ i.natAbs < 2 ^ 64 then rD (.int (i * 2 ^ j.toNat)) else .stuck
  | _, _ => .stuck
def fBitOr (x y : RV) : Res RV := match x.d, y.d with
  | .int i, .int j => rD (.int (Builtin.bitOr i j))
  | _, _ => .stuck
def fBitAnd (x y : RV) : Res RV := match x.d, y.d with
  | .int i, .int j => rD (.int (Builtin.bitAnd i j))
  | _, _ => .stuck
def fNeg (x : RV) : Res RV := match x.d with
  | .int i => rD (.int (-i))
  | _ => .stuck
def fLt (x y : RV) : Res RV := match x.d, y.d with
  | .int i, .int j => rD (.bool (decide (i < j)))
  | _, _ => .stuck
def fLe (x y : RV) : Res RV := match x.d, y.d with
  | .int i, .int j => rD (.bool (decide (i ≤ j)))
  | _, _ => .stuck
def fGt (x y : RV) : Res RV := match x.d, y.d with
  | .int i, .int j => rD (.bool (decide (j < i)))
  | _, _ => .stuck
def fGe (x y : RV) : Res RV := match x.d, y.d with
  | .int i, .int j => rD (.bool (decide (j ≤ i)))
  | _, _ => .stuck
def fEq (x y : RV) : Res RV := if SeqAt.shaped x.d = true ∧ SeqAt.shaped y.d = true then rD (.bool (PyData.eqv x.d y.d)) else .stuck
def fNe (x y : RV) : Res RV := if SeqAt.shaped x.d = true ∧ SeqAt.shaped y.d = true then rD (.bool (!PyData.eqv x.d y.d)) else .stuck
def rowOf : D → Option (List D)
  | .list ds => some ds
  | .tuple ds => some ds
  | _ => none
def eqF (a b : D) : Bool := eqV (vOf a) (vOf b)
def fIn (x y : RV) : Res RV := match rowOf y.d with
  | some ds => if scal x.d = true ∧ ds.all scal = true then rD (.bool (ds.any fun d => eqF d x.d)) else .stuck
  | none => .stuck
def fNotIn (x y : RV) : Res RV := match rowOf y.d with
  | some ds => if scal x.d = true ∧ ds.all scal = true then rD (.bool (!(ds.any fun d => eqF d x.d))) else .stuck
  | none => .stuck
def isN : D → Bool
  | .none => true
  | _ => false
def fIsN (x : RV) : Res RV := rD (.bool (isN x.d))
def fNotN (x : RV) : Res RV := rD (.bool (!isN x.d))

/-! ### tests -/
def truthD : D → Bool
  | .none => false
  | .bool b => b
  | .int i => i != 0
  | .str x => x.length != 0
  | .list ds => !ds.isEmpty
  | .tuple ds => !ds.isEmpty
  | .dict ds => !ds.isEmpty
def tB (a : EC) : TC := fun ρ => (a ρ).bind fun x => match x.d with
  | .bool b => .ok b
  | _ => .stuck
def tTr (a : EC) : TC := fun ρ => (a ρ).bind fun x => .ok (truthD x.d)
def tAnd (a b : TC) : TC := fun ρ => (a ρ).bind fun x => if x = true then b ρ else .ok false
def tOr (a b : TC) : TC := fun ρ => (a ρ).bind fun x => if x = true then .ok true else b ρ
def tNot (a : TC) : TC := fun ρ => (a ρ).bind fun x => .ok (!x)
def tYes : TC := fun _ => .ok true
def eAnd (a b : EC) : EC := fun ρ => (a ρ).bind fun x => match x.d with
  | .bool true => b ρ
  | .bool false => rD (.bool false)
  | _ => .stuck
def eOr (a b : EC) : EC := fun ρ => (a ρ).bind fun x => match x.d with
  | .bool true => rD (.bool true)
  | .bool false => b ρ
  | _ => .stuck
def fNot (x : RV) : Res RV := match x.d with
  | .bool b => rD (.bool (!b))
  | _ => .stuck
def eIf (t : TC) (a b : EC) : EC := fun ρ => (t ρ).bind fun c => if c = true then a ρ else b ρ
/-- a op b op' c -/
def eChain (f g : RV → RV → Res RV) (a b c : EC) : EC := fun ρ => (a ρ).bind fun x => (b ρ).bind fun y => (f x y).bind fun z => match z.d with
  | .bool true => (c ρ).bind fun w => g y w
  | .bool false => rD (.bool false)
  | _ => .stuck

/-! ### built-in functions -/
/-- the built-in classes that are asked for -/
inductive Ty where
  | int | bool | str | list | tuple
def Ty.name : Ty → String
  | .int => "int"
  | .bool => "bool"
  | .str => "str"
  | .list => "list"
  | .tuple => "tuple"
def tyName : D → String
  | .none => "NoneType"
  | .bool _ => "bool"
  | .int _ => "int"
  | .str _ => "str"
  | .list _ => "list"
  | .tuple _ => "tuple"
  | .dict _ => "dict"
def inst : D → Ty → Bool
  | .bool _, .int => true
  | .bool _, .bool => true
  | .int _, .int => true
  | .str _, .str => true
  | .list _, .list => true
  | .tuple _, .tuple => true
  | _, _ => false
def fIsI (c : Ty) (x : RV) : Res RV := rD (.bool (inst x.d c))
def fIsIs (cs : List Ty) (x : RV) : Res RV := rD (.bool (cs.any fun c => inst x.d c))
def fLen (x : RV) : Res RV := match x.d with
  | .list ds => rD (.int ds.length)
  | .tuple ds => rD (.int ds.length)
  | .str x => if x.length ≤ 16777216 then rD (.int x.length) else .stuck
  | _ => .stuck
def fList (x : RV) : Res RV := match x.items with
  | some xs => .ok (.val (.ls xs))
  | none => .stuck
/-- a tuple of things: frozen if they are -/
def mkTup (xs : List Ow) : Ow := if xs.all isFz = true then .fz (.tuple (toDs xs)) else .tp xs
def fTuple (x : RV) : Res RV := match x.d with
  | .list _ => match x.items with
    | some xs => .ok (.val (mkTup xs))
    | none => .stuck
  | .tuple _ => match x with
    | .val ow => .ok (.val ow)
    | _ => .stuck
  | _ => .stuck
def intsOf : List D → Option (List Int)
  | [] => some []
  | .int i :: r => match intsOf r with
    | some is => some (i :: is)
    | none => none
  | _ :: _ => none
def insI (a : Int) : List Int → List Int
  | [] => [a]
  | b :: r => if a ≤ b then a :: b :: r else b :: insI a r
def sortI : List Int → List Int
  | [] => []
  | a :: r => insI a (sortI r)
def fSorted (x : RV) : Res RV := match x.d with
  | .list ds => match intsOf ds with
    | some ns => .ok (.val (.ls ((sortI ns).map fun i => .fz (.int i))))
    | none => .stuck
  | _ => .stuck
def fSum (x : RV) : Res RV := match x.d with
  | .list ds => match intsOf ds with
    | some ns => rD (.int ns.sum)
    | none => .stuck
  | _ => .stuck
def fInt (x : RV) : Res RV := match x.d with
  | .int i => rD (.int i)
  | .bool b => rD (.int (if b then 1 else 0))
  | _ => .stuck
/-! ### subscripts -/
def ixOw (i : Nat) (p : List Nat) (k : Nat) : Ow → RV
  | .fz d => .val (.fz d)
  | ow => .ref i (p ++ [k]) ow
def fIx (x y : RV) : Res RV := match y.d with
  | .int k => match x with
    | .val (.fz (.list ds)) => match atI ds k with
      | some d => rD d
      | none => .stuck
    | .val (.fz (.tuple ds)) => match atI ds k with
      | some d => rD d
      | none => .stuck
    | .val (.ls xs) => match atI xs k with
      | some ow => .ok (.val ow)
      | none => .stuck
    | .val (.tp xs) => match atI xs k with
      | some ow => .ok (.val ow)
      | none => .stuck
    | .ref i p (.ls xs) => match ixN xs.length k with
      | some j => match xs[j]? with
        | some ow => .ok (ixOw i p j ow)
        | none => .stuck
      | none => .stuck
    | .ref i p (.tp xs) => match ixN xs.length k with
      | some j => match xs[j]? with
        | some ow => .ok (ixOw i p j ow)
        | none => .stuck
      | none => .stuck
    | .bor (.list ds) => match atI ds k with
      | some d => .ok (if scal d = true then .val (.fz d) else .bor d)
      | none => .stuck
    | .bor (.tuple ds) => match atI ds k with
      | some d => .ok (if scal d = true then .val (.fz d) else .bor d)
      | none => .stuck
    | _ => .stuck
  | _ => .stuck
def cutL {α : Type} (xs : List α) (lo hi : Option Int) : List α := (xs.drop (HT.sIx xs.length 0 lo)).take (HT.sIx xs.length xs.length hi - HT.sIx xs.length 0 lo)
/-- an end of a slice -/
def ePart (c : Option EC) (ρ : Rho) : Res (Option Int) := match c with
  | none => .ok none
  | some c => (c ρ).bind fun x => match x.d with
    | .int i => .ok (some i)
    | _ => .stuck
def fCut (x : RV) (lo hi : Option Int) : Res RV := match x.d with
  | .list _ => match x.items with
    | some xs => .ok (.val (.ls (cutL xs lo hi)))
    | none => .stuck
  | .tuple _ => match x with
    | .val (.fz (.tuple ds)) => rD (.tuple (cutL ds lo hi))
    | _ => .stuck
  | _ => .stuck
def eSlice (a : EC) (lo hi : Option EC) : EC := fun ρ => (a ρ).bind fun x => (ePart lo ρ).bind fun l => (ePart hi ρ).bind fun h => fCut x l h
def fRev (x : RV) : Res RV := match x.d with
  | .list _ => match x.items with
    | some xs => .ok (.val (.ls xs.reverse))
    | none => .stuck
  | _ => .stuck

/-! ### several values -/
def evalAll : List EC → Rho → Res (List RV)
  | [], _ => .ok []
  | c :: cs, ρ => (c ρ).bind fun x => (evalAll cs ρ).bind fun xs => .ok (x :: xs)
def owsOf : List RV → Option (List Ow)
  | [] => some []
  | x :: xs => match x.ow, owsOf xs with
    | some o, some os => some (o :: os)
    | _, _ => none
def eLst (cs : List EC) : EC := fun ρ => (evalAll cs ρ).bind fun xs => match owsOf xs with
  | some os => if os.length ≤ 1000 then .ok (.val (.ls os)) else .stuck
  | none => .stuck
def eTup (cs : List EC) : EC := fun ρ => (evalAll cs ρ).bind fun xs => match owsOf xs with
  | some os => if os.length ≤ 1000 then .ok (.val (mkTup os)) else .stuck
  | none => .stuck
/-- an argument, as a callee's slot -/
def RV.arg : RV → Sl
  | .val ow => .own (.fz ow.toD)
  | .ref _ _ ow => .bor ow.toD
  | .bor d => .bor d
abbrev Fn := List Sl → Res Ow
def eCall (φ : Fn) (cs : List EC) : EC := fun ρ => (evalAll cs ρ).bind fun xs => (φ (xs.map RV.arg)).bind fun ow => .ok (.val ow)

/-! ### what a loop walks: at each turn the values of the targets -/
abbrev IC := Rho → Res (List (List Sl))
def slOf (d : D) : Sl := .own (.fz d)
def slBor (d : D) : Sl := if scal d = true then .own (.fz d) else .bor d
def RV.iter : RV → Option (List Sl)
  | .val ow => match rowOf ow.toD with
    | some ds => some (ds.map slOf)
    | none => none
  | .ref _ _ _ => none
  | .bor d => match rowOf d with
    | some ds => some (ds.map slBor)
    | none => none
def iRow (a : EC) : IC := fun ρ => (a ρ).bind fun x => match x.iter with
  | some ss => .ok (ss.map fun s => [s])
  | none => .stuck
def rangeS (lo hi : Int) : List (List Sl) := (List.range (hi - lo).toNat).map fun (k : Nat) => [slOf (.int (lo + k))]
def rngOk (i : Int) : Bool := decide (-(2 ^ 62) ≤ i) && decide (i < 2 ^ 62)
def iRng1 (a : EC) : IC := fun ρ => (a ρ).bind fun x => match x.d with
  | .int i => if rngOk i = true then .ok (rangeS 0 i) else .stuck
  | _ => .stuck
def iRng2 (a b : EC) : IC := fun ρ => (a ρ).bind fun x => (b ρ).bind fun y => match x.d, y.d with
  | .int i, .int j => if rngOk i = true ∧ rngOk j = true then .ok (rangeS i j) else .stuck
  | _, _ => .stuck
def enumS : Nat → List Sl → List (List Sl)
  | _, [] => []
  | k, s :: r => [slOf (.int (k : Nat)), s] :: enumS (k + 1) r
def iEnum (a : EC) : IC := fun ρ => (a ρ).bind fun x => match x.iter with
  | some ss => .ok (enumS 0 ss)
  | none => .stuck
def setAll : List Nat → List Sl → Rho → Rho
  | i :: is, s :: ss, ρ => setAll is ss (ρ.set i (some s))
  | _, _, ρ => ρ
def compL (tg : List Nat) (t : TC) (e : EC) : List (List Sl) → Rho → Res (List Ow)
  | [], _ => .ok []
  | v :: vs, ρ => match t (setAll tg v ρ) with
    | .ok true => match e (setAll tg v ρ) with
      | .ok x => match x.ow with
        | some o => (compL tg t e vs ρ).bind fun os => .ok (o :: os)
        | none => .stuck
      | _ => .stuck
    | .ok false => compL tg t e vs ρ
    | _ => .stuck
def wipeR : List Nat → Rho → Rho
  | [], ρ => ρ
  | v :: vs, ρ => (wipeR vs ρ).set v none
def eComp (tg : List Nat) (it : IC) (t : TC) (e : EC) : EC := fun ρ => (it ρ).bind fun vs => if vs.length ≤ 16777216 then
    match compL tg t e vs (wipeR tg ρ) with
    | .ok os => .ok (.val (.ls os))
    | _ => .stuck
  else .stuck

/-! ### statements -/
def sPass : SC := fun ρ => .next ρ
def sStuck : SC := fun _ => .stuck
def sSeq (a b : SC) : SC := fun ρ => match a ρ with
  | .next ρ' => b ρ'
  | r => r
def sIf (t : TC) (a b : SC) : SC := fun ρ => match t ρ with
  | .ok true => a ρ
  | .ok false => b ρ
  | .err x => .err x ρ
  | .stuck => .stuck
def sRet (a : EC) : SC := fun ρ => match a ρ with
  | .ok (.val ow) => .ret ow
  | .ok (.ref _ [] ow) => .ret ow
  | .ok _ => .stuck
  | .err x => .err x ρ
  | .stuck => .stuck
def sSet (i : Nat) (a : EC) : SC := fun ρ => match a ρ with
  | .ok (.val ow) => .next (ρ.set i (some (.own ow)))
  | .ok (.bor d) => .next (ρ.set i (some (.bor d)))
  | .ok _ => .stuck
  | .err x => .err x ρ
  | .stuck => .stuck
/-- a frozen slot -/
def frzSl : Option (Option Sl) → Option Sl
  | some (some (.own ow)) => some (.own (.fz ow.toD))
  | some (some (.bor d)) => some (.bor d)
  | _ => none
def sFrz (i : Nat) (a : SC) : SC := fun ρ => a (ρ.set i (frzSl ρ[i]?))
/-- a, b, .. = a row -/
def RV.parts : RV → Option (List Sl)
  | .val (.fz (.tuple ds)) => some (ds.map slOf)
  | .val (.fz (.list ds)) => some (ds.map slOf)
  | .val (.ls xs) => some (xs.map Sl.own)
  | .val (.tp xs) => some (xs.map Sl.own)
  | .bor (.tuple ds) => some (ds.map slBor)
  | .bor (.list ds) => some (ds.map slBor)
  | _ => none
def sUnp (tg : List Nat) (a : EC) : SC := fun ρ => match a ρ with
  | .ok x => match x.parts with
    | some ss => if ss.length = tg.length then .next (setAll tg ss ρ) else .stuck
    | none => .stuck
  | .err x => .err x ρ
  | .stuck => .stuck
def forL (tg : List Nat) (b : SC) : List (List Sl) → SC
  | [], ρ => .next ρ
  | v :: vs, ρ => match b (setAll tg v ρ) with
    | .next ρ' => forL tg b vs ρ'
    | .cont ρ' => forL tg b vs ρ'
    | .brk ρ' => .next ρ'
    | .ret ow => .ret ow
    | .err x ρ' => .err x ρ'
    | .stuck => .stuck
def sFor (tg : List Nat) (it : IC) (b : SC) : SC := fun ρ => match it ρ with
  | .ok vs => forL tg b vs ρ
  | .err x => .err x ρ
  | .stuck => .stuck
def whileN (t : TC) (b : SC) : Nat → SC
  | 0, _ => .stuck
  | n + 1, ρ => match t ρ with
    | .ok true => match b ρ with
      | .next ρ' => whileN t b n ρ'
      | .cont ρ' => whileN t b n ρ'
      | .brk ρ' => .next ρ'
      | .ret ow => .ret ow
      | .err x ρ' => .err x ρ'
      | .stuck => .stuck
    | .ok false => .next ρ
    | .err x => .err x ρ
    | .stuck => .stuck
def fuel : Nat := 18446744073709551616
def sWhile (t : TC) (b : SC) : SC := fun ρ => whileN t b fuel ρ
/-- slot[p..].append(e) -/
def Ow.put : Ow → List Nat → (List Ow → List Ow) → Option Ow
  | .ls xs, [], f => some (.ls (f xs))
  | .ls xs, k :: p, f => match xs[k]? with
    | some x => match Ow.put x p f with
      | some y => some (.ls (xs.set k y))
      | none => none
    | none => none
  | .tp xs, k :: p, f => match xs[k]? with
    | some x => match Ow.put x p f with
      | some y => some (.tp (xs.set k y))
      | none => none
    | none => none
  | _, _, _ => none
/-- the list at i, p is changed -/
def putAt (i : Nat) (p : List Nat) (f : List Ow → List Ow) (ρ : Rho) : SRes := match ρ[i]? with
  | some (some (.own ow)) => match ow.put p f with
    | some ow' => .next (ρ.set i (some (.own ow')))
    | none => .stuck
  | _ => .stuck
def sApp (o a : EC) : SC := fun ρ => match o ρ with
  | .ok (.ref i p (.ls xs)) => match a ρ with
    | .ok (.val ow) => if xs.length < 16777216 then putAt i p (fun xs => xs ++ [ow]) ρ else .stuck
    | .err x => .err x ρ
    | _ => .stuck
  | .err x => .err x ρ
  | _ => .stuck

/-! ### a def -/
def runBody (b : SC) (n : Nat) : Fn := fun as => match b (as.map some ++ List.replicate (n - as.length) none) with
  | .next _ => .ok (.fz .none)
  | .ret ow => .ok ow
  | .err x _ => .err x
  | _ => .stuck
end VL

set_option Elab.async false
set_option linter.all false
set_option maxRecDepth 100000
set_option maxHeartbeats 4000000
/-! VL3: what the machine does for an expression is what VL2 computes. -/
namespace VL
open PySem PySem.Spec PyProof.Rows L2

theorem Rp.scal_eq {K : Frag} {H : Hp} {v : V} {d : D} (h : Rp K H v d) (s : scal d = true) : v = vOf d := by
  cases h with
  | non => rfl
  | bl b => rfl
  | int i => rfl
  | str x => rfl
  | lst _ _ => cases s
  | tup _ _ => cases s
theorem Rp.scal {K : Frag} (H : Hp) {d : D} (s : scal d = true) : Rp K H (vOf d) d := by
  cases d with
  | none => exact .non
  | bool b => exact .bl b
  | int i => exact .int i
  | str x => exact .str x
  | list ds => cases s
  | tuple ds => cases s
  | dict ds => cases s
theorem RpAll.scal_eq {K : Frag} {H : Hp} : ∀ {ds : List D} {vs : List V}, RpAll K H vs ds → ds.all VL.scal = true → vs = ds.map vOf
  | [], _, .nil, _ => rfl
  | d :: ds, _, .cons a r, s => by
    simp only [List.all_cons, Bool.and_eq_true] at s
    rw [a.scal_eq s.1, RpAll.scal_eq r s.2]; rfl
theorem RpAll.scal {K : Frag} (H : Hp) : ∀ {ds : List D}, ds.all VL.scal = true → RpAll K H (ds.map vOf) ds
  | [], _ => .nil
  | d :: ds, s => by
    simp only [List.all_cons, Bool.and_eq_true] at s
    exact .cons (Rp.scal H s.1) (RpAll.scal H s.2)
theorem Rp.flat {K : Frag} {H : Hp} {v : V} {d : D} (h : Rp K H v d) (s : VL.scal d = true) : flatV v = true := by
  rw [h.scal_eq s]
  cases d <;> first | rfl | cases s
theorem RpAll.flat {K : Frag} {H : Hp} {vs : List V} {ds : List D} (h : RpAll K H vs ds) (s : ds.all VL.scal = true) : vs.all flatV = true := by
  rw [h.scal_eq s, List.all_eq_true]
  intro v hv
  obtain ⟨d, hd, rfl⟩ := List.mem_map.mp hv
  exact (Rp.scal (K := K) H (List.all_eq_true.mp s d hd)).flat (List.all_eq_true.mp s d hd)

theorem OR.fz_inv {K : Frag} {H F : Hp} {v : V} {d : D} {A : List Addr} (h : OR K H F v (.fz d) A) : A = [] ∧ Rp K F v d := by
  generalize e : Ow.fz d = ow at h
  cases h with
  | fz r => cases e; exact ⟨rfl, r⟩
  | ls _ _ _ _ => cases e
  | tp _ _ _ _ => cases e
theorem OR.ls_inv {K : Frag} {H F : Hp} {v : V} {xs : List Ow} {A : List Addr} (h : OR K H F v (.ls xs) A) : ∃ a vs B, v = .ref a ∧ A = a :: B ∧ H a = some (.lst vs) ∧ F a = none ∧ a ∉ B ∧ ORs K H F vs xs B := by
  generalize e : Ow.ls xs = ow at h
  cases h with
  | fz r => cases e
  | ls h1 h2 h3 h4 => cases e; exact ⟨_, _, _, rfl, rfl, h1, h2, h3, h4⟩
  | tp _ _ _ _ => cases e
theorem OR.tp_inv {K : Frag} {H F : Hp} {v : V} {xs : List Ow} {A : List Addr} (h : OR K H F v (.tp xs) A) : ∃ a vs B, v = .ref a ∧ A = a :: B ∧ H a = some (.tup vs) ∧ F a = none ∧ a ∉ B ∧ ORs K H F vs xs B := by
  generalize e : Ow.tp xs = ow at h
  cases h with
  | fz r => cases e
  | tp h1 h2 h3 h4 => cases e; exact ⟨_, _, _, rfl, rfl, h1, h2, h3, h4⟩
  | ls _ _ _ _ => cases e
/-! ### exceptions, readings -/
def FsOk (K : Frag) (F : Hp) (fs : List (Str × V)) (gs : List (Str × D)) : Prop := Paired (fun p q => p.1 = q.1 ∧ Rp K F p.2 q.2) fs gs
def XOk (K : Frag) (mg : Str → Option Value) (F H : Hp) (cls : Value) (d : Option Addr) (x : Exn) : Prop :=
  ∃ C, mg x.cls = some (.ref C) ∧ cls = .ref C ∧ (x.fs = [] ∨ ∃ dx fs, d = some dx ∧ H dx = some (.xd fs) ∧ FsOk K F fs x.fs)
def rdE (K : Frag) (mg : Str → Option Value) (c : EC) (W : WX) : TE := fun σ H Q => ∃ H0 F0 F ρ, SR K H0 F0 σ H F ρ ∧ match c ρ with
  | .ok rv => ∀ v H' F' A, Gr H F H' F' → RVOk K H0 H' F' σ ρ v A rv → (∀ a ∈ A, H a = none) → Q v H'
  | .err x => ∀ cls d H' F', Gr H F H' F' → XOk K mg F' H' cls d x → W cls d σ H'
  | .stuck => False
def rdT (K : Frag) (mg : Str → Option Value) (c : TC) (W : WX) : TT := fun σ H Q => ∃ H0 F0 F ρ, SR K H0 F0 σ H F ρ ∧ match c ρ with
  | .ok b => ∀ H' F', Gr H F H' F' → Q b H'
  | .err x => ∀ cls d H' F', Gr H F H' F' → XOk K mg F' H' cls d x → W cls d σ H'
  | .stuck => False
def RVs (K : Frag) (H0 H F : Hp) (σ : S) (ρ : Rho) : List V → List Addr → List RV → Prop
  | [], A, [] => A = []
  | v :: vs, A, x :: xs => ∃ A1 A2, A = A1 ++ A2 ∧ RVOk K H0 H F σ ρ v A1 x ∧ RVs K H0 H F σ ρ vs A2 xs ∧ ∀ a ∈ A1, a ∉ A2
  | _, _, _ => False
def rdA (K : Frag) (mg : Str → Option Value) (cs : List EC) (W : WX) : TA := fun σ H Q => ∃ H0 F0 F ρ, SR K H0 F0 σ H F ρ ∧ match evalAll cs ρ with
  | .ok rvs => ∀ vs H' F' A, Gr H F H' F' → RVs K H0 H' F' σ ρ vs A rvs → (∀ a ∈ A, H a = none) → Q vs H'
  | .err x => ∀ cls d H' F', Gr H F H' F' → XOk K mg F' H' cls d x → W cls d σ H'
  | .stuck => False
def EOk (X : Cx) (e : Expr) (c : EC) : Prop := ∀ W, Takes X W → PE X e (rdE X.K X.mg c W)
def TOk (X : Cx) (e : Expr) (c : TC) : Prop := ∀ W, Takes X W → PT X e (rdT X.K X.mg c W)
def WOk (X : Cx) (e : Expr) (c : TC) : Prop := ∀ W, Takes X W → PW X e (rdT X.K X.mg c W)
def AOk (X : Cx) (es : List Expr) (cs : List EC) : Prop := ∀ W, Takes X W → PA X es (rdA X.K X.mg cs W)
theorem pe_mono {X : Cx} {e : Expr} {t t' : TE} (h : PE X e t) (k : ∀ σ H Q, t' σ H Q → t σ H Q) : PE X e t' := ⟨fun pins s σ H Q I q => h.run pins s σ H Q I (k σ H Q q)⟩
theorem pt_mono {X : Cx} {e : Expr} {t t' : TT} (h : PT X e t) (k : ∀ σ H Q, t' σ H Q → t σ H Q) : PT X e t' := ⟨fun pins s σ H Q I q => h.run pins s σ H Q I (k σ H Q q)⟩
theorem pw_mono {X : Cx} {e : Expr} {t t' : TT} (h : PW X e t) (k : ∀ σ H Q, t' σ H Q → t σ H Q) : PW X e t' := ⟨fun wh pins s σ H Q I q => h.run wh pins s σ H Q I (k σ H Q q)⟩
theorem pa_mono {X : Cx} {e : List Expr} {t t' : TA} (h : PA X e t) (k : ∀ σ H Q, t' σ H Q → t σ H Q) : PA X e t' := ⟨fun pos pins s σ H Q I q => h.run pos pins s σ H Q I (k σ H Q q)⟩

section
variable {K : Frag} {mg : Str → Option Value} {W : WX} {σ : S} {H H0 F0 F : Hp} {ρ : Rho}
/-- one value is asked; then what is wanted of it -/
theorem rdE_ok {c : EC} {rv : RV} {Q : VK} (s : SR K H0 F0 σ H F ρ) (h : c ρ = .ok rv) (k : ∀ v H' F' A, Gr H F H' F' → RVOk K H0 H' F' σ ρ v A rv → (∀ a ∈ A, H a = none) → Q v H') : rdE K mg c W σ H Q :=
  ⟨H0, F0, F, ρ, s, by rw [h]; exact k⟩
theorem rdE_err {c : EC} {x : Exn} {Q : VK} (s : SR K H0 F0 σ H F ρ) (h : c ρ = .err x) (k : ∀ cls d H' F', Gr H F H' F' → XOk K mg F' H' cls d x → W cls d σ H') : rdE K mg c W σ H Q :=
  ⟨H0, F0, F, ρ, s, by rw [h]; exact k⟩
theorem rdT_ok {c : TC} {b : Bool} {Q : Bool → Hp → Prop} (s : SR K H0 F0 σ H F ρ) (h : c ρ = .ok b) (k : ∀ H' F', Gr H F H' F' → Q b H') : rdT K mg c W σ H Q :=
  ⟨H0, F0, F, ρ, s, by rw [h]; exact k⟩
theorem rdT_err {c : TC} {x : Exn} {Q : Bool → Hp → Prop} (s : SR K H0 F0 σ H F ρ) (h : c ρ = .err x) (k : ∀ cls d H' F', Gr H F H' F' → XOk K mg F' H' cls d x → W cls d σ H') : rdT K mg c W σ H Q :=
  ⟨H0, F0, F, ρ, s, by rw [h]; exact k⟩
theorem rdA_ok {c : List EC} {rvs : List RV} {Q : List V → Hp → Prop} (s : SR K H0 F0 σ H F ρ) (h : evalAll c ρ = .ok rvs) (k : ∀ vs H' F' A, Gr H F H' F' → RVs K H0 H' F' σ ρ vs A rvs → (∀ a ∈ A, H a = none) → Q vs H') : rdA K mg c W σ H Q :=
  ⟨H0, F0, F, ρ, s, by rw [h]; exact k⟩
theorem rdA_err {c : List EC} {x : Exn} {Q : List V → Hp → Prop} (s : SR K H0 F0 σ H F ρ) (h : evalAll c ρ = .err x) (k : ∀ cls d H' F', Gr H F H' F' → XOk K mg F' H' cls d x → W cls d σ H') : rdA K mg c W σ H Q :=
  ⟨H0, F0, F, ρ, s, by rw [h]; exact k⟩
theorem SR.refl (s : SR K H0 F0 σ H F ρ) : Gr H F H F := Gr.refl s.sub
/-- the continuation of a scalar -/
theorem fin_d {d : D} {Q : VK} (s : SR K H0 F0 σ H F ρ) (hd : scal d = true)
    (k : ∀ v H' F' A, Gr H F H' F' → RVOk K H0 H' F' σ ρ v A (.val (.fz d)) → (∀ a ∈ A, H a = none) → Q v H') : Q (vOf d) H :=
  k _ _ _ [] s.refl (OR.fz (Rp.scal F hd)) fun _ h => by cases h
end

/-! ### names, constants -/
section
variable {X : Cx}
theorem eok_var {i : Nat} {x : Str} {pos : Pos} (hN : X.N[i]? = some x) (hv : Vis X.env.scope x) (hd : (x == ("__debug__" : Str)) = false := by decide) (hcd : (x == ("__classdict__" : Str)) = false := by decide) : EOk X (.Name x pos) (eVar i) := fun W tk =>
  pe_mono (pe_var hN hv hd hcd) fun σ H Q h => by
    obtain ⟨H0, F0, F, ρ, s, h⟩ := h
    obtain ⟨A, hA, _⟩ := s.sl
    have hi := hA i
    unfold eVar at h
    cases e : ρ[i]? with
    | none => rw [e] at h; exact h.elim
    | some o =>
      cases o with
      | none => rw [e] at h; exact h.elim
      | some sl =>
        rw [e] at h hi
        cases sl with
        | own ow =>
          obtain ⟨v, e1, o, _⟩ := hi
          cases ow with
          | fz d => exact ⟨v, e1, h v H F [] s.refl (OR.fz o.fz_inv.2) fun _ z => by cases z⟩
          | ls xs => exact ⟨v, e1, h v H F [] s.refl ⟨rfl, ⟨v, e1, rfl⟩, ⟨_, e, rfl⟩, _, o⟩ fun _ z => by cases z⟩
          | tp xs => exact ⟨v, e1, h v H F [] s.refl ⟨rfl, ⟨v, e1, rfl⟩, ⟨_, e, rfl⟩, _, o⟩ fun _ z => by cases z⟩
        | bor d =>
          obtain ⟨_, v, e1, o⟩ := hi
          refine ⟨v, e1, ?_⟩
          by_cases hs : scal d = true
          · simp only [Sl.rv, hs, if_true] at h
            have ev := o.scal_eq hs
            subst ev
            exact h _ H F [] s.refl (OR.fz (Rp.scal F hs)) fun _ z => by cases z
          · simp only [Sl.rv, hs] at h
            exact h v H F [] s.refl ⟨rfl, o⟩ fun _ z => by cases z
theorem eok_k {e : Expr} {d : D} (hd : scal d = true) (h : PE X e (tC (vOf d))) : EOk X e (eK d) := fun W tk => pe_mono h fun σ H Q q => by
  obtain ⟨H0, F0, F, ρ, s, q⟩ := q
  exact fin_d s hd q
theorem eok_int {i j pos} : EOk X (.Constant (.int i) j pos) (eK (.int i)) := eok_k rfl pe_int
theorem eok_bool {b j pos} : EOk X (.Constant (.bool b) j pos) (eK (.bool b)) := eok_k rfl pe_bl
theorem eok_none {j pos} : EOk X (.Constant .none j pos) (eK .none) := eok_k rfl pe_non
theorem eok_str {x j pos} : EOk X (.Constant (.str x) j pos) (eK (.str x)) := eok_k rfl pe_str
/-- a module's number -/
theorem eok_glob {x : Str} {d : D} {u : Value} {pos : Pos} (hd : scal d = true) (hm : X.mg x = some u) (r : RelV (vOf d) u) (hg : Gl X x := by rfl) (hdb : (x == ("__debug__" : Str)) = false := by decide) : EOk X (.Name x pos) (eK d) := eok_k hd (pe_glob hg hm r hdb)

/-! ### two values, one value -/
/-- by values: what the rule R asks is answered by f -/
def Op2 (X : Cx) (R : R2) (f : RV → RV → Res RV) : Prop := ∀ {H0 F0 F H : Hp} {σ : S} {ρ : Rho} {x y : V} {A B : List Addr} {rx ry : RV} {Q : VK}, SR X.K H0 F0 σ H F ρ → RVOk X.K H0 H F σ ρ x A rx → RVOk X.K H0 H F σ ρ y B ry → (∀ a ∈ A, a ∉ B) →
  match f rx ry with
  | .ok rv => (∀ v H' F' C, Gr H F H' F' → RVOk X.K H0 H' F' σ ρ v C rv → (∀ c ∈ C, c ∈ A ∨ c ∈ B ∨ H c = none) → Q v H') → R x y H Q
  | .err _ => False
  | .stuck => True
def Op1 (X : Cx) (R : V → Hp → VK → Prop) (f : RV → Res RV) : Prop := ∀ {H0 F0 F H : Hp} {σ : S} {ρ : Rho} {x : V} {A : List Addr} {rx : RV} {Q : VK}, SR X.K H0 F0 σ H F ρ → RVOk X.K H0 H F σ ρ x A rx →
  match f rx with
  | .ok rv => (∀ v H' F' C, Gr H F H' F' → RVOk X.K H0 H' F' σ ρ v C rv → (∀ c ∈ C, c ∈ A ∨ H c = none) → Q v H') → R x H Q
  | .err _ => False
  | .stuck => True
theorem eok_bin {e a b : Expr} {ca cb : EC} {R : R2} {f : RV → RV → Res RV} (he : ∀ ta tb, PE X a ta → PE X b tb → PE X e (tOp R ta tb)) (ho : Op2 X R f) (ha : EOk X a ca) (hb : EOk X b cb) : EOk X e (eBin f ca cb) := fun W tk =>
  pe_mono (he _ _ (ha W tk) (hb W tk)) fun σ H Q h => by
    obtain ⟨H0, F0, F, ρ, s, h⟩ := h
    show rdE X.K X.mg ca W σ H fun x H1 => rdE X.K X.mg cb W σ H1 fun y H2 => R x y H2 Q
    unfold eBin at h
    cases e1 : ca ρ with
    | stuck => rw [e1] at h; exact h.elim
    | err x => rw [e1] at h; exact rdE_err s e1 h
    | ok rx =>
      rw [e1] at h
      refine rdE_ok s e1 fun x H1 F1 A g1 o1 n1 => ?_
      have s1 := s.step g1
      cases e2 : cb ρ with
      | stuck => simp only [Res.bind, e2] at h
      | err z =>
        simp only [Res.bind, e2] at h
        exact rdE_err s1 e2 fun cls d H' F' g => h cls d H' F' (g1.trans g)
      | ok ry =>
        simp only [Res.bind, e2] at h
        refine rdE_ok s1 e2 fun y H2 F2 B g2 o2 n2 => ?_
        have s2 := s1.step g2
        have o1' := o1.gr g2
        have dis : ∀ a ∈ A, a ∉ B := fun a ha hb => (o1.there a ha).1 (n2 a hb)
        have op := ho (Q := Q) s2 o1' o2 dis
        cases e3 : f rx ry with
        | stuck => rw [e3] at h; exact h.elim
        | err z => rw [e3] at op; exact op.elim
        | ok rv =>
          rw [e3] at h op
          refine op fun v H' F' C g o n => h v H' F' C ((g1.trans g2).trans g) o fun c hc => ?_
          rcases n c hc with z | z | z
          · exact n1 c z
          · exact g1.hh.none (n2 c z)
          · exact (g1.trans g2).hh.none z
theorem eok_un {e a : Expr} {ca : EC} {R : V → Hp → VK → Prop} {f : RV → Res RV} (he : ∀ ta, PE X a ta → PE X e (tUn R ta)) (ho : Op1 X R f) (ha : EOk X a ca) : EOk X e (eUn f ca) := fun W tk =>
  pe_mono (he _ (ha W tk)) fun σ H Q h => by
    obtain ⟨H0, F0, F, ρ, s, h⟩ := h
    show rdE X.K X.mg ca W σ H fun x H1 => R x H1 Q
    unfold eUn at h
    cases e1 : ca ρ with
    | stuck => rw [e1] at h; exact h.elim
    | err x => rw [e1] at h; exact rdE_err s e1 h
    | ok rx =>
      rw [e1] at h
      simp only [Res.bind] at h
      refine rdE_ok s e1 fun x H1 F1 A g1 o1 n1 => ?_
      have op := ho (Q := Q) (s.step g1) o1
      cases e3 : f rx with
      | stuck => rw [e3] at h; exact h.elim
      | err z => rw [e3] at op; exact op.elim
      | ok rv =>
        rw [e3] at h op
        refine op fun v H' F' C g o n => h v H' F' C (g1.trans g) o fun c hc => ?_
        rcases n c hc with z | z
        · exact n1 c z
        · exact g1.hh.none z

/-! ### operators of ints -/
theorem rp_int {K : Frag} {H : Hp} {v : V} {i : Int} (h : Rp K H v (.int i)) : v = .int i := by cases h; rfl
section
variable {H0 F0 F H : Hp} {σ : S} {ρ : Rho}
theorem op2_i {R : R2} {f : RV → RV → Res RV} (g : Int → Int → D) (C : Int → Int → Bool) (hg : ∀ i j, scal (g i j) = true) (hf : ∀ x y, f x y = match x.d, y.d with
      | .int i, .int j => if C i j = true then rD (g i j) else .stuck
      | _, _ => .stuck) (hR : ∀ i j H Q, C i j = true → Q (vOf (g i j)) H → R (.int i) (.int j) H Q) : Op2 X R f := by
  intro H0 F0 F H σ ρ x y A B rx ry Q s hx hy dis
  rw [hf]
  have px := hx.dp s
  have py := hy.dp s
  cases ex : rx.d with
  | int i =>
    cases ey : ry.d with
    | int j =>
      rw [ex] at px
      rw [ey] at py
      have e1 := rp_int px
      have e2 := rp_int py
      subst e1; subst e2
      by_cases hc : C i j = true
      · simp only [hc, if_true, rD]
        intro k
        exact hR i j H Q hc (fin_d s (hg i j) fun v H' F' A' g o n => k v H' F' A' g o fun c hc => .inr (.inr (n c hc)))
      · simp only [hc]
        trivial
    | _ => trivial
  | _ =>
    cases ry.d <;> trivial
end
end
end VL

set_option Elab.async false
set_option linter.all false
set_option maxRecDepth 100000
set_option maxHeartbeats 4000000
/-! VL4: operators, comparisons, built-in functions, subscripts, displays, calls. -/
namespace VL
open PySem PySem.Spec PyProof.Rows L2

/-! ### items -/
theorem ORs.allfz {K : Frag} {H F : Hp} : ∀ {xs : List Ow} {vs : List V} {A : List Addr}, ORs K H F vs xs A → xs.all isFz = true → A = [] ∧ RpAll K F vs (toDs xs)
  | [], _, _, .nil, _ => ⟨rfl, .nil⟩
  | x :: xs, _, _, .cons h1 h2 h3, e => by
    simp only [List.all_cons, Bool.and_eq_true] at e
    obtain ⟨e1, e2⟩ := e
    obtain ⟨r1, r2⟩ := ORs.allfz h2 e2
    cases x with
    | fz d =>
      obtain ⟨q1, q2⟩ := h1.fz_inv
      subst q1; subst r1
      exact ⟨rfl, .cons q2 r2⟩
    | ls _ => cases e1
    | tp _ => cases e1
section
variable {K : Frag} {mg : Str → Option Value} {W : WX} {σ : S} {H H0 F0 F : Hp} {ρ : Rho}
theorem items_ok {v : V} {A : List Addr} {rv : RV} {xs : List Ow} (s : SR K H0 F0 σ H F ρ) (h : RVOk K H0 H F σ ρ v A rv) (e : rv.items = some xs) :
    ∃ a vs B, v = .ref a ∧ ((isL rv.d = true ∧ LK K H a vs) ∨ (isT rv.d = true ∧ SqT K H a vs)) ∧ ORs K H F vs xs B ∧ ∀ b ∈ B, b ∈ A := by
  match rv, h, e with
  | .val (.fz (.list ds)), h, e =>
    cases e
    obtain ⟨_, r⟩ := OR.fz_inv h
    cases r with
    | lst r ra => exact ⟨_, _, [], rfl, .inl ⟨rfl, s.sub.lk r⟩, ORs.ofDp ra, fun _ z => by cases z⟩
  | .val (.fz (.tuple ds)), h, e =>
    cases e
    obtain ⟨_, r⟩ := OR.fz_inv h
    cases r with
    | tup r ra => exact ⟨_, _, [], rfl, .inr ⟨rfl, s.sub.sqT r⟩, ORs.ofDp ra, fun _ z => by cases z⟩
  | .val (.ls ys), h, e =>
    cases e
    obtain ⟨a, vs, B, rfl, rfl, h1, h2, h3, h4⟩ := OR.ls_inv h
    exact ⟨a, vs, B, rfl, .inl ⟨rfl, .of h1⟩, h4, fun b hb => List.mem_cons_of_mem _ hb⟩
  | .val (.tp ys), h, e =>
    cases e
    obtain ⟨a, vs, B, rfl, rfl, h1, h2, h3, h4⟩ := OR.tp_inv h
    exact ⟨a, vs, B, rfl, .inr ⟨rfl, .of h1⟩, h4, fun b hb => List.mem_cons_of_mem _ hb⟩
  | .ref i p (.ls ys), ⟨_, _, _, B, h⟩, e =>
    unfold RV.items at e
    by_cases hf : ys.all isFz = true
    · simp only [hf, if_true] at e
      cases e
      obtain ⟨a, vs, B, rfl, rfl, h1, h2, h3, h4⟩ := OR.ls_inv h
      obtain ⟨e1, _⟩ := h4.allfz hf
      subst e1
      exact ⟨a, vs, [], rfl, .inl ⟨rfl, .of h1⟩, h4, fun _ z => by cases z⟩
    · simp only [hf] at e
      cases e
  | .ref i p (.tp ys), ⟨_, _, _, B, h⟩, e =>
    unfold RV.items at e
    by_cases hf : ys.all isFz = true
    · simp only [hf, if_true] at e
      cases e
      obtain ⟨a, vs, B, rfl, rfl, h1, h2, h3, h4⟩ := OR.tp_inv h
      obtain ⟨e1, _⟩ := h4.allfz hf
      subst e1
      exact ⟨a, vs, [], rfl, .inr ⟨rfl, .of h1⟩, h4, fun _ z => by cases z⟩
    · simp only [hf] at e
      cases e
  | .bor (.list ds), ⟨_, h⟩, e =>
    unfold RV.items at e
    by_cases hf : ds.all scal = true
    · simp only [hf, if_true] at e
      cases e
      cases h with
      | lst r ra =>
        have ev := ra.scal_eq hf
        subst ev
        exact ⟨_, _, [], rfl, .inl ⟨rfl, s.gr.hh.lk r⟩, ORs.ofDp (RpAll.scal F hf), fun _ z => by cases z⟩
    · simp only [hf] at e
      cases e
  | .bor (.tuple ds), ⟨_, h⟩, e =>
    unfold RV.items at e
    by_cases hf : ds.all scal = true
    · simp only [hf, if_true] at e
      cases e
      cases h with
      | tup r ra =>
        have ev := ra.scal_eq hf
        subst ev
        exact ⟨_, _, [], rfl, .inr ⟨rfl, s.gr.hh.sqT r⟩, ORs.ofDp (RpAll.scal F hf), fun _ z => by cases z⟩
    · simp only [hf] at e
      cases e
/-- a new list, a new tuple -/
theorem fin_ls {p : Addr} {vs : List V} {xs : List Ow} {B : List Addr} (s : SR K H0 F0 σ H F ρ) (o : ORs K H F vs xs B) (hp : H p = none) :
    Gr H F (upd H p (.lst vs)) F ∧ RVOk K H0 (upd H p (.lst vs)) F σ ρ (.ref p) (p :: B) (.val (.ls xs)) := by
  have g : Gr H F (upd H p (.lst vs)) F := Gr.laid s.sub hp
  refine ⟨g, OR.ls upd_same (s.sub.none hp) (fun hb => ?_) (o.gr g)⟩
  exact (o.there p hb).1 hp
theorem fin_tup {p : Addr} {vs : List V} {xs : List Ow} {B : List Addr} (s : SR K H0 F0 σ H F ρ) (o : ORs K H F vs xs B) (hp : H p = none) :
    ∃ F' C, Gr H F (upd H p (.tup vs)) F' ∧ RVOk K H0 (upd H p (.tup vs)) F' σ ρ (.ref p) C (.val (mkTup xs)) ∧ ∀ c ∈ C, c = p ∨ c ∈ B := by
  have g : Gr H F (upd H p (.tup vs)) F := Gr.laid s.sub hp
  have fp := s.sub.none hp
  unfold mkTup
  by_cases hf : xs.all isFz = true
  · obtain ⟨_, ra⟩ := o.allfz hf
    have g2 := g.frozen (A := [p]) (fun a h => by simp at h; subst h; exact hp) (fun a h => by simp at h; subst h; exact fp)
    refine ⟨_, [], g2, ?_, fun _ h => by cases h⟩
    rw [if_pos hf]
    exact OR.fz (.tup (.of (by rw [frz_in (by simp)]; exact upd_same)) (ra.mono g2.ff))
  · refine ⟨F, p :: B, g, ?_, fun c hc => List.mem_cons.mp hc⟩
    rw [if_neg hf]
    exact OR.tp upd_same fp (fun hb => (o.there p hb).1 hp) (o.gr g)
end

/-! ### operators -/
section
variable {X : Cx}
theorem rd_lstM {pins : List (Addr × Obj)} {σ : S} {H : Hp} {s : Shared} {l : Addr} {xs : List V} (I : Inv X pins σ H s) (h : LK X.K H l xs) :
    xs.length ≤ sizeLine ∧ ∃ (its : List Value) (n : Nat), Vals xs its ∧ xs.length = its.length ∧ s.heap.get? l = some { cls := .type "list", data := .seq its.toArray n } := by
  rcases h with h | ⟨its, n, hk, hz, r⟩
  · obtain ⟨z, its, n, r, e⟩ := h.ok I.hok
    exact ⟨z, its, n, r, r.length, e⟩
  · have e := r.length
    exact ⟨by rw [e]; simpa using hz, its.toList, n, r, e, by simpa using I.kIn l _ hk⟩
def rCatR (K : Frag) : R2 := fun x y H Q => ∃ l b xs zs, x = .ref l ∧ y = .ref b ∧ LK K H l xs ∧ LK K H b zs ∧ xs.length + zs.length ≤ sizeLine ∧ ∀ p, H p = none → Q (.ref p) (upd H p (.lst (xs ++ zs)))
theorem op_catR : OpR X (binaryOp .Add) (rCatR X.K) := by
  intro pins s σ H x y v u Q I rx ry h
  obtain ⟨l, b, xs, zs, rfl, rfl, hH, hB, hz, q⟩ := h
  cases rx
  cases ry
  obtain ⟨z, its, n, r, hl, e⟩ := rd_lstM I hH
  obtain ⟨z2, its2, n2, r2, hl2, e2⟩ := rd_lstM I hB
  refine PySem.P.add_list e e2 ?_ (by rw [List.size_toArray, List.size_toArray]; omega)
  have ea : its.toArray ++ its2.toArray = (its ++ its2).toArray := by simp
  rw [ea]
  exact ⟨.ref _, _, I.lnew (t' := s.toks) (r.append r2) (by rw [List.length_append]; omega), rfl, q _ I.fresh⟩
def rAddV (K : Frag) : R2 := fun x y H Q => (rI0 (fun i j => .int (i + j)) x y H Q ∨ rCatR K x y H Q) ∨ ∃ i j, x = .str i ∧ y = .str j ∧ i.length + j.length ≤ sizeLine ∧ Q (.str (i ++ j)) H
theorem rp_str {K : Frag} {H : Hp} {v : V} {x : Str} (h : Rp K H v (.str x)) : v = .str x := by cases h; rfl
theorem op2_add : Op2 X (rAddV X.K) fAdd := by
  intro H0 F0 F H σ ρ x y A B rx ry Q s hx hy dis
  unfold fAdd
  have px := hx.dp s
  have py := hy.dp s
  cases ex : rx.d with
  | int i =>
    cases ey : ry.d with
    | int j =>
      rw [ex] at px; rw [ey] at py
      obtain rfl := rp_int px
      obtain rfl := rp_int py
      intro k
      exact .inl (.inl ⟨i, j, rfl, rfl, fin_d s (d := .int (i + j)) rfl fun v H' F' A' g o n => k v H' F' A' g o fun c hc => .inr (.inr (n c hc))⟩)
    | _ => trivial
  | str i =>
    cases ey : ry.d with
    | str j =>
      rw [ex] at px; rw [ey] at py
      obtain rfl := rp_str px
      obtain rfl := rp_str py
      by_cases hc : i.length + j.length ≤ 16777216
      · simp only [hc, if_true, rD]
        intro k
        exact .inr ⟨i, j, rfl, rfl, by rw [sizeLine_eq]; exact hc, fin_d s (d := .str (i ++ j)) rfl fun v H' F' A' g o n => k v H' F' A' g o fun c hc => .inr (.inr (n c hc))⟩
      · simp only [hc]
        trivial
    | _ => trivial
  | list ds =>
    cases ey : ry.d with
    | list es =>
      simp only [catL]
      cases e1 : rx.items with
      | none => trivial
      | some xs =>
        cases e2 : ry.items with
        | none => trivial
        | some ys =>
          by_cases hc : xs.length + ys.length ≤ 16777216
          · simp only [hc, if_true]
            intro k
            obtain ⟨a, vs, A', rfl, ha, oa, na⟩ := items_ok s hx e1
            obtain ⟨b, ws, B', rfl, hb, ob, nb⟩ := items_ok s hy e2
            rw [ex] at ha; rw [ey] at hb
            rcases ha with ⟨_, ha⟩ | ⟨z, _⟩
            · rcases hb with ⟨_, hb⟩ | ⟨z, _⟩
              · refine .inl (.inr ⟨a, b, vs, ws, rfl, rfl, ha, hb, by rw [oa.length, ob.length, sizeLine_eq]; exact hc, fun p hp => ?_⟩)
                have o2 := oa.append ob fun z h1 h2 => dis z (na z h1) (nb z h2)
                obtain ⟨g, o⟩ := fin_ls s o2 hp
                refine k _ _ _ _ g o fun c hc => ?_
                rcases List.mem_cons.mp hc with rfl | hc
                · exact .inr (.inr hp)
                · rcases List.mem_append.mp hc with q | q
                  · exact .inl (na c q)
                  · exact .inr (.inl (nb c q))
              · cases z
            · cases z
          · simp only [hc]
            trivial
    | _ => trivial
  | _ =>
    cases ry.d <;> trivial
theorem opR_add : OpR X (binaryOp .Add) (rAddV X.K) := (op_add.or op_catR).or op_add_str
variable {a b : Expr} {ca cb : EC} {pos : Pos}
theorem eok_add (ha : EOk X a ca) (hb : EOk X b cb) : EOk X (.BinOp a .Add b pos) (eBin fAdd ca cb) := eok_bin (fun _ _ h1 h2 => pe_op opR_add h1 h2) op2_add ha hb
theorem op2_sub : Op2 X (rI0 fun i j => .int (i - j)) fSub := op2_i (fun i j => .int (i - j)) (fun _ _ => true) (fun _ _ => rfl) (fun x y => by unfold fSub; split <;> simp_all) fun i j H Q _ q => ⟨i, j, rfl, rfl, q⟩
theorem eok_sub (ha : EOk X a ca) (hb : EOk X b cb) : EOk X (.BinOp a .Sub b pos) (eBin fSub ca cb) := eok_bin (fun _ _ h1 h2 => pe_op op_sub h1 h2) op2_sub ha hb
theorem op2_mul : Op2 X (rI CMul fun i j => .int (i * j)) fMul := op2_i (fun i j => .int (i * j)) mulOk (fun _ _ => rfl) (fun x y => by unfold fMul; split <;> simp_all) fun i j H Q h q => ⟨i, j, rfl, rfl, by
  simp only [mulOk, Bool.or_eq_true, Bool.and_eq_true, decide_eq_true_eq] at h
  exact h, q⟩
theorem eok_mul (ha : EOk X a ca) (hb : EOk X b cb) : EOk X (.BinOp a .Mult b pos) (eBin fMul ca cb) := eok_bin (fun _ _ h1 h2 => pe_op op_mul h1 h2) op2_mul ha hb
theorem op2_div : Op2 X (rI CDiv fun i j => .int (i / j)) fDiv := op2_i (fun i j => .int (i / j)) (fun _ j => decide (0 < j ∧ j < 1073741824)) (fun _ _ => rfl) (fun x y => by unfold fDiv; split <;> simp_all) fun i j H Q h q => ⟨i, j, rfl, rfl, by (first | unfold CDiv | unfold CPow); exact of_decide_eq_true h, q⟩
theorem eok_div (ha : EOk X a ca) (hb : EOk X b cb) : EOk X (.BinOp a .FloorDiv b pos) (eBin fDiv ca cb) := eok_bin (fun _ _ h1 h2 => pe_op op_fdiv h1 h2) op2_div ha hb
theorem op2_mod : Op2 X (rI (fun _ j => 0 < j) fun i j => .int (i % j)) fMod := op2_i (fun i j => .int (i % j)) (fun _ j => decide (0 < j)) (fun _ _ => rfl) (fun x y => by unfold fMod; split <;> simp_all) fun i j H Q h q => ⟨i, j, rfl, rfl, of_decide_eq_true h, q⟩
theorem eok_mod (ha : EOk X a ca) (hb : EOk X b cb) : EOk X (.BinOp a .Mod b pos) (eBin fMod ca cb) := eok_bin (fun _ _ h1 h2 => pe_op op_mod h1 h2) op2_mod ha hb
theorem op2_pow : Op2 X (rI CPow fun i j => .int (i ^ j.toNat)) fPow := op2_i (fun i j => .int (i ^ j.toNat)) (fun i j => decide (0 ≤ j ∧ j ≤ 1000000 ∧ i.natAbs < 2 ^ 64)) (fun _ _ => rfl) (fun x y => by unfold fPow; split <;> simp_all) fun i j H Q h q => ⟨i, j, rfl, rfl, by (first | unfold CDiv | unfold CPow); exact of_decide_eq_true h, q⟩
theorem eok_pow (ha : EOk X a ca) (hb : EOk X b cb) : EOk X (.BinOp a .Pow b pos) (eBin fPow ca cb) := eok_bin (fun _ _ h1 h2 => pe_op op_pow h1 h2) op2_pow ha hb
theorem op2_shl : Op2 X (rI CPow fun i j => .int (i * 2 ^ j.toNat)) fShl := op2_i (fun i j => .int (i * 2 ^ j.toNat)) (fun i j => decide (0 ≤ j ∧ j ≤ 1000000 ∧ i.natAbs < 2 ^ 64)) (fun _ _ => rfl) (fun x y => by unfold fShl; split <;> simp_all) fun i j H Q h q => ⟨i, j, rfl, rfl, by (first | unfold CDiv | unfold CPow); exact of_decide_eq_true h, q⟩
theorem eok_shl (ha : EOk X a ca) (hb : EOk X b cb) : EOk X (.BinOp a .LShift b pos) (eBin fShl ca cb) := eok_bin (fun _ _ h1 h2 => pe_op op_shl h1 h2) op2_shl ha hb
/-- comparisons of ints -/
theorem op2_lt : Op2 X (rI0 fun i j => .bl (decide (i < j))) fLt := op2_i (fun i j => .bool (decide (i < j))) (fun _ _ => true) (fun _ _ => rfl) (fun x y => by unfold fLt; split <;> simp_all) fun i j H Q _ q => ⟨i, j, rfl, rfl, q⟩
theorem op2_le : Op2 X (rI0 fun i j => .bl (decide (i ≤ j))) fLe := op2_i (fun i j => .bool (decide (i ≤ j))) (fun _ _ => true) (fun _ _ => rfl) (fun x y => by unfold fLe; split <;> simp_all) fun i j H Q _ q => ⟨i, j, rfl, rfl, q⟩
theorem op2_gt : Op2 X (rI0 fun i j => .bl (decide (j < i))) fGt := op2_i (fun i j => .bool (decide (j < i))) (fun _ _ => true) (fun _ _ => rfl) (fun x y => by unfold fGt; split <;> simp_all) fun i j H Q _ q => ⟨i, j, rfl, rfl, q⟩
theorem op2_ge : Op2 X (rI0 fun i j => .bl (decide (j ≤ i))) fGe := op2_i (fun i j => .bool (decide (j ≤ i))) (fun _ _ => true) (fun _ _ => rfl) (fun x y => by unfold fGe; split <;> simp_all) fun i j H Q _ q => ⟨i, j, rfl, rfl, q⟩
/-- == of data -/
theorem op2_eq : Op2 X (rEqD X.K) fEq := by
  intro H0 F0 F H σ ρ x y A B rx ry Q s hx hy dis
  unfold fEq
  by_cases hc : SeqAt.shaped rx.d = true ∧ SeqAt.shaped ry.d = true
  · simp only [hc, and_self, if_true, rD]
    intro k
    exact ⟨rx.d, ry.d, (hx.dp s).dp, (hy.dp s).dp, hc.1, hc.2, fin_d s (d := .bool _) rfl fun v H' F' A' g o n => k v H' F' A' g o fun c hc => .inr (.inr (n c hc))⟩
  · simp only [hc]
    trivial
theorem op2_ne : Op2 X (rNeD X.K) fNe := by
  intro H0 F0 F H σ ρ x y A B rx ry Q s hx hy dis
  unfold fNe
  by_cases hc : SeqAt.shaped rx.d = true ∧ SeqAt.shaped ry.d = true
  · simp only [hc, and_self, if_true, rD]
    intro k
    exact ⟨rx.d, ry.d, (hx.dp s).dp, (hy.dp s).dp, hc.1, hc.2, fin_d s (d := .bool _) rfl fun v H' F' A' g o n => k v H' F' A' g o fun c hc => .inr (.inr (n c hc))⟩
  · simp only [hc]
    trivial
theorem inV_eq (d : D) : ∀ ds : List D, inV (vOf d) (ds.map vOf) = ds.any fun e => eqF e d
  | [] => rfl
  | e :: es => by
    show (eqV (vOf e) (vOf d) || inV (vOf d) (es.map vOf)) = (eqF e d || es.any fun e => eqF e d)
    rw [inV_eq d es]; rfl
theorem rowOf_rp {K : Frag} {H : Hp} {v : V} {d : D} {ds : List D} (h : Rp K H v d) (e : rowOf d = some ds) : ∃ a vs, v = .ref a ∧ (SqL K H a vs ∨ SqT K H a vs) ∧ RpAll K H vs ds := by
  cases h with
  | lst r ra => cases e; exact ⟨_, _, rfl, .inl (r.sqL), ra⟩
  | tup r ra => cases e; exact ⟨_, _, rfl, .inr r, ra⟩
  | _ => cases e
theorem op2_in : Op2 X (rIn X.K false) fIn := by
  intro H0 F0 F H σ ρ x y A B rx ry Q s hx hy dis
  unfold fIn
  cases e : rowOf ry.d with
  | none => trivial
  | some ds =>
    by_cases hc : scal rx.d = true ∧ ds.all scal = true
    · simp only [hc, and_self, if_true, rD]
      intro k
      obtain ⟨a, vs, rfl, hq, ra⟩ := rowOf_rp (hy.dp s) e
      have ex := (hx.dp s).scal_eq hc.1
      refine ⟨a, vs, rfl, hq, (hx.dp s).flat hc.1, ra.flat hc.2, ?_⟩
      rw [ex, ra.scal_eq hc.2]
      show Q (.bl (inV (vOf rx.d) (ds.map vOf))) H
      rw [inV_eq]
      exact fin_d s (d := .bool _) rfl fun v H' F' A' g o n => k v H' F' A' g o fun c hc => .inr (.inr (n c hc))
    · simp only [hc]
      trivial
theorem op2_notIn : Op2 X (rIn X.K true) fNotIn := by
  intro H0 F0 F H σ ρ x y A B rx ry Q s hx hy dis
  unfold fNotIn
  cases e : rowOf ry.d with
  | none => trivial
  | some ds =>
    by_cases hc : scal rx.d = true ∧ ds.all scal = true
    · simp only [hc, and_self, if_true, rD]
      intro k
      obtain ⟨a, vs, rfl, hq, ra⟩ := rowOf_rp (hy.dp s) e
      have ex := (hx.dp s).scal_eq hc.1
      refine ⟨a, vs, rfl, hq, (hx.dp s).flat hc.1, ra.flat hc.2, ?_⟩
      rw [ex, ra.scal_eq hc.2]
      show Q (.bl (!inV (vOf rx.d) (ds.map vOf))) H
      rw [inV_eq]
      exact fin_d s (d := .bool _) rfl fun v H' F' A' g o n => k v H' F' A' g o fun c hc => .inr (.inr (n c hc))
    · simp only [hc]
      trivial
theorem Rp.isNone {K : Frag} {H : Hp} {v : V} {d : D} (h : Rp K H v d) : decide (v = .non) = isN d := by
  cases h with
  | non => rfl
  | _ => exact decide_eq_false (fun q => by cases q)
theorem pe_un_isN {a : Expr} {j pos'} (ta : TE) (ha : PE X a ta) : PE X (.Compare a [.Is] [.Constant .none j pos'] pos) (tUn (fun x H Q => Q (.bl (decide (x = .non))) H) ta) := pe_cmp (pc_isN ha)
theorem pe_un_notN {a : Expr} {j pos'} (ta : TE) (ha : PE X a ta) : PE X (.Compare a [.IsNot] [.Constant .none j pos'] pos) (tUn (fun x H Q => Q (.bl (!decide (x = .non))) H) ta) := pe_cmp (pc_notN ha)
theorem pt_un_isN {a : Expr} {j pos'} (ta : TE) (ha : PE X a ta) : PT X (.Compare a [.Is] [.Constant .none j pos'] pos) (tTest (tUn (fun x H Q => Q (.bl (decide (x = .non))) H) ta)) := pt_cmp (pc_isN ha)
theorem pt_un_notN {a : Expr} {j pos'} (ta : TE) (ha : PE X a ta) : PT X (.Compare a [.IsNot] [.Constant .none j pos'] pos) (tTest (tUn (fun x H Q => Q (.bl (!decide (x = .non))) H) ta)) := pt_cmp (pc_notN ha)
theorem op1_isN : Op1 X (fun x H Q => Q (.bl (decide (x = .non))) H) fIsN := by
  intro H0 F0 F H σ ρ x A rx Q s hx k
  show Q (.bl (decide (x = .non))) H
  rw [(hx.dp s).isNone]
  exact fin_d s (d := .bool _) rfl fun v H' F' A' g o n => k v H' F' A' g o fun c hc => .inr (n c hc)
theorem op1_notN : Op1 X (fun x H Q => Q (.bl (!decide (x = .non))) H) fNotN := by
  intro H0 F0 F H σ ρ x A rx Q s hx k
  show Q (.bl (!decide (x = .non))) H
  rw [(hx.dp s).isNone]
  exact fin_d s (d := .bool _) rfl fun v H' F' A' g o n => k v H' F' A' g o fun c hc => .inr (n c hc)
theorem eok_isN {j pos'} (ha : EOk X a ca) : EOk X (.Compare a [.Is] [.Constant .none j pos'] pos) (eUn fIsN ca) := eok_un (fun ta h => pe_un_isN ta h) op1_isN ha
theorem eok_notN {j pos'} (ha : EOk X a ca) : EOk X (.Compare a [.IsNot] [.Constant .none j pos'] pos) (eUn fNotN ca) := eok_un (fun ta h => pe_un_notN ta h) op1_notN ha
/-- a comparison, by its rule -/
theorem eok_cmp {op : CmpOp} {R : R2} {f : RV → RV → Res RV} (ho : OpR X (compareOp op) R) (o2 : Op2 X R f) (ha : EOk X a ca) (hb : EOk X b cb) (hm : behindInMarks op b = false) : EOk X (.Compare a [op] [b] pos) (eBin f ca cb) :=
  eok_bin (fun _ _ h1 h2 => pe_cmpR ho h1 h2 hm) o2 ha hb

/-! ### tests -/
theorem rdT_B {K : Frag} {mg : Str → Option Value} {c : EC} {W : WX} {σ : S} {H : Hp} {Q : Bool → Hp → Prop} (h : rdT K mg (tB c) W σ H Q) : rdE K mg c W σ H (fun x H' => ∃ k, x = .bl k ∧ Q k H') := by
  obtain ⟨H0, F0, F, ρ, s, h⟩ := h
  unfold tB at h
  cases e : c ρ with
  | stuck => rw [e] at h; exact h.elim
  | err x => rw [e] at h; exact rdE_err s e h
  | ok rv =>
    rw [e] at h
    simp only [Res.bind] at h
    refine rdE_ok s e fun v H' F' A g o n => ?_
    have p := o.dp (s.step g)
    cases ed : rv.d with
    | bool b =>
      rw [ed] at p h
      cases p
      exact ⟨b, rfl, h H' F' g⟩
    | _ => rw [ed] at h; exact h.elim
theorem tok_of {e : Expr} {c : EC} (he : ∀ t, PE X e t → PT X e (tTest t)) (h : EOk X e c) : TOk X e (tB c) := fun W tk => pt_mono (he _ (h W tk)) fun σ H Q q => rdT_B q
theorem tok_val {e : Expr} {c : EC} (h : EOk X e c) (he : ∀ whole, isTrue e X.env whole = (do let v ← whole; standAt e.pos; holding [v] (truthy v)) := by intro _; rfl) : TOk X e (tB c) := tok_of (fun t ht => pt_val ht he) h
theorem bin_rd {K : Frag} {ca cb : EC} {R : R2} {f : RV → RV → Res RV} {W : WX} {σ : S} {H : Hp} {Q : VK} {mg : Str → Option Value} (hK : X.K = K) (o2 : Op2 X R f) (h : rdE K mg (eBin f ca cb) W σ H Q) : tOp R (rdE K mg ca W) (rdE K mg cb W) σ H Q := by
  subst hK
  obtain ⟨H0, F0, F, ρ, s, h⟩ := h
  show rdE X.K mg ca W σ H fun x H1 => rdE X.K mg cb W σ H1 fun y H2 => R x y H2 Q
  unfold eBin at h
  cases e1 : ca ρ with
  | stuck => rw [e1] at h; exact h.elim
  | err x => rw [e1] at h; exact rdE_err s e1 h
  | ok rx =>
    rw [e1] at h
    refine rdE_ok s e1 fun x H1 F1 A g1 o1 n1 => ?_
    have s1 := s.step g1
    cases e2 : cb ρ with
    | stuck => simp only [Res.bind, e2] at h
    | err z =>
      simp only [Res.bind, e2] at h
      exact rdE_err s1 e2 fun cls d H' F' g => h cls d H' F' (g1.trans g)
    | ok ry =>
      simp only [Res.bind, e2] at h
      refine rdE_ok s1 e2 fun y H2 F2 B g2 o2' n2 => ?_
      have s2 := s1.step g2
      have o1' := o1.gr g2
      have dis : ∀ a ∈ A, a ∉ B := fun a ha hb => (o1.there a ha).1 (n2 a hb)
      have op := o2 (Q := Q) s2 o1' o2' dis
      cases e3 : f rx ry with
      | stuck => rw [e3] at h; exact h.elim
      | err z => rw [e3] at op; exact op.elim
      | ok rv =>
        rw [e3] at h op
        refine op fun v H' F' C g o n => h v H' F' C ((g1.trans g2).trans g) o fun c hc => ?_
        rcases n c hc with z | z | z
        · exact n1 c z
        · exact g1.hh.none (n2 c z)
        · exact (g1.trans g2).hh.none z
theorem tok_cmp {op : CmpOp} {R : R2} {f : RV → RV → Res RV} (ho : OpR X (compareOp op) R) (o2 : Op2 X R f) (ha : EOk X a ca) (hb : EOk X b cb) (hm : behindInMarks op b = false) : TOk X (.Compare a [op] [b] pos) (tB (eBin f ca cb)) := fun W tk =>
  pt_mono (pt_cmpR ho (ha W tk) (hb W tk) hm) fun σ H Q q => bin_rd (X := X) rfl o2 (rdT_B q)
theorem un_rd {K : Frag} {ca : EC} {R : V → Hp → VK → Prop} {f : RV → Res RV} {W : WX} {σ : S} {H : Hp} {Q : VK} {mg : Str → Option Value} (hK : X.K = K) (o1 : Op1 X R f) (h : rdE K mg (eUn f ca) W σ H Q) : tUn R (rdE K mg ca W) σ H Q := by
  subst hK
  obtain ⟨H0, F0, F, ρ, s, h⟩ := h
  show rdE X.K mg ca W σ H fun x H1 => R x H1 Q
  unfold eUn at h
  cases e1 : ca ρ with
  | stuck => rw [e1] at h; exact h.elim
  | err x => rw [e1] at h; exact rdE_err s e1 h
  | ok rx =>
    rw [e1] at h
    simp only [Res.bind] at h
    refine rdE_ok s e1 fun x H1 F1 A g1 ox n1 => ?_
    have op := o1 (Q := Q) (s.step g1) ox
    cases e3 : f rx with
    | stuck => rw [e3] at h; exact h.elim
    | err z => rw [e3] at op; exact op.elim
    | ok rv =>
      rw [e3] at h op
      refine op fun v H' F' C g o n => h v H' F' C (g1.trans g) o fun c hc => ?_
      rcases n c hc with z | z
      · exact n1 c z
      · exact g1.hh.none z
theorem tok_isN {j pos'} (ha : EOk X a ca) : TOk X (.Compare a [.Is] [.Constant .none j pos'] pos) (tB (eUn fIsN ca)) := fun W tk => pt_mono (pt_un_isN _ (ha W tk)) fun σ H Q q => un_rd (X := X) rfl op1_isN (rdT_B q)
theorem tok_notN {j pos'} (ha : EOk X a ca) : TOk X (.Compare a [.IsNot] [.Constant .none j pos'] pos) (tB (eUn fNotN ca)) := fun W tk => pt_mono (pt_un_notN _ (ha W tk)) fun σ H Q q => un_rd (X := X) rfl op1_notN (rdT_B q)
/-- truth -/
theorem truv_of {K : Frag} {H : Hp} {v : V} {d : D} (h : Rp K H v d) (hs : ∀ x, d = .str x → x.length ≤ sizeLine) : TruV K v H (truthD d) := by
  cases h with
  | non => rfl
  | bl b => rfl
  | int i => rfl
  | str x => exact ⟨hs x rfl, by
      show (x.length != 0) = ((x.length : Int) != 0)
      cases x.length <;> rfl⟩
  | lst r ra =>
    refine .inl ⟨_, r.sqL, ?_⟩
    cases ra <;> rfl
  | tup r ra =>
    refine .inr (.inl ⟨_, r, ?_⟩)
    cases ra <;> rfl
def notStr : D → Bool
  | .str _ => false
  | _ => true
end
end VL

set_option Elab.async false
set_option linter.all false
set_option maxRecDepth 100000
set_option maxHeartbeats 4000000
/-! VL5: and, or, not, built-in functions, subscripts, displays, calls. -/
namespace VL
open PySem PySem.Spec PyProof.Rows L2
section
variable {X : Cx} {a b c : Expr} {ta tb : TC} {ca cb cc : EC} {rest : List Expr} {pos : Pos}
theorem wok_and1 (ha : TOk X a ta) : WOk X (.BoolOp .And [a] pos) ta := fun W tk => pw_and1 (ha W tk)
theorem wok_or1 (ha : TOk X a ta) : WOk X (.BoolOp .Or [a] pos) ta := fun W tk => pw_or1 (ha W tk)
theorem wok_and (ha : TOk X a ta) (hb : WOk X (.BoolOp .And (b :: rest) pos) tb) : WOk X (.BoolOp .And (a :: b :: rest) pos) (tAnd ta tb) := fun W tk =>
  pw_mono (pw_and (ha W tk) (hb W tk)) fun σ H Q h => by
    obtain ⟨H0, F0, F, ρ, s, h⟩ := h
    show rdT X.K X.mg ta W σ H fun c H1 => if c = true then rdT X.K X.mg tb W σ H1 Q else Q false H1
    unfold tAnd at h
    cases e1 : ta ρ with
    | stuck => rw [e1] at h; exact h.elim
    | err x => rw [e1] at h; exact rdT_err s e1 h
    | ok x =>
      rw [e1] at h
      refine rdT_ok s e1 fun H1 F1 g1 => ?_
      cases x with
      | false => exact h H1 F1 g1
      | true =>
        simp only [Res.bind, if_true] at h ⊢
        cases e2 : tb ρ with
        | stuck => rw [e2] at h; exact h.elim
        | err x => rw [e2] at h; exact rdT_err (s.step g1) e2 fun cls d H' F' g => h cls d H' F' (g1.trans g)
        | ok y => rw [e2] at h; exact rdT_ok (s.step g1) e2 fun H2 F2 g2 => h H2 F2 (g1.trans g2)
theorem wok_or (ha : TOk X a ta) (hb : WOk X (.BoolOp .Or (b :: rest) pos) tb) : WOk X (.BoolOp .Or (a :: b :: rest) pos) (tOr ta tb) := fun W tk =>
  pw_mono (pw_or (ha W tk) (hb W tk)) fun σ H Q h => by
    obtain ⟨H0, F0, F, ρ, s, h⟩ := h
    show rdT X.K X.mg ta W σ H fun c H1 => if c = true then Q true H1 else rdT X.K X.mg tb W σ H1 Q
    unfold tOr at h
    cases e1 : ta ρ with
    | stuck => rw [e1] at h; exact h.elim
    | err x => rw [e1] at h; exact rdT_err s e1 h
    | ok x =>
      rw [e1] at h
      refine rdT_ok s e1 fun H1 F1 g1 => ?_
      cases x with
      | true => exact h H1 F1 g1
      | false =>
        simp only [Res.bind, Bool.false_eq_true, if_false] at h ⊢
        cases e2 : tb ρ with
        | stuck => rw [e2] at h; exact h.elim
        | err x => rw [e2] at h; exact rdT_err (s.step g1) e2 fun cls d H' F' g => h cls d H' F' (g1.trans g)
        | ok y => rw [e2] at h; exact rdT_ok (s.step g1) e2 fun H2 F2 g2 => h H2 F2 (g1.trans g2)
theorem tok_w {e : Expr} (h : WOk X e ta) : TOk X e ta := fun W tk => (h W tk).pt
theorem tok_not (ha : TOk X a ta) : TOk X (.UnaryOp .Not a pos) (tNot ta) := fun W tk => pt_mono (pt_not (ha W tk)) fun σ H Q h => by
  obtain ⟨H0, F0, F, ρ, s, h⟩ := h
  show rdT X.K X.mg ta W σ H fun c H1 => Q (!c) H1
  unfold tNot at h
  cases e1 : ta ρ with
  | stuck => rw [e1] at h; exact h.elim
  | err x => rw [e1] at h; exact rdT_err s e1 h
  | ok x => rw [e1] at h; exact rdT_ok s e1 h
theorem tok_truth (ha : EOk X a ca) (hn : ∀ ρ rv, ca ρ = .ok rv → notStr rv.d = true) (he : ∀ whole, isTrue a X.env whole = (do let v ← whole; standAt a.pos; holding [v] (truthy v)) := by intro _; rfl) : TOk X a (tTr ca) := fun W tk =>
  pt_mono (pt_truth (ha W tk) he) fun σ H Q h => by
    obtain ⟨H0, F0, F, ρ, s, h⟩ := h
    show rdE X.K X.mg ca W σ H fun x H1 => ∃ k, TruV X.K x H1 k ∧ Q k H1
    unfold tTr at h
    cases e1 : ca ρ with
    | stuck => rw [e1] at h; exact h.elim
    | err x => rw [e1] at h; exact rdE_err s e1 h
    | ok x =>
      rw [e1] at h
      refine rdE_ok s e1 fun v H' F' A g o n => ⟨truthD x.d, truv_of (o.dp (s.step g)) (fun y ey => ?_), h H' F' g⟩
      have := hn ρ x e1
      rw [ey] at this
      cases this
/-- values -/
theorem bool_of {K : Frag} {H : Hp} {v : V} {b : Bool} (h : Rp K H v (.bool b)) : v = .bl b := by cases h; rfl
theorem eok_one {op} (h : EOk X a ca) : EOk X (.BoolOp op [a] pos) ca := fun W tk => pe_one (h W tk)
theorem eok_and (ha : EOk X a ca) (hb : EOk X (.BoolOp .And (b :: rest) pos) cb) : EOk X (.BoolOp .And (a :: b :: rest) pos) (eAnd ca cb) := fun W tk =>
  pe_mono (pe_and (ha W tk) (hb W tk)) fun σ H Q h => by
    obtain ⟨H0, F0, F, ρ, s, h⟩ := h
    show rdE X.K X.mg ca W σ H fun x H1 => ∃ c, x = .bl c ∧ if c = true then rdE X.K X.mg cb W σ H1 Q else Q (.bl false) H1
    unfold eAnd at h
    cases e1 : ca ρ with
    | stuck => rw [e1] at h; exact h.elim
    | err x => rw [e1] at h; exact rdE_err s e1 h
    | ok x =>
      rw [e1] at h
      simp only [Res.bind] at h
      refine rdE_ok s e1 fun v H1 F1 A g1 o1 n1 => ?_
      have p := o1.dp (s.step g1)
      cases ed : x.d with
      | bool k =>
        rw [ed] at p h
        obtain rfl := bool_of p
        refine ⟨k, rfl, ?_⟩
        cases k with
        | false => exact fin_d (s.step g1) (d := .bool false) rfl fun v H' F' A g o n => h v H' F' A (g1.trans g) o fun a ha => g1.hh.none (n a ha)
        | true =>
          simp only [if_true] at h ⊢
          cases e2 : cb ρ with
          | stuck => rw [e2] at h; exact h.elim
          | err x => rw [e2] at h; exact rdE_err (s.step g1) e2 fun cls d H' F' g => h cls d H' F' (g1.trans g)
          | ok y => rw [e2] at h; exact rdE_ok (s.step g1) e2 fun v H2 F2 A g2 o n => h v H2 F2 A (g1.trans g2) o fun a ha => g1.hh.none (n a ha)
      | _ => rw [ed] at h; exact h.elim
theorem eok_or (ha : EOk X a ca) (hb : EOk X (.BoolOp .Or (b :: rest) pos) cb) : EOk X (.BoolOp .Or (a :: b :: rest) pos) (eOr ca cb) := fun W tk =>
  pe_mono (pe_or (ha W tk) (hb W tk)) fun σ H Q h => by
    obtain ⟨H0, F0, F, ρ, s, h⟩ := h
    show rdE X.K X.mg ca W σ H fun x H1 => ∃ c, x = .bl c ∧ if c = true then Q (.bl true) H1 else rdE X.K X.mg cb W σ H1 Q
    unfold eOr at h
    cases e1 : ca ρ with
    | stuck => rw [e1] at h; exact h.elim
    | err x => rw [e1] at h; exact rdE_err s e1 h
    | ok x =>
      rw [e1] at h
      simp only [Res.bind] at h
      refine rdE_ok s e1 fun v H1 F1 A g1 o1 n1 => ?_
      have p := o1.dp (s.step g1)
      cases ed : x.d with
      | bool k =>
        rw [ed] at p h
        obtain rfl := bool_of p
        refine ⟨k, rfl, ?_⟩
        cases k with
        | true => exact fin_d (s.step g1) (d := .bool true) rfl fun v H' F' A g o n => h v H' F' A (g1.trans g) o fun a ha => g1.hh.none (n a ha)
        | false =>
          simp only [Bool.false_eq_true, if_false] at h ⊢
          cases e2 : cb ρ with
          | stuck => rw [e2] at h; exact h.elim
          | err x => rw [e2] at h; exact rdE_err (s.step g1) e2 fun cls d H' F' g => h cls d H' F' (g1.trans g)
          | ok y => rw [e2] at h; exact rdE_ok (s.step g1) e2 fun v H2 F2 A g2 o n => h v H2 F2 A (g1.trans g2) o fun a ha => g1.hh.none (n a ha)
      | _ => rw [ed] at h; exact h.elim
theorem pe_notUn (te : TE) (h : PE X a te) : PE X (.UnaryOp .Not a pos) (tUn (fun x H Q => ∃ c, x = .bl c ∧ Q (.bl (!c)) H) te) := pe_not h
theorem op1_not : Op1 X (fun x H Q => ∃ c, x = .bl c ∧ Q (.bl (!c)) H) fNot := by
  intro H0 F0 F H σ ρ x A rx Q s hx
  unfold fNot
  have p := hx.dp s
  cases ed : rx.d with
  | bool k =>
    rw [ed] at p
    obtain rfl := bool_of p
    intro h
    exact ⟨k, rfl, fin_d s (d := .bool (!k)) rfl fun v H' F' A' g o n => h v H' F' A' g o fun c hc => .inr (n c hc)⟩
  | _ => trivial
theorem eok_not (ha : EOk X a ca) : EOk X (.UnaryOp .Not a pos) (eUn fNot ca) := eok_un (fun _ h => pe_notUn _ h) op1_not ha
theorem op1_neg : Op1 X (rU fun i => .int (-i)) fNeg := by
  intro H0 F0 F H σ ρ x A rx Q s hx
  unfold fNeg
  have p := hx.dp s
  cases ed : rx.d with
  | int i =>
    rw [ed] at p
    obtain rfl := rp_int p
    intro h
    exact ⟨i, rfl, fin_d s (d := .int (-i)) rfl fun v H' F' A' g o n => h v H' F' A' g o fun c hc => .inr (n c hc)⟩
  | _ => trivial
theorem eok_neg (ha : EOk X a ca) : EOk X (.UnaryOp .USub a pos) (eUn fNeg ca) := eok_un (fun _ h => pe_un un_neg h) op1_neg ha
theorem eok_if (ht : TOk X c ta) (ha : EOk X a ca) (hb : EOk X b cb) : EOk X (.IfExp c a b pos) (eIf ta ca cb) := fun W tk =>
  pe_mono (pe_ifExp (ht W tk) (ha W tk) (hb W tk)) fun σ H Q h => by
    obtain ⟨H0, F0, F, ρ, s, h⟩ := h
    show rdT X.K X.mg ta W σ H fun c H1 => if c = true then rdE X.K X.mg ca W σ H1 Q else rdE X.K X.mg cb W σ H1 Q
    unfold eIf at h
    cases e1 : ta ρ with
    | stuck => rw [e1] at h; exact h.elim
    | err x => rw [e1] at h; exact rdT_err s e1 h
    | ok x =>
      rw [e1] at h
      simp only [Res.bind] at h
      refine rdT_ok s e1 fun H1 F1 g1 => ?_
      cases x with
      | true =>
        simp only [if_true] at h ⊢
        cases e2 : ca ρ with
        | stuck => rw [e2] at h; exact h.elim
        | err x => rw [e2] at h; exact rdE_err (s.step g1) e2 fun cls d H' F' g => h cls d H' F' (g1.trans g)
        | ok y => rw [e2] at h; exact rdE_ok (s.step g1) e2 fun v H2 F2 A g2 o n => h v H2 F2 A (g1.trans g2) o fun a ha => g1.hh.none (n a ha)
      | false =>
        simp only [Bool.false_eq_true, if_false] at h ⊢
        cases e2 : cb ρ with
        | stuck => rw [e2] at h; exact h.elim
        | err x => rw [e2] at h; exact rdE_err (s.step g1) e2 fun cls d H' F' g => h cls d H' F' (g1.trans g)
        | ok y => rw [e2] at h; exact rdE_ok (s.step g1) e2 fun v H2 F2 A g2 o n => h v H2 F2 A (g1.trans g2) o fun a ha => g1.hh.none (n a ha)
/-- a op b op' c -/
theorem chain_rd {K : Frag} {mg : Str → Option Value} {R R' : R2} {f g : RV → RV → Res RV} (hK : X.K = K) (o1 : Op2 X R f) (o2 : Op2 X R' g) {W : WX} {σ : S} {H : Hp} {Q : VK} (h : rdE K mg (eChain f g ca cb cc) W σ H Q) :
    tChain R R' (rdE K mg ca W) (rdE K mg cb W) (rdE K mg cc W) σ H Q := by
  subst hK
  obtain ⟨H0, F0, F, ρ, s, h⟩ := h
  show rdE X.K mg ca W σ H fun x H1 => rdE X.K mg cb W σ H1 fun y H2 => R x y H2 fun z H3 => ∃ k, z = .bl k ∧ (if k = true then rdE X.K mg cc W σ H3 fun w' H4 => R' y w' H4 Q else Q (.bl false) H3)
  unfold eChain at h
  cases e1 : ca ρ with
  | stuck => rw [e1] at h; exact h.elim
  | err x => rw [e1] at h; exact rdE_err s e1 h
  | ok rx =>
    rw [e1] at h
    refine rdE_ok s e1 fun x H1 F1 A g1 ox n1 => ?_
    have s1 := s.step g1
    simp only [Res.bind] at h
    cases e2 : cb ρ with
    | stuck => rw [e2] at h; exact h.elim
    | err z => rw [e2] at h; exact rdE_err s1 e2 fun cls d H' F' g => h cls d H' F' (g1.trans g)
    | ok ry =>
      rw [e2] at h
      simp only at h
      refine rdE_ok s1 e2 fun y H2 F2 B g2 oy n2 => ?_
      have s2 := s1.step g2
      have dis : ∀ a ∈ A, a ∉ B := fun a ha hb => (ox.there a ha).1 (n2 a hb)
      have op := fun Q => o1 (Q := Q) s2 (ox.gr g2) oy dis
      cases e3 : f rx ry with
      | stuck => rw [e3] at h; exact h.elim
      | err z => exact absurd (op Q) (by rw [e3]; exact id)
      | ok rz =>
        rw [e3] at h op
        simp only at h
        refine op _ fun v H3 F3 C g3 oz n3 => ?_
        have s3 := s2.step g3
        have p := oz.dp s3
        have g123 := (g1.trans g2).trans g3
        cases ed : rz.d with
        | bool k =>
          rw [ed] at p h
          obtain rfl := bool_of p
          refine ⟨k, rfl, ?_⟩
          cases k with
          | false => exact fin_d s3 (d := .bool false) rfl fun v H' F' A g o n => h v H' F' A (g123.trans g) o fun a ha => g123.hh.none (n a ha)
          | true =>
            simp only [if_true] at h ⊢
            cases e4 : cc ρ with
            | stuck => rw [e4] at h; exact h.elim
            | err z => rw [e4] at h; exact rdE_err s3 e4 fun cls d H' F' g => h cls d H' F' (g123.trans g)
            | ok rw' =>
              rw [e4] at h
              simp only at h
              refine rdE_ok s3 e4 fun w H4 F4 E g4 ow n4 => ?_
              have oy4 := oy.gr (g3.trans g4)
              have dis2 : ∀ a ∈ B, a ∉ E := fun a ha he => by
                have := (oy.gr g3).there a ha
                exact this.1 (n4 a he)
              have op2 := o2 (Q := Q) (s3.step g4) oy4 ow dis2
              cases e5 : g ry rw' with
              | stuck => rw [e5] at h; exact h.elim
              | err z => rw [e5] at op2; exact op2.elim
              | ok rv =>
                rw [e5] at h op2
                refine op2 fun v H' F' C g o n => h v H' F' C ((g123.trans g4).trans g) o fun c hc => ?_
                rcases n c hc with z | z | z
                · exact g1.hh.none (n2 c z)
                · exact g123.hh.none (n4 c z)
                · exact (g123.trans g4).hh.none z
        | _ => rw [ed] at h; exact h.elim
theorem eok_chain {op op' : CmpOp} {R R' : R2} {f g : RV → RV → Res RV} (ho : OpR X (compareOp op) R) (ho' : OpR X (compareOp op') R') (o1 : Op2 X R f) (o2 : Op2 X R' g) (ha : EOk X a ca) (hb : EOk X b cb) (hc : EOk X c cc)
    (hm : lastMarks [op, op'] [b, c] = false := by with_unfolding_all rfl) : EOk X (.Compare a [op, op'] [b, c] pos) (eChain f g ca cb cc) := fun W tk =>
  pe_mono (pe_chain ho ho' (ha W tk) (hb W tk) (hc W tk) hm) fun σ H Q h => chain_rd (X := X) rfl o1 o2 h
theorem tok_chain {op op' : CmpOp} {R R' : R2} {f g : RV → RV → Res RV} (ho : OpR X (compareOp op) R) (ho' : OpR X (compareOp op') R') (o1 : Op2 X R f) (o2 : Op2 X R' g) (ha : EOk X a ca) (hb : EOk X b cb) (hc : EOk X c cc)
    (hm : lastMarks [op, op'] [b, c] = false := by with_unfolding_all rfl) : TOk X (.Compare a [op, op'] [b, c] pos) (tB (eChain f g ca cb cc)) := fun W tk =>
  pt_mono (pt_chain ho ho' (ha W tk) (hb W tk) (hc W tk) hm) fun σ H Q h => chain_rd (X := X) rfl o1 o2 (rdT_B h)

/-! ### several values -/
theorem aok_nil : AOk X [] [] := fun W tk => pa_mono pa_nil fun σ H Q h => by
  obtain ⟨H0, F0, F, ρ, s, h⟩ := h
  exact h [] H F [] s.refl rfl fun _ z => by cases z
theorem RVs.gr {K : Frag} {H0 H F H' F' : Hp} {σ : S} {ρ : Rho} (g : Gr H F H' F') : ∀ {vs : List V} {A : List Addr} {xs : List RV}, RVs K H0 H F σ ρ vs A xs → RVs K H0 H' F' σ ρ vs A xs
  | [], _, [], h => h
  | v :: vs, _, x :: xs, ⟨A1, A2, e, o, r, n⟩ => ⟨A1, A2, e, o.gr g, RVs.gr g r, n⟩
  | [], _, _ :: _, h => h.elim
  | _ :: _, _, [], h => h.elim
theorem aok_cons {e : Expr} {es : List Expr} {cs : List EC} (he : EOk X e ca) (hr : AOk X es cs) (hs : starEach (e :: es) X.env = (false, eval e X.env) :: starEach es X.env := by rfl) : AOk X (e :: es) (ca :: cs) := fun W tk =>
  pa_mono (pa_cons (he W tk) (hr W tk) hs) fun σ H Q h => by
    obtain ⟨H0, F0, F, ρ, s, h⟩ := h
    show rdE X.K X.mg ca W σ H fun x H1 => rdA X.K X.mg cs W σ H1 fun xs H2 => Q (x :: xs) H2
    unfold evalAll at h
    cases e1 : ca ρ with
    | stuck => rw [e1] at h; exact h.elim
    | err x => rw [e1] at h; exact rdE_err s e1 h
    | ok rx =>
      rw [e1] at h
      simp only [Res.bind] at h
      refine rdE_ok s e1 fun x H1 F1 A g1 o1 n1 => ?_
      have s1 := s.step g1
      cases e2 : evalAll cs ρ with
      | stuck => rw [e2] at h; exact h.elim
      | err z => rw [e2] at h; exact rdA_err s1 e2 fun cls d H' F' g => h cls d H' F' (g1.trans g)
      | ok rs =>
        rw [e2] at h
        refine rdA_ok s1 e2 fun xs H2 F2 B g2 o2 n2 => h (x :: xs) H2 F2 (A ++ B) (g1.trans g2) ⟨A, B, rfl, o1.gr g2, o2, fun a ha hb => (o1.there a ha).1 (n2 a hb)⟩ fun a ha => ?_
        rcases List.mem_append.mp ha with z | z
        · exact n1 a z
        · exact g1.hh.none (n2 a z)
theorem RVs.ows {K : Frag} {H0 H F : Hp} {σ : S} {ρ : Rho} : ∀ {vs : List V} {A : List Addr} {xs : List RV} {os : List Ow}, RVs K H0 H F σ ρ vs A xs → owsOf xs = some os → ORs K H F vs os A
  | [], _, [], _, h, e => by cases e; cases (show _ = [] from h); exact .nil
  | v :: vs, _, x :: xs, os, ⟨A1, A2, ea, o, r, n⟩, e => by
    subst ea
    unfold owsOf at e
    cases e1 : x.ow with
    | none => rw [e1] at e; cases e
    | some ow =>
      cases e2 : owsOf xs with
      | none => rw [e1, e2] at e; cases e
      | some os' =>
        rw [e1, e2] at e
        cases e
        cases x with
        | val w => cases e1; exact .cons o (RVs.ows r e2) n
        | ref _ _ _ => cases e1
        | bor _ => cases e1
  | [], _, _ :: _, _, h, _ => h.elim
  | _ :: _, _, [], _, h, _ => h.elim
theorem eok_lst {es : List Expr} {cs : List EC} (h : AOk X es cs) : EOk X (.List es pos) (eLst cs) := fun W tk => pe_mono (pe_lst (h W tk)) fun σ H Q h => by
  obtain ⟨H0, F0, F, ρ, s, h⟩ := h
  show rdA X.K X.mg cs W σ H fun xs H1 => xs.length ≤ sizeLine ∧ ∀ p, H1 p = none → Q (.ref p) (upd H1 p (.lst xs))
  unfold eLst at h
  cases e1 : evalAll cs ρ with
  | stuck => rw [e1] at h; exact h.elim
  | err x => rw [e1] at h; exact rdA_err s e1 h
  | ok rs =>
    rw [e1] at h
    simp only [Res.bind] at h
    refine rdA_ok s e1 fun vs H1 F1 A g1 o1 n1 => ?_
    cases e2 : owsOf rs with
    | none => rw [e2] at h; exact h.elim
    | some os =>
      rw [e2] at h
      by_cases hc : os.length ≤ 1000
      · simp only [hc, if_true] at h
        have oo := o1.ows e2
        refine ⟨by rw [oo.length, sizeLine_eq]; omega, fun p hp => ?_⟩
        obtain ⟨g, o⟩ := fin_ls (s.step g1) oo hp
        refine h _ _ _ _ (g1.trans g) o fun c hc => ?_
        rcases List.mem_cons.mp hc with rfl | hc
        · exact g1.hh.none hp
        · exact n1 c hc
      · simp only [hc] at h
        exact h.elim
theorem eok_tup {es : List Expr} {cs : List EC} {x1} (h : AOk X es cs) : EOk X (.Tuple es x1 pos) (eTup cs) := fun W tk => pe_mono (pe_tup (h W tk)) fun σ H Q h => by
  obtain ⟨H0, F0, F, ρ, s, h⟩ := h
  show rdA X.K X.mg cs W σ H fun xs H1 => xs.length ≤ sizeLine ∧ ∀ p, H1 p = none → Q (.ref p) (upd H1 p (.tup xs))
  unfold eTup at h
  cases e1 : evalAll cs ρ with
  | stuck => rw [e1] at h; exact h.elim
  | err x => rw [e1] at h; exact rdA_err s e1 h
  | ok rs =>
    rw [e1] at h
    simp only [Res.bind] at h
    refine rdA_ok s e1 fun vs H1 F1 A g1 o1 n1 => ?_
    cases e2 : owsOf rs with
    | none => rw [e2] at h; exact h.elim
    | some os =>
      rw [e2] at h
      by_cases hc : os.length ≤ 1000
      · simp only [hc, if_true] at h
        have oo := o1.ows e2
        refine ⟨by rw [oo.length, sizeLine_eq]; omega, fun p hp => ?_⟩
        obtain ⟨F', C, g, o, n⟩ := fin_tup (s.step g1) oo hp
        refine h _ _ _ _ (g1.trans g) o fun c hc => ?_
        rcases n c hc with rfl | z
        · exact g1.hh.none hp
        · exact n1 c z
      · simp only [hc] at h
        exact h.elim

/-! ### calls of defs -/
def ArgOk (K : Frag) (H F : Hp) (v : V) : Sl → Prop
  | .own (.fz d) => Rp K F v d
  | .bor d => Rp K H v d
  | _ => False
def spV (K : Frag) (mg : Str → Option Value) (n : Nat) (φ : Fn) : Sp := fun vs H Q E => ∃ (F : Hp) (as : List Sl), Sub F H ∧ as.length = n ∧ Paired (ArgOk K H F) vs as ∧ match φ as with
  | .ok ow => ∀ v H' F' A, Gr H F H' F' → OR K H' F' v ow A → (∀ a ∈ A, H a = none) → Q v H'
  | .err x => ∀ cls d H' F', Gr H F H' F' → XOk K mg F' H' cls d x → E cls d H'
  | .stuck => False
abbrev FOk (P : Program) (w : World) (K : Frag) (mg : Str → Option Value) (base : Heap) (k : Nat) (f : Addr) (fd : FuncData) (ps : List Str) (φ : Fn) : Prop := FnOk P w K mg base (L2.CX P w) k f fd ps (spV K mg ps.length φ)
theorem RVs.args {K : Frag} {H0 F0 H F G : Hp} {σ : S} {ρ : Rho} (s : SR K H0 F0 σ H F ρ) (hG : Sub F G) : ∀ {vs : List V} {A : List Addr} {xs : List RV}, RVs K H0 H F σ ρ vs A xs → (∀ a ∈ A, G a = H a) → Paired (ArgOk K H G) vs (xs.map RV.arg)
  | [], _, [], h, _ => .nil
  | v :: vs, _, x :: xs, ⟨A1, A2, e, o, r, n⟩, k => by
    subst e
    refine .cons ?_ (RVs.args s hG r fun a ha => k a (List.mem_append_right _ ha))
    cases x with
    | val ow => exact OR.dpIn hG o fun a ha => k a (List.mem_append_left _ ha)
    | ref i p ow =>
      obtain ⟨_, _, _, B, o⟩ := o
      exact o.dp s.sub
    | bor d => exact Rp.mono s.gr.hh o.2
  | [], _, _ :: _, h, _ => h.elim
  | _ :: _, _, [], h, _ => h.elim
theorem RVs.there {K : Frag} {H0 H F : Hp} {σ : S} {ρ : Rho} : ∀ {vs : List V} {A : List Addr} {xs : List RV}, RVs K H0 H F σ ρ vs A xs → ∀ a ∈ A, H a ≠ none ∧ F a = none
  | [], _, [], h, a, ha => by rw [show _ = [] from h] at ha; cases ha
  | v :: vs, _, x :: xs, ⟨A1, A2, e, o, r, n⟩, a, ha => by
    subst e
    rcases List.mem_append.mp ha with z | z
    · exact o.there a z
    · exact RVs.there r a z
  | [], _, _ :: _, h, _, _ => h.elim
  | _ :: _, _, [], h, _, _ => h.elim
theorem RVs.len {K : Frag} {H0 H F : Hp} {σ : S} {ρ : Rho} : ∀ {vs : List V} {A : List Addr} {xs : List RV}, RVs K H0 H F σ ρ vs A xs → vs.length = xs.length
  | [], _, [], _ => rfl
  | _ :: _, _, _ :: _, ⟨_, _, _, _, r, _⟩ => by simp [RVs.len r]
  | [], _, _ :: _, h => h.elim
  | _ :: _, _, [], h => h.elim
theorem eok_call {k : Nat} {f : Addr} {fd : FuncData} {ps : List Str} {φ : Fn} {x : Str} {p : Pos} {e : Expr} {es : List Expr} {cs : List EC} (F : FOk X.prog X.w X.K X.mg X.base k f fd ps φ) (hr : Room k X.A) (hm : X.mg x = some (.ref f)) (hk : PySem.W.keepIn X.K (.ref f) = true) (hb : Binds X.K fd ps [])
    (hl : cs.length = ps.length) (ha : AOk X (e :: es) cs) (hg : Gl X x := by rfl) (hdb : (x == ("__debug__" : Str)) = false := by decide) (he : starEach (e :: es) X.env = (false, eval e X.env) :: starEach es X.env := by rfl) (hpl : (backTo pos (starEach es X.env)).any (·.1) = false := by rfl) :
    EOk X (.Call (.Name x p) (e :: es) [] pos) (eCall φ cs) := fun W tk => pe_mono (pe_callS F hr hg hm hk hb (fun σ => passAt tk σ) (ha W tk) hdb he hpl) fun σ H Q h => by
  obtain ⟨H0, F0, F, ρ, s, h⟩ := h
  show rdA X.K X.mg cs W σ H fun vs H1 => spV X.K X.mg ps.length φ vs H1 Q (WE W σ)
  unfold eCall at h
  cases e1 : evalAll cs ρ with
  | stuck => rw [e1] at h; exact h.elim
  | err x => rw [e1] at h; exact rdA_err s e1 h
  | ok rs =>
    rw [e1] at h
    simp only [Res.bind] at h
    have el : rs.length = cs.length := by
      clear h hl ha he
      induction cs generalizing rs with
      | nil => cases e1; rfl
      | cons c cs ih =>
        unfold evalAll at e1
        cases q1 : c ρ with
        | stuck => rw [q1] at e1; cases e1
        | err x => rw [q1] at e1; cases e1
        | ok r =>
          rw [q1] at e1
          simp only [Res.bind] at e1
          cases q2 : evalAll cs ρ with
          | stuck => rw [q2] at e1; cases e1
          | err x => rw [q2] at e1; cases e1
          | ok rr =>
            rw [q2] at e1
            cases e1
            simp [ih _ q2]
    refine rdA_ok s e1 fun vs H1 F1 A g1 o1 n1 => ?_
    have s1 := s.step g1
    have fA : ∀ a ∈ A, F1 a = none := fun a ha => (o1.there a ha).2
    have gA : Gr H F H1 (frz F1 H1 A) := g1.frozen n1 fA
    refine ⟨frz F1 H1 A, rs.map RV.arg, frz_subH s1.sub, by rw [List.length_map, el, hl], o1.args s1 (frz_sub fA) fun a ha => frz_in ha, ?_⟩
    cases e2 : φ (rs.map RV.arg) with
    | stuck => rw [e2] at h; exact h.elim
    | err z =>
      rw [e2] at h
      exact fun cls d H' F' g xo => h cls d H' F' (gA.trans g) xo
    | ok ow =>
      rw [e2] at h
      exact fun v H' F' B g o n => h v H' F' B (gA.trans g) o fun b hb => g1.hh.none (n b hb)
end
end VL

set_option Elab.async false
set_option linter.all false
set_option maxRecDepth 100000
set_option maxHeartbeats 4000000
/-! VL6: built-in functions, subscripts, slices. -/
namespace VL
open PySem PySem.Spec PyProof.Rows L2
theorem bt_len : bootBuiltins "len" = some (.builtin "len") := by decide +kernel
theorem bt_sum : bootBuiltins "sum" = some (.builtin "sum") := by decide +kernel
theorem bt_sorted : bootBuiltins "sorted" = some (.builtin "sorted") := by decide +kernel
theorem bt_isinstance : bootBuiltins "isinstance" = some (.builtin "isinstance") := by decide +kernel
theorem bt_int : bootBuiltins "int" = some (.type "int") := by decide +kernel
theorem bt_bool : bootBuiltins "bool" = some (.type "bool") := by decide +kernel
theorem bt_str : bootBuiltins "str" = some (.type "str") := by decide +kernel
theorem bt_list : bootBuiltins "list" = some (.type "list") := by decide +kernel
theorem bt_tuple : bootBuiltins "tuple" = some (.type "tuple") := by decide +kernel

/-! ### what is an instance of what -/
section
variable {K : Frag} {H : Hp}
theorem tyx_of {v : V} {d : D} (h : Rp K H v d) : TyX K H v (.type (tyName d)) := by
  cases h with
  | non => exact .base .non
  | bl b => exact .base (.bl b)
  | int i => exact .base (.int i)
  | str x => exact .base (.str x)
  | lst r ra =>
    rcases r with (r | ⟨o, r⟩) | ⟨its, n, r, _⟩
    · exact .base (.lst r)
    · exact .base (.frz r)
    · exact .kList r rfl
  | tup r ra =>
    rcases r with (r | ⟨o, r⟩) | ⟨o, its, n, r, c, _⟩
    · exact .base (.tup r)
    · exact .fTuple r
    · exact .kTuple r c
theorem kitB_all : ∀ t ∈ ["NoneType", "bool", "int", "str", "list", "tuple"], ∀ c ∈ [Ty.int, .bool, .str, .list, .tuple], kitB t c.name = some (match t, c with
  | "bool", .int => true | "bool", .bool => true | "int", .int => true | "str", .str => true | "list", .list => true | "tuple", .tuple => true | _, _ => false) := by
  intro t ht c hc
  simp only [List.mem_cons, List.not_mem_nil, or_false] at ht hc
  rcases ht with rfl | rfl | rfl | rfl | rfl | rfl <;> rcases hc with rfl | rfl | rfl | rfl | rfl <;> decide +kernel
theorem kit_inst {v : V} {d : D} (h : Rp K H v d) (c : Ty) : PySem.W.kitOne K (.type (tyName d)) (.type c.name) = some (inst d c) := by
  refine kit_ty ?_
  have hc : c ∈ [Ty.int, .bool, .str, .list, .tuple] := by cases c <;> simp
  cases h with
  | non => rw [kitB_all _ (by simp [tyName]) c hc]; cases c <;> rfl
  | bl b => rw [kitB_all _ (by simp [tyName]) c hc]; cases c <;> rfl
  | int i => rw [kitB_all _ (by simp [tyName]) c hc]; cases c <;> rfl
  | str x => rw [kitB_all _ (by simp [tyName]) c hc]; cases c <;> rfl
  | lst r ra => rw [kitB_all _ (by simp [tyName]) c hc]; cases c <;> rfl
  | tup r ra => rw [kitB_all _ (by simp [tyName]) c hc]; cases c <;> rfl
theorem kit_any {v : V} {d : D} (h : Rp K H v d) : ∀ cs : List Ty, PySem.W.kitAny K (.type (tyName d)) (cs.map fun c => .type c.name) = some (cs.any fun c => inst d c)
  | [] => rfl
  | c :: cs => by
    show (match PySem.W.kitOne K (.type (tyName d)) (.type c.name) with
      | some true => some true
      | some false => PySem.W.kitAny K (.type (tyName d)) (cs.map fun c => .type c.name)
      | none => none) = some (inst d c || cs.any fun c => inst d c)
    rw [kit_inst h c]
    cases inst d c with
    | true => rfl
    | false => exact kit_any h cs
end
section
variable {X : Cx} {a b : Expr} {ca cb : EC} {pos p : Pos}
theorem ty_name {x : Str} {c : Ty} (hm : X.mg x = none) (hv : bootBuiltins x = some (.type c.name)) (hg : Gl X x := by rfl) (hn : x ≠ "__name__" := by decide) (hd : (x == ("__debug__" : Str)) = false := by decide) : PE X (.Name x p) (tC (.ty c.name)) :=
  pe_bltn hg hm hv rfl hn hd
def TysOk (X : Cx) (es : List Expr) (cs : List Ty) : Prop := PA X es fun _ H Q => Q (cs.map fun c => V.ty c.name) H
theorem tys_nil : TysOk X [] [] := pa_nil
theorem tys_cons {e : Expr} {es : List Expr} {c : Ty} {cs : List Ty} (h : PE X e (tC (.ty c.name))) (r : TysOk X es cs) (hs : starEach (e :: es) X.env = (false, eval e X.env) :: starEach es X.env := by rfl) : TysOk X (e :: es) (c :: cs) :=
  pa_mono (pa_cons h r hs) fun _ _ _ q => q
theorem pe_isI {c : Ty} (ta : TE) (hm : X.mg "isinstance" = none) (hb : PE X b (tC (.ty c.name))) (ha : PE X a ta) (hg : Gl X "isinstance" := by rfl)
    (he : starEach [a, b] X.env = (false, eval a X.env) :: starEach [b] X.env := by rfl) (he2 : starEach [b] X.env = (false, eval b X.env) :: starEach [] X.env := by rfl) (hpl : (backTo pos (starEach [b] X.env)).any (·.1) = false := by rfl) :
    PE X (.Call (.Name "isinstance" p) [a, b] [] pos) (tUn (fun x H Q => rIsi X.K [x, .ty c.name] H Q) ta) :=
  pe_mono (pe_callB call_isi hg hm bt_isinstance (pa_cons ha (pa_cons hb pa_nil he2) he) (he := he) (hpl := hpl)) fun _ _ _ q => q
theorem op1_isI {c : Ty} : Op1 X (fun x H Q => rIsi X.K [x, .ty c.name] H Q) (fIsI c) := by
  intro H0 F0 F H σ ρ x A rx Q s hx k
  have pp := hx.dp s
  exact ⟨x, .ty c.name, _, _, _, rfl, .ty _, tyx_of pp, kit_inst pp c, fin_d s (d := .bool _) rfl fun v H' F' A' g o n => k v H' F' A' g o fun c hc => .inr (n c hc)⟩
theorem eok_isI {c : Ty} (hm : X.mg "isinstance" = none) (ha : EOk X a ca) (hb : PE X b (tC (.ty c.name))) (hg : Gl X "isinstance" := by rfl)
    (he : starEach [a, b] X.env = (false, eval a X.env) :: starEach [b] X.env := by rfl) (he2 : starEach [b] X.env = (false, eval b X.env) :: starEach [] X.env := by rfl) (hpl : (backTo pos (starEach [b] X.env)).any (·.1) = false := by rfl) :
    EOk X (.Call (.Name "isinstance" p) [a, b] [] pos) (eUn (fIsI c) ca) := eok_un (fun ta h => pe_isI ta hm hb h hg he he2 hpl) op1_isI ha
def rIsV (K : Frag) (cs : List Ty) : V → Hp → VK → Prop := fun x H Q => (cs.map fun c => V.ty c.name).length ≤ sizeLine ∧ ∀ tp, H tp = none → rIsiT K [x, .ref tp] (upd H tp (.tup (cs.map fun c => V.ty c.name))) Q
theorem pe_isIs {cs : List Ty} {es : List Expr} {k1 : Nat} {p2 : Pos} (ta : TE) (hm : X.mg "isinstance" = none) (hb : TysOk X es cs) (ha : PE X a ta) (hg : Gl X "isinstance" := by rfl)
    (he : starEach [a, .Tuple es k1 p2] X.env = (false, eval a X.env) :: starEach [.Tuple es k1 p2] X.env := by rfl) (he2 : starEach [.Tuple es k1 p2] X.env = (false, eval (.Tuple es k1 p2) X.env) :: starEach [] X.env := by rfl) (hpl : (backTo pos (starEach [.Tuple es k1 p2] X.env)).any (·.1) = false := by rfl) :
    PE X (.Call (.Name "isinstance" p) [a, .Tuple es k1 p2] [] pos) (tUn (rIsV X.K cs) ta) :=
  pe_mono (pe_callB call_isiT hg hm bt_isinstance (pa_cons ha (pa_cons (pe_tup hb) pa_nil he2) he) (he := he) (hpl := hpl)) fun σ H Q q => q
theorem paired_tys : ∀ cs : List Ty, Paired ClsV (cs.map fun c => V.ty c.name) (cs.map fun c => Value.type c.name)
  | [] => .nil
  | c :: cs => .cons (.ty _) (paired_tys cs)
theorem op1_isIs {cs : List Ty} (hl : cs.length ≤ 1000) : Op1 X (rIsV X.K cs) (fIsIs cs) := by
  intro H0 F0 F H σ ρ x A rx Q s hx k
  have pp := hx.dp s
  refine ⟨by rw [List.length_map, sizeLine_eq]; omega, fun tp hp => ?_⟩
  have g := Gr.laid (o := .tup (cs.map fun c => V.ty c.name)) s.sub hp
  refine ⟨x, tp, _, _, _, _, rfl, upd_same, paired_tys cs, tyx_of (pp.mono g.hh), kit_any pp cs, ?_⟩
  exact fin_d (s.step g) (d := .bool _) rfl fun v H' F' A' g' o n => k v H' F' A' (g.trans g') o fun c hc => .inr (g.hh.none (n c hc))
theorem eok_isIs {cs : List Ty} {es : List Expr} {k1 : Nat} {p2 : Pos} (hm : X.mg "isinstance" = none) (ha : EOk X a ca) (hb : TysOk X es cs) (hl : cs.length ≤ 1000 := by decide) (hg : Gl X "isinstance" := by rfl)
    (he : starEach [a, .Tuple es k1 p2] X.env = (false, eval a X.env) :: starEach [.Tuple es k1 p2] X.env := by rfl) (he2 : starEach [.Tuple es k1 p2] X.env = (false, eval (.Tuple es k1 p2) X.env) :: starEach [] X.env := by rfl) (hpl : (backTo pos (starEach [.Tuple es k1 p2] X.env)).any (·.1) = false := by rfl) :
    EOk X (.Call (.Name "isinstance" p) [a, .Tuple es k1 p2] [] pos) (eUn (fIsIs cs) ca) := eok_un (fun ta h => pe_isIs ta hm hb h hg he he2 hpl) (op1_isIs hl) ha

/-! ### one argument -/
theorem eok_b1 {x : Str} {id : String} {r : List V → Hp → VK → Prop} {f : RV → Res RV} (hc : CallR X (.builtin id) r) (o : Op1 X (fun x H Q => r [x] H Q) f) (hm : X.mg x = none) (hv : bootBuiltins x = some (.builtin id)) (ha : EOk X a ca) (hg : Gl X x := by rfl)
    (hn : x ≠ "__name__" := by decide) (hd : (x == ("__debug__" : Str)) = false := by decide) (he : starEach [a] X.env = (false, eval a X.env) :: starEach [] X.env := by rfl) (hpl : (backTo pos (starEach [] X.env)).any (·.1) = false := by rfl) :
    EOk X (.Call (.Name x p) [a] [] pos) (eUn f ca) := eok_un (fun ta h => pe_mono (pe_callB hc hg hm hv (pa_cons h pa_nil he) hn hd he hpl) fun _ _ _ q => q) o ha
theorem eok_t1 {x : Str} {id : String} {r : List V → Hp → VK → Prop} {f : RV → Res RV} (hc : CallR X (.type id) r) (o : Op1 X (fun x H Q => r [x] H Q) f) (hm : X.mg x = none) (hv : bootBuiltins x = some (.type id)) (ha : EOk X a ca) (hg : Gl X x := by rfl)
    (hn : x ≠ "__name__" := by decide) (hd : (x == ("__debug__" : Str)) = false := by decide) (he : starEach [a] X.env = (false, eval a X.env) :: starEach [] X.env := by rfl) (hpl : (backTo pos (starEach [] X.env)).any (·.1) = false := by rfl) :
    EOk X (.Call (.Name x p) [a] [] pos) (eUn f ca) := eok_un (fun ta h => pe_mono (pe_callTy hc hg hm hv (pa_cons h pa_nil he) hn hd he hpl) fun _ _ _ q => q) o ha
theorem op1_len : Op1 X (fun x H Q => ∃ y n, [x] = [y] ∧ LenV X.K y H n ∧ Q (.int n) H) fLen := by
  intro H0 F0 F H σ ρ x A rx Q s hx
  have pp := hx.dp s
  unfold fLen
  cases ed : rx.d with
  | list ds =>
    rw [ed] at pp
    cases pp with
    | lst r ra =>
      intro k
      exact ⟨_, ds.length, rfl, .inl ⟨_, r.sqL, ra.length.symm⟩, fin_d s (d := .int _) rfl fun v H' F' A' g o n => k v H' F' A' g o fun c hc => .inr (n c hc)⟩
  | tuple ds =>
    rw [ed] at pp
    cases pp with
    | tup r ra =>
      intro k
      exact ⟨_, ds.length, rfl, .inr ⟨_, r, ra.length.symm⟩, fin_d s (d := .int _) rfl fun v H' F' A' g o n => k v H' F' A' g o fun c hc => .inr (n c hc)⟩
  | str y =>
    rw [ed] at pp
    obtain rfl := rp_str pp
    by_cases hc : y.length ≤ 16777216
    · simp only [hc, if_true, rD]
      intro k
      exact ⟨_, y.length, rfl, ⟨by rw [sizeLine_eq]; exact hc, rfl⟩, fin_d s (d := .int _) rfl fun v H' F' A' g o n => k v H' F' A' g o fun c hc => .inr (n c hc)⟩
    · simp only [hc]
      trivial
  | _ => trivial
theorem eok_len (hm : X.mg "len" = none) (ha : EOk X a ca) (hg : Gl X "len" := by rfl) (he : starEach [a] X.env = (false, eval a X.env) :: starEach [] X.env := by rfl) (hpl : (backTo pos (starEach [] X.env)).any (·.1) = false := by rfl) :
    EOk X (.Call (.Name "len" p) [a] [] pos) (eUn fLen ca) := eok_b1 call_len op1_len hm bt_len ha hg (he := he) (hpl := hpl)
theorem op1_list : Op1 X (fun x H Q => ∃ p ys, [x] = [V.ref p] ∧ (SqL X.K H p ys ∨ SqT X.K H p ys) ∧ ∀ l, H l = none → Q (.ref l) (upd H l (.lst ys))) fList := by
  intro H0 F0 F H σ ρ x A rx Q s hx
  unfold fList
  cases e : rx.items with
  | none => trivial
  | some xs =>
    intro k
    obtain ⟨a, vs, B, rfl, hq, o, n⟩ := items_ok s hx e
    refine ⟨a, vs, rfl, hq.imp (fun h => h.2.sqL) (fun h => h.2), fun l hl => ?_⟩
    obtain ⟨g, oo⟩ := fin_ls s o hl
    refine k _ _ _ _ g oo fun c hc => ?_
    rcases List.mem_cons.mp hc with rfl | hc
    · exact .inr hl
    · exact .inl (n c hc)
theorem eok_list (hm : X.mg "list" = none) (ha : EOk X a ca) (hg : Gl X "list" := by rfl) (he : starEach [a] X.env = (false, eval a X.env) :: starEach [] X.env := by rfl) (hpl : (backTo pos (starEach [] X.env)).any (·.1) = false := by rfl) :
    EOk X (.Call (.Name "list" p) [a] [] pos) (eUn fList ca) := eok_t1 call_list_of op1_list hm bt_list ha hg (he := he) (hpl := hpl)
theorem op1_tuple : Op1 X (fun x H Q => ∃ p ys, [x] = [V.ref p] ∧ ((SqL X.K H p ys ∧ ∀ l, H l = none → Q (.ref l) (upd H l (.tup ys))) ∨ (SqT X.K H p ys ∧ Q (.ref p) H))) fTuple := by
  intro H0 F0 F H σ ρ x A rx Q s hx
  unfold fTuple
  have pp := hx.dp s
  have rest : isT rx.d = true → match (match rx with
      | .val ow => (.ok (.val ow) : Res RV)
      | _ => .stuck) with
    | .ok rv => (∀ v H' F' C, Gr H F H' F' → RVOk X.K H0 H' F' σ ρ v C rv → (∀ c ∈ C, c ∈ A ∨ H c = none) → Q v H') → ∃ p ys, [x] = [V.ref p] ∧ ((SqL X.K H p ys ∧ ∀ l, H l = none → Q (.ref l) (upd H l (.tup ys))) ∨ (SqT X.K H p ys ∧ Q (.ref p) H))
    | .err _ => False
    | .stuck => True := by
    intro ht
    match rx, hx, pp, ht with
    | .val ow, hx, pp, ht =>
      intro k
      have ed : ∃ ds, RV.d (.val ow) = .tuple ds := by
        cases e : RV.d (.val ow) with
        | tuple ds => exact ⟨ds, rfl⟩
        | _ => rw [e] at ht; cases ht
      obtain ⟨ds, ed⟩ := ed
      rw [ed] at pp
      cases pp with
      | tup r ra => exact ⟨_, _, rfl, .inr ⟨r, k _ H F A s.refl hx fun c hc => .inl hc⟩⟩
    | .ref _ _ _, _, _, _ => trivial
    | .bor _, _, _, _ => trivial
  cases ed : rx.d with
  | list ds =>
    simp only
    cases e : rx.items with
    | none => trivial
    | some xs =>
      intro k
      obtain ⟨a, vs, B, rfl, hq, o, n⟩ := items_ok s hx e
      rw [ed] at hq
      rcases hq with ⟨_, hq⟩ | ⟨z, _⟩
      · refine ⟨a, vs, rfl, .inl ⟨hq.sqL, fun l hl => ?_⟩⟩
        obtain ⟨F', C, g, oo, nn⟩ := fin_tup s o hl
        refine k _ _ _ _ g oo fun c hc => ?_
        rcases nn c hc with rfl | hc
        · exact .inr hl
        · exact .inl (n c hc)
      · cases z
  | tuple ds => exact rest (by rw [ed]; rfl)
  | _ => trivial
theorem eok_tuple (hm : X.mg "tuple" = none) (ha : EOk X a ca) (hg : Gl X "tuple" := by rfl) (he : starEach [a] X.env = (false, eval a X.env) :: starEach [] X.env := by rfl) (hpl : (backTo pos (starEach [] X.env)).any (·.1) = false := by rfl) :
    EOk X (.Call (.Name "tuple" p) [a] [] pos) (eUn fTuple ca) := eok_t1 call_tuple_of op1_tuple hm bt_tuple ha hg (he := he) (hpl := hpl)
theorem ints_rp {K : Frag} {H : Hp} : ∀ {ds : List D} {vs : List V} {ns : List Int}, RpAll K H vs ds → intsOf ds = some ns → vs = ns.map V.int
  | [], _, _, .nil, e => by cases e; rfl
  | d :: ds, _, _, .cons h r, e => by
    cases d with
    | int i =>
      simp only [intsOf] at e
      cases e2 : intsOf ds with
      | none => rw [e2] at e; cases e
      | some is =>
        rw [e2] at e
        cases e
        rw [rp_int h, ints_rp r e2]; rfl
    | _ => simp only [intsOf] at e; cases e
theorem rpInts {K : Frag} (H : Hp) : ∀ ns : List Int, RpAll K H (ns.map V.int) (ns.map PyData.int)
  | [] => .nil
  | n :: ns => .cons (.int n) (rpInts H ns)
theorem op1_sum : Op1 X (fun x H Q => rSum X.K [x] H Q) fSum := by
  intro H0 F0 F H σ ρ x A rx Q s hx
  unfold fSum
  have pp := hx.dp s
  cases ed : rx.d with
  | list ds =>
    simp only
    cases e : intsOf ds with
    | none => trivial
    | some ns =>
      intro k
      rw [ed] at pp
      cases pp with
      | lst r ra =>
        have ev := ints_rp ra e
        subst ev
        exact ⟨_, ns, rfl, r.sqL, fin_d s (d := .int _) rfl fun v H' F' A' g o n => k v H' F' A' g o fun c hc => .inr (n c hc)⟩
  | _ => trivial
theorem eok_sum (hc : X.calm = true) (hm : X.mg "sum" = none) (ha : EOk X a ca) (hg : Gl X "sum" := by rfl) (he : starEach [a] X.env = (false, eval a X.env) :: starEach [] X.env := by rfl) (hpl : (backTo pos (starEach [] X.env)).any (·.1) = false := by rfl) :
    EOk X (.Call (.Name "sum" p) [a] [] pos) (eUn fSum ca) := eok_b1 (cr_sum hc) op1_sum hm bt_sum ha hg (he := he) (hpl := hpl)
theorem insI_perm (a : Int) : ∀ l : List Int, (insI a l).Perm (a :: l)
  | [] => .refl _
  | b :: r => by
    unfold insI
    by_cases h : a ≤ b
    · rw [if_pos h]
    · rw [if_neg h]
      exact ((insI_perm a r).cons b).trans (.swap a b r)
theorem sortI_perm : ∀ l : List Int, (sortI l).Perm l
  | [] => .refl _
  | a :: r => (insI_perm a (sortI r)).trans ((sortI_perm r).cons a)
theorem insI_sorted (a : Int) : ∀ l : List Int, l.Pairwise (· ≤ ·) → (insI a l).Pairwise (· ≤ ·)
  | [], _ => List.pairwise_singleton _ _
  | b :: r, h => by
    unfold insI
    have h' := List.pairwise_cons.mp h
    by_cases e : a ≤ b
    · rw [if_pos e]
      refine List.pairwise_cons.mpr ⟨fun c hc => ?_, h⟩
      rcases List.mem_cons.mp hc with rfl | hc
      · exact e
      · exact Int.le_trans e (h'.1 c hc)
    · rw [if_neg e]
      refine List.pairwise_cons.mpr ⟨fun c hc => ?_, insI_sorted a r h'.2⟩
      rcases List.mem_cons.mp ((insI_perm a r).mem_iff.mp hc) with rfl | hc
      · omega
      · exact h'.1 c hc
theorem sortI_sorted : ∀ l : List Int, (sortI l).Pairwise (· ≤ ·)
  | [] => .nil
  | a :: r => insI_sorted a _ (sortI_sorted r)
theorem sortI_is {ns ns' : List Int} (h : ns'.Perm ns) (hs : ns'.Pairwise (· ≤ ·)) : ns' = sortI ns :=
  PySem.W.ksm_same (h.trans (sortI_perm ns).symm) hs (sortI_sorted ns)
theorem op1_sorted : Op1 X (fun x H Q => rSortedI X.K [x] H Q) fSorted := by
  intro H0 F0 F H σ ρ x A rx Q s hx
  unfold fSorted
  have pp := hx.dp s
  cases ed : rx.d with
  | list ds =>
    simp only
    cases e : intsOf ds with
    | none => trivial
    | some ns =>
      intro k
      rw [ed] at pp
      cases pp with
      | lst r ra =>
        have ev := ints_rp ra e
        subst ev
        refine ⟨_, ns, rfl, r.sqL, fun ns' p h1 h2 hp => ?_⟩
        have e2 := sortI_is h1 h2
        subst e2
        have o : ORs X.K H F ((sortI ns).map V.int) (((sortI ns).map PyData.int).map Ow.fz) [] := ORs.ofDp (rpInts F _)
        obtain ⟨g, oo⟩ := fin_ls s o hp
        rw [List.map_map] at oo
        refine k _ _ _ _ g oo fun c hc => ?_
        rcases List.mem_cons.mp hc with rfl | hc
        · exact .inr hp
        · cases hc
  | _ => trivial
theorem eok_sorted (hm : X.mg "sorted" = none) (ha : EOk X a ca) (hg : Gl X "sorted" := by rfl) (he : starEach [a] X.env = (false, eval a X.env) :: starEach [] X.env := by rfl) (hpl : (backTo pos (starEach [] X.env)).any (·.1) = false := by rfl) :
    EOk X (.Call (.Name "sorted" p) [a] [] pos) (eUn fSorted ca) := eok_b1 cr_sortedI op1_sorted hm bt_sorted ha hg (he := he) (hpl := hpl)
theorem op1_int : Op1 X (fun x H Q => (∃ i, [x] = [V.int i] ∧ Q (.int i) H) ∨ ∃ k, [x] = [V.bl k] ∧ Q (.int (if k then 1 else 0)) H) fInt := by
  intro H0 F0 F H σ ρ x A rx Q s hx
  unfold fInt
  have pp := hx.dp s
  cases ed : rx.d with
  | int i =>
    rw [ed] at pp
    obtain rfl := rp_int pp
    intro k
    exact .inl ⟨i, rfl, fin_d s (d := .int _) rfl fun v H' F' A' g o n => k v H' F' A' g o fun c hc => .inr (n c hc)⟩
  | bool b =>
    rw [ed] at pp
    obtain rfl := bool_of pp
    intro k
    exact .inr ⟨b, rfl, fin_d s (d := .int _) rfl fun v H' F' A' g o n => k v H' F' A' g o fun c hc => .inr (n c hc)⟩
  | _ => trivial
theorem eok_intc (hm : X.mg "int" = none) (ha : EOk X a ca) (hg : Gl X "int" := by rfl) (he : starEach [a] X.env = (false, eval a X.env) :: starEach [] X.env := by rfl) (hpl : (backTo pos (starEach [] X.env)).any (·.1) = false := by rfl) :
    EOk X (.Call (.Name "int" p) [a] [] pos) (eUn fInt ca) := eok_t1 call_int1 op1_int hm bt_int ha hg (he := he) (hpl := hpl)

/-! ### subscripts -/
theorem atI_rp {K : Frag} {F : Hp} {ds : List D} {vs : List V} {k : Int} {d : D} (h : RpAll K F vs ds) (e : atI ds k = some d) : ∃ v, atI vs k = some v ∧ Rp K F v d := by
  unfold atI at e ⊢
  rw [h.length]
  cases e1 : ixN ds.length k with
  | none => rw [e1] at e; cases e
  | some j =>
    rw [e1] at e
    exact h.get' e
theorem ORs.get {K : Frag} {H F : Hp} : ∀ {xs : List Ow} {vs : List V} {A : List Addr} {j : Nat} {x : Ow}, ORs K H F vs xs A → xs[j]? = some x → ∃ v B, vs[j]? = some v ∧ OR K H F v x B ∧ ∀ b ∈ B, b ∈ A
  | [], _, _, _, _, .nil, e => by simp at e
  | x :: _, _, _, 0, _, .cons h r n, e => by
    simp at e
    subst e
    exact ⟨_, _, rfl, h, fun b hb => List.mem_append_left _ hb⟩
  | _ :: _, _, _, j + 1, _, .cons h r n, e => by
    obtain ⟨v, B, h1, h2, h3⟩ := ORs.get (j := j) r (by simpa using e)
    exact ⟨v, B, by simpa using h1, h2, fun b hb => List.mem_append_right _ (h3 b hb)⟩
theorem atI_or {K : Frag} {H F : Hp} {xs : List Ow} {vs : List V} {A : List Addr} {k : Int} {x : Ow} (h : ORs K H F vs xs A) (e : atI xs k = some x) : ∃ v B, atI vs k = some v ∧ OR K H F v x B ∧ ∀ b ∈ B, b ∈ A := by
  unfold atI at e ⊢
  rw [h.length]
  cases e1 : ixN xs.length k with
  | none => rw [e1] at e; cases e
  | some j =>
    rw [e1] at e
    exact h.get e
theorem At.snoc {H : Hp} {k : Nat} {a : Addr} {vs : List V} {w : V} (ho : H a = some (.lst vs) ∨ H a = some (.tup vs)) (hk : vs[k]? = some w) : ∀ {p : List Nat} {v0 : V}, At H v0 p (.ref a) → At H v0 (p ++ [k]) w
  | [], _, e => ⟨a, vs, w, e.symm, ho, hk, rfl⟩
  | _ :: _, _, ⟨b, us, u, e, o, q, r⟩ => ⟨b, us, u, e, o, q, At.snoc ho hk r⟩
theorem Ow.at_snoc {xs : List Ow} {k : Nat} {x : Ow} (hk : xs[k]? = some x) : ∀ {p : List Nat} {ow0 ow : Ow}, ow0.at p = some ow → (ow = .ls xs ∨ ow = .tp xs) → ow0.at (p ++ [k]) = some x
  | [], ow0, ow, e, h => by
    have e' : ow0 = ow := by cases ow0 <;> (simp only [Ow.at] at e; cases e; rfl)
    subst e'
    rcases h with rfl | rfl
    · simp [Ow.at, hk]
    · simp [Ow.at, hk]
  | q :: p, ow0, ow, e, h => by
    cases ow0 with
    | fz d => simp [Ow.at] at e
    | ls ys =>
      simp only [Ow.at, List.cons_append] at e ⊢
      cases e1 : ys[q]? with
      | none => rw [e1] at e; cases e
      | some y => rw [e1] at e; exact Ow.at_snoc hk e h
    | tp ys =>
      simp only [Ow.at, List.cons_append] at e ⊢
      cases e1 : ys[q]? with
      | none => rw [e1] at e; cases e
      | some y => rw [e1] at e; exact Ow.at_snoc hk e h
theorem ixOw_ok {K : Frag} {H0 H F : Hp} {σ : S} {ρ : Rho} {i : Nat} {p : List Nat} {k : Nat} {v : V} {x : Ow} {B : List Addr} (h : OR K H F v x B) (h1 : ∃ v0, σ[i]? = some (some v0) ∧ At H v0 (p ++ [k]) v) (h2 : ∃ ow0, ρ[i]? = some (some (.own ow0)) ∧ ow0.at (p ++ [k]) = some x) :
    RVOk K H0 H F σ ρ v [] (ixOw i p k x) := by
  cases x with
  | fz d => exact OR.fz h.fz_inv.2
  | ls xs => exact ⟨rfl, h1, h2, B, h⟩
  | tp xs => exact ⟨rfl, h1, h2, B, h⟩
theorem op2_ix : Op2 X (rIx X.K) fIx := by
  intro H0 F0 F H σ ρ x y A B rx ry Q s hx hy dis
  unfold fIx
  have py := hy.dp s
  cases ey : ry.d with
  | int k =>
    rw [ey] at py
    obtain rfl := rp_int py
    have none_ : ∀ c ∈ ([] : List Addr), c ∈ A ∨ c ∈ B ∨ H c = none := fun _ z => by cases z
    match rx, hx with
    | .val (.fz (.list ds)), hx =>
      simp only
      cases e : atI ds k with
      | none => trivial
      | some d =>
        intro kk
        have p := (OR.fz_inv hx).2
        cases p with
        | lst r ra =>
          obtain ⟨v, h1, h2⟩ := atI_rp ra e
          exact .inl ⟨_, _, k, v, rfl, rfl, (s.sub.lk r).sqL, h1, kk v H F [] s.refl (OR.fz h2) none_⟩
    | .val (.fz (.tuple ds)), hx =>
      simp only
      cases e : atI ds k with
      | none => trivial
      | some d =>
        intro kk
        have p := (OR.fz_inv hx).2
        cases p with
        | tup r ra =>
          obtain ⟨v, h1, h2⟩ := atI_rp ra e
          exact .inr (.inl ⟨_, _, k, v, rfl, rfl, s.sub.sqT r, h1, kk v H F [] s.refl (OR.fz h2) none_⟩)
    | .val (.ls xs), hx =>
      simp only
      cases e : atI xs k with
      | none => trivial
      | some d =>
        intro kk
        obtain ⟨a, vs, C, rfl, rfl, h1, _, _, o⟩ := OR.ls_inv hx
        obtain ⟨v, E, h2, h3, h4⟩ := atI_or o e
        exact .inl ⟨_, _, k, v, rfl, rfl, .of h1, h2, kk v H F E s.refl h3 fun c hc => .inl (List.mem_cons_of_mem _ (h4 c hc))⟩
    | .val (.tp xs), hx =>
      simp only
      cases e : atI xs k with
      | none => trivial
      | some d =>
        intro kk
        obtain ⟨a, vs, C, rfl, rfl, h1, _, _, o⟩ := OR.tp_inv hx
        obtain ⟨v, E, h2, h3, h4⟩ := atI_or o e
        exact .inr (.inl ⟨_, _, k, v, rfl, rfl, .of h1, h2, kk v H F E s.refl h3 fun c hc => .inl (List.mem_cons_of_mem _ (h4 c hc))⟩)
    | .ref i p (.ls xs), ⟨_, ⟨v0, e0, hat⟩, ⟨ow0, e1, e2⟩, C, hx⟩ =>
      simp only
      cases e : ixN xs.length k with
      | none => trivial
      | some j =>
        simp only
        cases e3 : xs[j]? with
        | none => trivial
        | some ow =>
          intro kk
          obtain ⟨a, vs, C', rfl, rfl, h1, _, _, o⟩ := OR.ls_inv hx
          obtain ⟨v, E, h2, h3, h4⟩ := o.get e3
          refine .inl ⟨_, _, k, v, rfl, rfl, .of h1, by unfold atI; rw [o.length, e]; exact h2, ?_⟩
          exact kk v H F [] s.refl (ixOw_ok h3 ⟨v0, e0, hat.snoc (.inl h1) h2⟩ ⟨ow0, e1, Ow.at_snoc e3 e2 (.inl rfl)⟩) none_
    | .ref i p (.tp xs), ⟨_, ⟨v0, e0, hat⟩, ⟨ow0, e1, e2⟩, C, hx⟩ =>
      simp only
      cases e : ixN xs.length k with
      | none => trivial
      | some j =>
        simp only
        cases e3 : xs[j]? with
        | none => trivial
        | some ow =>
          intro kk
          obtain ⟨a, vs, C', rfl, rfl, h1, _, _, o⟩ := OR.tp_inv hx
          obtain ⟨v, E, h2, h3, h4⟩ := o.get e3
          refine .inr (.inl ⟨_, _, k, v, rfl, rfl, .of h1, by unfold atI; rw [o.length, e]; exact h2, ?_⟩)
          exact kk v H F [] s.refl (ixOw_ok h3 ⟨v0, e0, hat.snoc (.inr h1) h2⟩ ⟨ow0, e1, Ow.at_snoc e3 e2 (.inr rfl)⟩) none_
    | .bor (.list ds), ⟨_, p⟩ =>
      simp only
      cases e : atI ds k with
      | none => trivial
      | some d =>
        intro kk
        cases p with
        | lst r ra =>
          obtain ⟨v, h1, h2⟩ := atI_rp ra e
          refine .inl ⟨_, _, k, v, rfl, rfl, (s.gr.hh.lk r).sqL, h1, kk v H F [] s.refl ?_ none_⟩
          by_cases hs : scal d = true
          · rw [if_pos hs, h2.scal_eq hs]; exact OR.fz (Rp.scal F hs)
          · rw [if_neg hs]; exact ⟨rfl, h2⟩
    | .bor (.tuple ds), ⟨_, p⟩ =>
      simp only
      cases e : atI ds k with
      | none => trivial
      | some d =>
        intro kk
        cases p with
        | tup r ra =>
          obtain ⟨v, h1, h2⟩ := atI_rp ra e
          refine .inr (.inl ⟨_, _, k, v, rfl, rfl, s.gr.hh.sqT r, h1, kk v H F [] s.refl ?_ none_⟩)
          by_cases hs : scal d = true
          · rw [if_pos hs, h2.scal_eq hs]; exact OR.fz (Rp.scal F hs)
          · rw [if_neg hs]; exact ⟨rfl, h2⟩
    | .val (.fz .none), _ => trivial
    | .val (.fz (.bool _)), _ => trivial
    | .val (.fz (.int _)), _ => trivial
    | .val (.fz (.str _)), _ => trivial
    | .val (.fz (.dict _)), _ => trivial
    | .ref _ _ (.fz _), _ => trivial
    | .bor .none, _ => trivial
    | .bor (.bool _), _ => trivial
    | .bor (.int _), _ => trivial
    | .bor (.str _), _ => trivial
    | .bor (.dict _), _ => trivial
  | _ => trivial
theorem eok_ix (ha : EOk X a ca) (hb : EOk X b cb) (hs : PlainIx b := by exact fun _ _ => rfl) : EOk X (.Subscript a b pos) (eBin fIx ca cb) := eok_bin (fun _ _ h1 h2 => pe_ix ix_seq h1 h2 hs) op2_ix ha hb

/-! ### slices -/
def rdP (K : Frag) (mg : Str → Option Value) (c : Option EC) (W : WX) : TO := fun σ H Q => ∃ H0 F0 F ρ, SR K H0 F0 σ H F ρ ∧ match ePart c ρ with
  | .ok o => ∀ H' F', Gr H F H' F' → Q o H'
  | .err x => ∀ cls d H' F', Gr H F H' F' → XOk K mg F' H' cls d x → W cls d σ H'
  | .stuck => False
def POk (X : Cx) (e : Option Expr) (c : Option EC) : Prop := ∀ W, Takes X W → PO X e (rdP X.K X.mg c W)
theorem po_mono {e : Option Expr} {t t' : TO} (h : PO X e t) (k : ∀ σ H Q, t' σ H Q → t σ H Q) : PO X e t' := ⟨fun pins s σ H Q I q => h.run pins s σ H Q I (k σ H Q q)⟩
theorem pok_none : POk X none none := fun W tk => po_mono po_none fun σ H Q h => by
  obtain ⟨H0, F0, F, ρ, s, h⟩ := h
  exact h H F s.refl
theorem pok_some (ha : EOk X a ca) : POk X (some a) (some ca) := fun W tk => po_mono (po_some (ha W tk)) fun σ H Q h => by
  obtain ⟨H0, F0, F, ρ, s, h⟩ := h
  show rdE X.K X.mg ca W σ H fun x H1 => ∃ i, x = .int i ∧ Q (some i) H1
  simp only [ePart] at h
  cases e1 : ca ρ with
  | stuck => rw [e1] at h; exact h.elim
  | err x => rw [e1] at h; exact rdE_err s e1 h
  | ok x =>
    rw [e1] at h
    simp only [Res.bind] at h
    refine rdE_ok s e1 fun v H1 F1 A g1 o1 n1 => ?_
    have p := o1.dp (s.step g1)
    cases ed : x.d with
    | int i =>
      rw [ed] at p h
      exact ⟨i, rp_int p, h H1 F1 g1⟩
    | _ => rw [ed] at h; exact h.elim
theorem cut_ORs {K : Frag} {H F : Hp} : ∀ {xs : List Ow} {vs : List V} {A : List Addr} (m n : Nat), ORs K H F vs xs A → ∃ B, ORs K H F ((vs.drop m).take n) ((xs.drop m).take n) B ∧ ∀ b ∈ B, b ∈ A
  | [], _, _, m, n, .nil => ⟨[], by simpa using ORs.nil, fun _ h => by cases h⟩
  | x :: xs, _, _, 0, 0, .cons h r k => ⟨[], by simpa using ORs.nil, fun _ h => by cases h⟩
  | x :: xs, _, _, 0, n + 1, @ORs.cons _ _ _ v _ vs _ A1 A2 h r k => by
    obtain ⟨B, o, hB⟩ := cut_ORs 0 n r
    simp only [List.drop_zero] at o
    refine ⟨A1 ++ B, ?_, ?_⟩
    · simp only [List.drop_zero, List.take_succ_cons]
      exact .cons h o fun a ha hb => k a ha (hB a hb)
    · intro b hb
      rcases List.mem_append.mp hb with z | z
      · exact List.mem_append_left _ z
      · exact List.mem_append_right _ (hB b z)
  | x :: xs, _, _, m + 1, n, .cons h r k => by
    obtain ⟨B, o, hB⟩ := cut_ORs m n r
    exact ⟨B, by simpa using o, fun b hb => List.mem_append_right _ (hB b hb)⟩
theorem allfz_map : ∀ ds : List D, (ds.map Ow.fz).all isFz = true
  | [] => rfl
  | _ :: ds => allfz_map ds
theorem mkTup_fz (ds : List D) : mkTup (ds.map Ow.fz) = .fz (.tuple ds) := by
  unfold mkTup
  rw [if_pos (allfz_map ds), toDs_fz]
theorem cut_rp {K : Frag} {F : Hp} : ∀ {ds : List D} {vs : List V} (m n : Nat), RpAll K F vs ds → RpAll K F ((vs.drop m).take n) ((ds.drop m).take n)
  | [], _, m, n, .nil => by simpa using RpAll.nil
  | _ :: _, _, 0, 0, .cons _ _ => by simpa using RpAll.nil
  | _ :: _, _, 0, n + 1, .cons h r => by
    have := cut_rp 0 n r
    simp only [List.drop_zero, List.take_succ_cons] at this ⊢
    exact .cons h this
  | _ :: _, _, m + 1, n, .cons h r => by simpa using cut_rp m n r
def rSl (K : Frag) : V → Option Int → Option Int → Hp → VK → Prop := fun x lo hi H Q => rSlL K x lo hi H Q ∨ rSlA K x lo hi H Q
theorem sl_row : SlR X (rSl X.K) := sl_list.or sl_tupA
theorem whole_cut {α : Type} {xs : List α} {lo hi : Option Int} (h : HT.sIx xs.length 0 lo = 0 ∧ HT.sIx xs.length xs.length hi = xs.length) : cutL xs lo hi = xs := by
  unfold cutL
  rw [h.1, h.2]
  simp
theorem eok_slice {lo hi : Option Expr} {cl ch : Option EC} {p2 : Pos} (ha : EOk X a ca) (hl : POk X lo cl) (hh : POk X hi ch) : EOk X (.Subscript a (.Slice lo hi none p2) pos) (eSlice ca cl ch) := fun W tk =>
  pe_mono (pe_slice sl_row (ha W tk) (hl W tk) (hh W tk)) fun σ H Q h => by
    obtain ⟨H0, F0, F, ρ, s, h⟩ := h
    show rdE X.K X.mg ca W σ H fun x H1 => rdP X.K X.mg cl W σ H1 fun l H2 => rdP X.K X.mg ch W σ H2 fun u H3 => rSl X.K x l u H3 Q
    unfold eSlice at h
    cases e1 : ca ρ with
    | stuck => rw [e1] at h; exact h.elim
    | err x => rw [e1] at h; exact rdE_err s e1 h
    | ok rx =>
      rw [e1] at h
      simp only [Res.bind] at h
      refine rdE_ok s e1 fun x H1 F1 A g1 o1 n1 => ?_
      refine ⟨H0, F0, F1, ρ, s.step g1, ?_⟩
      cases e2 : ePart cl ρ with
      | stuck => rw [e2] at h; exact h.elim
      | err z => rw [e2] at h; exact fun cls d H' F' g => h cls d H' F' (g1.trans g)
      | ok l =>
        rw [e2] at h
        simp only at h
        intro H2 F2 g2
        refine ⟨H0, F0, F2, ρ, (s.step g1).step g2, ?_⟩
        cases e3 : ePart ch ρ with
        | stuck => rw [e3] at h; exact h.elim
        | err z => rw [e3] at h; exact fun cls d H' F' g => h cls d H' F' ((g1.trans g2).trans g)
        | ok u =>
          rw [e3] at h
          simp only at h
          intro H3 F3 g3
          have s3 := ((s.step g1).step g2).step g3
          have o3 := (o1.gr g2).gr g3
          have g := (g1.trans g2).trans g3
          have pp := o3.dp s3
          unfold fCut at h
          cases ed : rx.d with
          | list ds =>
            rw [ed] at h
            simp only at h
            cases e4 : rx.items with
            | none => rw [e4] at h; exact h.elim
            | some xs =>
              rw [e4] at h
              simp only at h
              obtain ⟨a, vs, B, rfl, hq, o, n⟩ := items_ok s3 o3 e4
              rw [ed] at hq
              rcases hq with ⟨_, hq⟩ | ⟨z, _⟩
              · refine .inl ⟨a, vs, rfl, hq.sqL, fun p hp => ?_⟩
                obtain ⟨C, oc, nc⟩ := cut_ORs (HT.sIx vs.length 0 l) (HT.sIx vs.length vs.length u - HT.sIx vs.length 0 l) o
                obtain ⟨gl, oo⟩ := fin_ls s3 oc hp
                have el : (xs.drop (HT.sIx vs.length 0 l)).take (HT.sIx vs.length vs.length u - HT.sIx vs.length 0 l) = cutL xs l u := by unfold cutL; rw [o.length]
                rw [el] at oo
                refine h _ _ _ _ (g.trans gl) oo fun c hc => ?_
                rcases List.mem_cons.mp hc with rfl | hc
                · exact g.hh.none hp
                · exact n1 c (n c (nc c hc))
              · cases z
          | tuple ds =>
            rw [ed] at h
            simp only at h
            match rx, o3, pp, ed, h with
            | .val (.fz (.tuple ds')), o3, pp, ed, h =>
              simp only at h
              have p := (OR.fz_inv o3).2
              cases p with
              | tup r ra =>
                refine .inr ⟨_, _, rfl, s3.sub.sqT r, fun hw => ?_, fun hw p hp => ?_⟩
                · rw [ra.length] at hw
                  rw [whole_cut hw] at h
                  exact h _ H3 F3 [] g (OR.fz (.tup r ra)) fun _ z => by cases z
                · have rc := cut_rp (HT.sIx ds'.length 0 l) (HT.sIx ds'.length ds'.length u - HT.sIx ds'.length 0 l) ra
                  obtain ⟨F', C, gt, oo, nn⟩ := fin_tup s3 (ORs.ofDp rc) hp
                  have em : mkTup (((ds'.drop (HT.sIx ds'.length 0 l)).take (HT.sIx ds'.length ds'.length u - HT.sIx ds'.length 0 l)).map Ow.fz) = .fz (.tuple (cutL ds' l u)) := by
                    rw [mkTup_fz]; rfl
                  rw [em] at oo
                  have el := ra.length
                  rw [← el] at gt
                  refine h _ _ F' C (g.trans (by unfold cutV; exact gt)) (by unfold cutV; rw [el]; exact oo) fun c hc => ?_
                  rcases nn c hc with rfl | hc
                  · exact g.hh.none hp
                  · cases hc
            | .val (.fz .none), _, _, _, h => exact h.elim
            | .val (.fz (.bool _)), _, _, _, h => exact h.elim
            | .val (.fz (.int _)), _, _, _, h => exact h.elim
            | .val (.fz (.str _)), _, _, _, h => exact h.elim
            | .val (.fz (.list _)), _, _, _, h => exact h.elim
            | .val (.fz (.dict _)), _, _, _, h => exact h.elim
            | .val (.ls _), _, _, _, h => exact h.elim
            | .val (.tp _), _, _, _, h => exact h.elim
            | .ref _ _ _, _, _, _, h => exact h.elim
            | .bor _, _, _, _, h => exact h.elim
          | _ => rw [ed] at h; exact h.elim
theorem pe_revU {k : Nat} {p1 p2 p3 : Pos} (te : TE) (h : PE X a te) : PE X (.Subscript a (.Slice none none (some (.UnaryOp .USub (.Constant (.int 1) k p1) p2)) p3) pos) (tUn (fun x H Q => ∃ a xs, x = .ref a ∧ SqL X.K H a xs ∧ ∀ p, H p = none → Q (.ref p) (upd H p (.lst xs.reverse))) te) := pe_revL h
theorem rev_ORs {K : Frag} {H F : Hp} : ∀ {xs : List Ow} {vs : List V} {A : List Addr}, ORs K H F vs xs A → ∃ B, ORs K H F vs.reverse xs.reverse B ∧ ∀ b ∈ B, b ∈ A
  | [], _, _, .nil => ⟨[], .nil, fun _ h => by cases h⟩
  | x :: xs, _, _, @ORs.cons _ _ _ v _ vs _ A1 A2 h r k => by
    obtain ⟨B, o, hB⟩ := rev_ORs r
    have o1 : ORs K H F [v] [x] (A1 ++ []) := .cons h .nil fun _ _ z => by cases z
    refine ⟨B ++ (A1 ++ []), ?_, ?_⟩
    · simp only [List.reverse_cons]
      exact o.append o1 fun a ha hb => k a (by simpa using hb) (hB a ha)
    · intro b hb
      rcases List.mem_append.mp hb with z | z
      · exact List.mem_append_right _ (hB b z)
      · exact List.mem_append_left _ (by simpa using z)
theorem op1_rev : Op1 X (fun x H Q => ∃ a xs, x = .ref a ∧ SqL X.K H a xs ∧ ∀ p, H p = none → Q (.ref p) (upd H p (.lst xs.reverse))) fRev := by
  intro H0 F0 F H σ ρ x A rx Q s hx
  unfold fRev
  cases ed : rx.d with
  | list ds =>
    simp only
    cases e : rx.items with
    | none => trivial
    | some xs =>
      intro k
      obtain ⟨a, vs, B, rfl, hq, o, n⟩ := items_ok s hx e
      rw [ed] at hq
      rcases hq with ⟨_, hq⟩ | ⟨z, _⟩
      · refine ⟨a, vs, rfl, hq.sqL, fun p hp => ?_⟩
        obtain ⟨C, oc, nc⟩ := rev_ORs o
        obtain ⟨g, oo⟩ := fin_ls s oc hp
        refine k _ _ _ _ g oo fun c hc => ?_
        rcases List.mem_cons.mp hc with rfl | hc
        · exact .inr hp
        · exact .inl (n c (nc c hc))
      · cases z
  | _ => trivial
theorem eok_rev {k : Nat} {p1 p2 p3 : Pos} (ha : EOk X a ca) : EOk X (.Subscript a (.Slice none none (some (.UnaryOp .USub (.Constant (.int 1) k p1) p2)) p3) pos) (eUn fRev ca) := eok_un (fun te h => pe_revU te h) op1_rev ha
end
end VL

set_option Elab.async false
set_option linter.all false
set_option maxRecDepth 100000
set_option maxHeartbeats 4000000
/-! VL7: targets, what is walked, comprehensions, statements, loops, defs. -/
namespace VL
open PySem PySem.Spec PyProof.Rows L2

/-! ### slots are set -/
def VOk (K : Frag) (H0 H F : Hp) (x : V) (B : List Addr) : Sl → Prop
  | .own ow => OR K H F x ow B ∧ ∀ b ∈ B, H0 b = none
  | .bor d => B = [] ∧ Rp K H0 x d
section
variable {K : Frag} {mg : Str → Option Value} {W : WX} {σ : S} {H H0 F0 F : Hp} {ρ : Rho} {A : Nat → List Addr}
theorem SRA.set (s : SRA K H0 F0 A σ H F ρ) {i : Nat} {x : V} {sl : Sl} {B : List Addr} (h : VOk K H0 H F x B sl) (hd : ∀ b ∈ B, ∀ j, b ∉ A j) :
    ∃ A', SRA K H0 F0 A' (σ.set i (some x)) H F (ρ.set i (some sl)) ∧ ∀ j, ∀ a ∈ A' j, a ∈ A j ∨ a ∈ B := by
  by_cases hi : i < σ.length
  · refine ⟨fun j => if j = i then B else A j, ⟨by simp [s.len], s.gr, fun j => ?_, fun j k hjk a ha hb => ?_⟩, fun j a ha => ?_⟩
    · by_cases e : j = i
      · subst e
        have hr : j < ρ.length := by rw [s.len]; exact hi
        simp only [if_true, List.getElem?_set_self hr]
        cases sl with
        | own ow => exact ⟨x, List.getElem?_set_self hi, h.1, h.2⟩
        | bor d => exact ⟨h.1, x, List.getElem?_set_self hi, h.2⟩
      · have q := s.sl j
        simp only [e, if_false, List.getElem?_set_ne (Ne.symm e)]
        match o : ρ[j]?, q with
        | some (some (.own ow)), ⟨v, e1, q⟩ => exact ⟨v, by rw [List.getElem?_set_ne (Ne.symm e)]; exact e1, q⟩
        | some (some (.bor d)), ⟨e0, v, e1, q⟩ => exact ⟨e0, v, by rw [List.getElem?_set_ne (Ne.symm e)]; exact e1, q⟩
        | some none, q => exact q
        | none, q => exact q
    · by_cases e1 : j = i
      · have e2 : ¬ k = i := fun z => hjk (e1.trans z.symm)
        simp only [e1, e2, if_true, if_false] at ha hb
        exact hd a ha k hb
      · by_cases e2 : k = i
        · simp only [e1, e2, if_true, if_false] at ha hb
          exact hd a hb j ha
        · simp only [e1, e2, if_false] at ha hb
          exact s.ap j k hjk a ha hb
    · by_cases e : j = i
      · simp only [e, if_true] at ha; exact .inr ha
      · simp only [e, if_false] at ha; exact .inl ha
  · have hr : ¬ i < ρ.length := by rw [s.len]; exact hi
    rw [List.set_eq_of_length_le (by omega), List.set_eq_of_length_le (by omega)]
    exact ⟨A, s, fun j a ha => .inl ha⟩
theorem SRA.wipe1 (s : SRA K H0 F0 A σ H F ρ) (i : Nat) : ∃ A', SRA K H0 F0 A' (σ.set i none) H F (ρ.set i none) ∧ ∀ j, ∀ a ∈ A' j, a ∈ A j := by
  refine ⟨fun j => if j = i then [] else A j, ⟨by simp [s.len], s.gr, fun j => ?_, fun j k hjk a ha hb => ?_⟩, fun j a ha => ?_⟩
  · by_cases e : j = i
    · subst e
      simp only [if_true]
      by_cases hr : j < ρ.length
      · rw [List.getElem?_set_self hr]; rfl
      · rw [List.getElem?_eq_none (by simp; omega)]; rfl
    · have q := s.sl j
      simp only [e, if_false, List.getElem?_set_ne (Ne.symm e)]
      match o : ρ[j]?, q with
      | some (some (.own ow)), ⟨v, e1, q⟩ => exact ⟨v, by rw [List.getElem?_set_ne (Ne.symm e)]; exact e1, q⟩
      | some (some (.bor d)), ⟨e0, v, e1, q⟩ => exact ⟨e0, v, by rw [List.getElem?_set_ne (Ne.symm e)]; exact e1, q⟩
      | some none, q => exact q
      | none, q => exact q
  · by_cases e1 : j = i
    · simp only [e1, if_true] at ha; cases ha
    · by_cases e2 : k = i
      · simp only [e2, if_true] at hb; cases hb
      · simp only [e1, e2, if_false] at ha hb
        exact s.ap j k hjk a ha hb
  · by_cases e : j = i
    · simp only [e, if_true] at ha; cases ha
    · simp only [e, if_false] at ha; exact ha
theorem SRA.wipe (s : SRA K H0 F0 A σ H F ρ) : ∀ vs : List Nat, ∃ A', SRA K H0 F0 A' (wipe σ vs) H F (wipeR vs ρ) ∧ ∀ j, ∀ a ∈ A' j, a ∈ A j
  | [] => ⟨A, s, fun _ _ h => h⟩
  | v :: vs => by
    obtain ⟨A1, s1, h1⟩ := SRA.wipe s vs
    obtain ⟨A2, s2, h2⟩ := s1.wipe1 v
    exact ⟨A2, s2, fun j a h => h1 j a (h2 j a h)⟩
inductive VOks (K : Frag) (H0 H F : Hp) : List V → List Addr → List Sl → Prop
  | nil : VOks K H0 H F [] [] []
  | cons {x : V} {xs : List V} {B C : List Addr} {s : Sl} {ss : List Sl} : VOk K H0 H F x B s → VOks K H0 H F xs C ss → (∀ b ∈ B, b ∉ C) → VOks K H0 H F (x :: xs) (B ++ C) (s :: ss)
def gNames : List Nat → TGs
  | [] => gNil
  | i :: is => gCons (gName i) (gNames is)
theorem gNames_ok : ∀ {tg : List Nat} {xs : List V} {ss : List Sl} {B : List Addr} {σ : S} {ρ : Rho} {A : Nat → List Addr} {Q : S → Hp → Prop}, SRA K H0 F0 A σ H F ρ → VOks K H0 H F xs B ss → ss.length = tg.length → (∀ b ∈ B, ∀ j, b ∉ A j) →
    (∀ σ' A', SRA K H0 F0 A' σ' H F (setAll tg ss ρ) → (∀ j, j ∉ tg → σ'[j]? = σ[j]?) → (∀ j, ∀ a ∈ A' j, a ∈ A j ∨ a ∈ B) → σ'.length = σ.length → Q σ' H) → gNames tg xs σ H Q
  | [], _, _, _, σ, ρ, A, Q, s, .nil, _, _, k => ⟨rfl, k σ A s (fun _ _ => rfl) (fun _ _ h => .inl h) rfl⟩
  | [], _, _, _, _, _, _, _, _, .cons _ _ _, hl, _, _ => by simp at hl
  | _ :: _, _, _, _, _, _, _, _, _, .nil, hl, _, _ => by simp at hl
  | i :: tg, _, _, _, σ, ρ, A, Q, s, @VOks.cons _ _ _ _ x xs B C sl ss h r n, hl, hd, k => by
    obtain ⟨A1, s1, h1⟩ := s.set (i := i) h fun b hb j => hd b (List.mem_append_left _ hb) j
    refine ⟨x, xs, rfl, gNames_ok s1 r (by simpa using hl) (fun b hb j hj => ?_) fun σ' A' s' e a l => k σ' A' s' (fun j hj => ?_) (fun j x hx => ?_) (by rw [l]; simp)⟩
    · rcases h1 j b hj with z | z
      · exact hd b (List.mem_append_right _ hb) j z
      · exact n b z hb
    · simp only [List.mem_cons, not_or] at hj
      rw [e j hj.2, List.getElem?_set_ne (Ne.symm hj.1)]
    · rcases a j x hx with z | z
      · rcases h1 j x z with q | q
        · exact .inl q
        · exact .inr (List.mem_append_left _ q)
      · exact .inr (List.mem_append_right _ z)
end

/-! ### what is walked -/
/-- at turn i of J the targets get items[i] -/
structure IterOk (K : Frag) (H0 Fi : Hp) (J : It) (g : TG) (tg : List Nat) (items : List (List Sl)) : Prop where
  go : ∀ i H F, Gr H0 Fi H F → i < items.length → J.go i H
  stop : ∀ H F, Gr H0 Fi H F → J.stop items.length H
  turn : ∀ i s A σ H F ρ x H' (Q : S → Hp → Prop), items[i]? = some s → SRA K H0 Fi A σ H F ρ → J.yld i H x H' →
    (∀ A' σ' H2 F2, SRA K H0 Fi A' σ' H2 F2 (setAll tg s ρ) → Gr H F H2 F2 → (∀ j, j ∉ tg → σ'[j]? = σ[j]?) → (∀ j, ∀ a ∈ A' j, a ∈ A j) → σ'.length = σ.length → Q σ' H2) → g x σ H' Q
def rdI (K : Frag) (mg : Str → Option Value) (g : TG) (tg : List Nat) (c : IC) (W : WX) : TI := fun σ H R => ∃ H0 F0 F ρ, SR K H0 F0 σ H F ρ ∧ match c ρ with
  | .ok items => ∀ J H1 F1, Gr H F H1 F1 → IterOk K H0 F1 J g tg items → R J H1
  | .err x => ∀ cls d H' F', Gr H F H' F' → XOk K mg F' H' cls d x → W cls d σ H'
  | .stuck => False
def IOk (X : Cx) (tgE iter : Expr) (g : TG) (tg : List Nat) (c : IC) : Prop := ∀ W, Takes X W → PI X tgE iter (rdI X.K X.mg g tg c W)
theorem pi_mono {X : Cx} {tgE iter : Expr} {t t' : TI} (h : PI X tgE iter t) (k : ∀ σ H R, t' σ H R → t σ H R) : PI X tgE iter t' := ⟨fun pins s σ H R I q => h.run pins s σ H R I (k σ H R q)⟩
/-- a list or a tuple, whichever it is -/
def iRowV (K : Frag) (tl : TE) : TI := fun σ H R => tl σ H fun x H1 => ∃ a, x = .ref a ∧ ((∃ xs, SqL K H1 a xs ∧ R (Itl K a) H1) ∨ (∃ xs, SqT K H1 a xs ∧ R (Itt K a) H1))
theorem pi_rowV {X : Cx} {tg l : Expr} {tl : TE} (hl : PE X l tl) : PI X tg l (iRowV X.K tl) := by
  refine ⟨fun pins s σ H R I h => ?_⟩
  refine thn (hl.run pins s σ H _ I h) fun v s1 ⟨x, H1, I1, r1, q1⟩ => ?_
  obtain ⟨a, e, q⟩ := q1
  subst e
  cases r1
  rcases q with ⟨xs, hq, q⟩ | ⟨xs, hq, q⟩
  · obtain ⟨its, rv, p, hz⟩ := I1.list hq
    refine wpAny_pyIter_list p.isList ?_
    refine ⟨s1.heap.objs.size, [s1.heap.objs.size], _, _, H1, rfl, I1.kept (t' := s1.toks) fun b o e => Heap.get?_push_of_some _ e, turn_list a _, ⟨_, Heap.get?_push_size _ rfl, rfl, rfl⟩, fun b hb => ?_, q⟩
    have e : b = s1.heap.objs.size := by simpa using hb
    subst e
    exact I1.fpOk (Nat.le_refl _) (I1.hok.fresh (Nat.le_refl _))
  · obtain ⟨its, rv, p, hz⟩ := I1.tuple hq
    refine wpAny_pyIter_tuple (show s1.heap.IsTuple a its.toArray from p) ?_
    refine ⟨s1.heap.objs.size, [s1.heap.objs.size], _, _, H1, rfl, I1.kept (t' := s1.toks) fun b o e => Heap.get?_push_of_some _ e, turn_tuple a _, ⟨_, Heap.get?_push_size _ rfl, rfl, rfl⟩, fun b hb => ?_, q⟩
    have e : b = s1.heap.objs.size := by simpa using hb
    subst e
    exact I1.fpOk (Nat.le_refl _) (I1.hok.fresh (Nat.le_refl _))
def It1 (K : Frag) (H0 F : Hp) (v : V) : Sl → Prop
  | .own (.fz d) => Rp K F v d
  | .bor d => Rp K H0 v d
  | _ => False
theorem It1.vok {K : Frag} {H0 Fi H F : Hp} {v : V} {s : Sl} (h : It1 K H0 Fi v s) (g : Sub Fi F) : VOk K H0 H F v [] s := by
  match s, h with
  | .own (.fz d), h => exact ⟨OR.fz (Rp.mono g h), fun _ z => by cases z⟩
  | .bor d, h => exact ⟨rfl, h⟩
theorem it1_fz {K : Frag} {H0 F : Hp} : ∀ {ds : List D} {vs : List V}, RpAll K F vs ds → Paired (It1 K H0 F) vs (ds.map slOf)
  | [], _, .nil => .nil
  | _ :: _, _, .cons h r => .cons h (it1_fz r)
theorem it1_bor {K : Frag} {H0 F : Hp} : ∀ {ds : List D} {vs : List V}, RpAll K H0 vs ds → Paired (It1 K H0 F) vs (ds.map slBor)
  | [], _, .nil => .nil
  | d :: ds, _, .cons h r => .cons (by
      unfold slBor
      by_cases hs : scal d = true
      · rw [if_pos hs, h.scal_eq hs]; exact Rp.scal F hs
      · rw [if_neg hs]; exact h) (it1_bor r)
/-- a row that stands still -/
def Still (K : Frag) (H0 Fi : Hp) (a : Addr) (vs : List V) (l : Bool) : Prop :=
  if l = true then SqL K Fi a vs ∨ SqL K H0 a vs else SqT K Fi a vs ∨ SqT K H0 a vs
theorem iter_ok {K : Frag} {H0 F0 H F Hs Fs : Hp} {σ : S} {ρ : Rho} {v : V} {A : List Addr} {rv : RV} {ss : List Sl} (s : SR K H0 F0 σ H F ρ) (h : RVOk K H0 H F σ ρ v A rv) (g : Gr Hs Fs H F) (hA : ∀ a ∈ A, Hs a = none) (e : rv.iter = some ss) :
    ∃ a vs F' l, v = .ref a ∧ Gr Hs Fs H F' ∧ Still K H0 F' a vs l ∧ Paired (It1 K H0 F') vs ss := by
  match rv, h, e with
  | .val ow, h, e =>
    simp only [RV.iter] at e
    cases e1 : rowOf ow.toD with
    | none => rw [e1] at e; cases e
    | some ds =>
      rw [e1] at e
      cases e
      have p := OR.freeze h
      have g2 := g.frozen hA fun a ha => (OR.there h a ha).2
      cases ed : ow.toD with
      | list es =>
        rw [ed] at p e1
        cases e1
        cases p with
        | lst r ra => exact ⟨_, _, _, true, rfl, g2, .inl r.sqL, it1_fz ra⟩
      | tuple es =>
        rw [ed] at p e1
        cases e1
        cases p with
        | tup r ra => exact ⟨_, _, _, false, rfl, g2, .inl r, it1_fz ra⟩
      | _ => rw [ed] at e1; cases e1
  | .ref _ _ _, _, e => simp only [RV.iter] at e; cases e
  | .bor d, ⟨_, p⟩, e =>
    simp only [RV.iter] at e
    cases e1 : rowOf d with
    | none => rw [e1] at e; cases e
    | some ds =>
      rw [e1] at e
      cases e
      cases d with
      | list es =>
        cases e1
        cases p with
        | lst r ra => exact ⟨_, _, F, true, rfl, g, .inr r.sqL, it1_bor ra⟩
      | tuple es =>
        cases e1
        cases p with
        | tup r ra => exact ⟨_, _, F, false, rfl, g, .inr r, it1_bor ra⟩
      | _ => cases e1
theorem Still.lst {K : Frag} {H0 Fi H F : Hp} {a : Addr} {vs : List V} (h : Still K H0 Fi a vs true) (g : Gr H0 Fi H F) : SqL K H a vs := by
  rcases h with h | h
  · exact (g.ff.trans g.fh').sqL h
  · exact g.hh.sqL h
theorem Still.tup {K : Frag} {H0 Fi H F : Hp} {a : Addr} {vs : List V} (h : Still K H0 Fi a vs false) (g : Gr H0 Fi H F) : SqT K H a vs := by
  rcases h with h | h
  · exact (g.ff.trans g.fh').sqT h
  · exact g.hh.sqT h
theorem rd_inj {H : Hp} {a : Addr} {xs ys : List V} (h : Rd H a (.lst xs)) (h' : Rd H a (.lst ys)) : xs = ys := by
  rcases h with h | ⟨o, h⟩ <;> rcases h' with h' | ⟨o', h'⟩ <;> first | (rw [h] at h'; cases h'; rfl) | (rw [h] at h'; cases h')
theorem Paired.get2 {α β : Type} {G : α → β → Prop} : ∀ {l₁ : List α} {l₂ : List β} {i : Nat} {b : β}, Paired G l₁ l₂ → l₂[i]? = some b → ∃ a, l₁[i]? = some a ∧ G a b
  | _, _, _, _, .nil, e => by simp at e
  | _, _, 0, _, .cons h _, e => by simp at e; subst e; exact ⟨_, rfl, h⟩
  | _, _, i + 1, _, .cons _ r, e => by
    obtain ⟨a, h1, h2⟩ := Paired.get2 (i := i) r (by simpa using e)
    exact ⟨a, by simpa using h1, h2⟩
theorem itl_yld {K : Frag} {i : Nat} {a : Addr} {H H' : Hp} {vs : List V} {x : V} (r : SqL K H a vs) (y : (Itl K a).yld i H x H') : H' = H ∧ vs[i]? = some x := ⟨y.1, y.2 vs r⟩
theorem itt_yld {K : Frag} {i : Nat} {a : Addr} {H H' : Hp} {vs : List V} {x : V} (r : SqT K H a vs) (y : (Itt K a).yld i H x H') : H' = H ∧ vs[i]? = some x := ⟨y.1, y.2 vs r⟩
/-- for x in a row -/
theorem still_iter {K : Frag} {H0 Fi : Hp} {a : Addr} {vs : List V} {l : Bool} {ss : List Sl} {i : Nat} (h : Still K H0 Fi a vs l) (p : Paired (It1 K H0 Fi) vs ss) :
    IterOk K H0 Fi (if l = true then Itl K a else Itt K a) (gName i) [i] (ss.map fun s => [s]) := by
  have hlen := Paired.length p
  have key : ∀ (k : Nat) (s : List Sl) (A : Nat → List Addr) (σ : S) (H F : Hp) (ρ : Rho) (x : V) (Q : S → Hp → Prop), (ss.map fun s => [s])[k]? = some s → SRA K H0 Fi A σ H F ρ → vs[k]? = some x →
      (∀ A' σ' H2 F2, SRA K H0 Fi A' σ' H2 F2 (setAll [i] s ρ) → Gr H F H2 F2 → (∀ j, j ∉ [i] → σ'[j]? = σ[j]?) → (∀ j, ∀ a ∈ A' j, a ∈ A j) → σ'.length = σ.length → Q σ' H2) → gName i x σ H Q := by
    intro k s A σ H F ρ x Q e sr hx kk
    rw [List.getElem?_map] at e
    cases es : ss[k]? with
    | none => rw [es] at e; cases e
    | some t =>
      rw [es] at e
      cases e
      obtain ⟨y, hy, ht⟩ := Paired.get2 p es
      rw [hx] at hy
      cases hy
      obtain ⟨A', s', ha⟩ := sr.set (i := i) (ht.vok (H := H) sr.gr.ff) fun _ z => by cases z
      refine kk A' (σ.set i (some x)) H F s' (Gr.refl sr.gr.fh') (fun j hj => ?_) (fun j b hb => ?_) (by simp)
      · simp only [List.mem_singleton] at hj
        exact List.getElem?_set_ne (Ne.symm hj)
      · rcases ha j b hb with z | z
        · exact z
        · cases z
  cases l with
  | true =>
    simp only [if_true]
    refine ⟨fun k H F g hk => ?_, fun H F g => ?_, fun k s A σ H F ρ x H' Q e sr y kk => ?_⟩
    · have hk' : k < vs.length := by rw [hlen]; simpa using hk
      exact ⟨vs, vs[k], h.lst g, List.getElem?_eq_getElem hk'⟩
    · exact ⟨vs, h.lst g, by rw [hlen]; simp⟩
    · obtain ⟨e1, e2⟩ := itl_yld (h.lst sr.gr) y
      subst e1
      exact key k s A σ _ F ρ x Q e sr e2 kk
  | false =>
    simp only [Bool.false_eq_true, if_false]
    refine ⟨fun k H F g hk => ?_, fun H F g => ?_, fun k s A σ H F ρ x H' Q e sr y kk => ?_⟩
    · have hk' : k < vs.length := by rw [hlen]; simpa using hk
      exact ⟨vs, vs[k], h.tup g, List.getElem?_eq_getElem hk'⟩
    · exact ⟨vs, h.tup g, by rw [hlen]; simp⟩
    · obtain ⟨e1, e2⟩ := itt_yld (h.tup sr.gr) y
      subst e1
      exact key k s A σ _ F ρ x Q e sr e2 kk
section
variable {X : Cx} {tgE l : Expr} {i : Nat}
theorem iok_row {c : EC} (h : EOk X l c) : IOk X tgE l (gName i) [i] (iRow c) := fun W tk => pi_mono (pi_rowV (h W tk)) fun σ H R q => by
  obtain ⟨H0, F0, F, ρ, s, q⟩ := q
  show rdE X.K X.mg c W σ H fun x H1 => ∃ a, x = .ref a ∧ ((∃ xs, SqL X.K H1 a xs ∧ R (Itl X.K a) H1) ∨ (∃ xs, SqT X.K H1 a xs ∧ R (Itt X.K a) H1))
  unfold iRow at q
  cases e1 : c ρ with
  | stuck => rw [e1] at q; exact q.elim
  | err x => rw [e1] at q; exact rdE_err s e1 q
  | ok rv =>
    rw [e1] at q
    simp only [Res.bind] at q
    refine rdE_ok s e1 fun v H1 F1 A g o n => ?_
    cases e2 : rv.iter with
    | none => rw [e2] at q; exact q.elim
    | some ss =>
      rw [e2] at q
      simp only at q
      have s1 := s.step g
      obtain ⟨a, vs, F', lb, rfl, g2, st, p⟩ := iter_ok s1 o g n e2
      have it := still_iter (i := i) st p
      have g1' : Gr H0 F0 H1 F' := s.gr.trans g2
      cases lb with
      | true =>
        simp only [if_true] at it
        exact ⟨a, rfl, .inl ⟨vs, st.lst ⟨s1.gr.hh, Sub.refl _, fun _ h => .inl h, g2.fh'⟩, q _ H1 F' g2 it⟩⟩
      | false =>
        simp only [Bool.false_eq_true, if_false] at it
        exact ⟨a, rfl, .inr ⟨vs, st.tup ⟨s1.gr.hh, Sub.refl _, fun _ h => .inl h, g2.fh'⟩, q _ H1 F' g2 it⟩⟩
theorem range_iter {K : Frag} {H0 Fi : Hp} (lo hi : Int) : IterOk K H0 Fi (Itr lo (hi - lo).toNat) (gName i) [i] (rangeS lo hi) := by
  have hlen : (rangeS lo hi).length = (hi - lo).toNat := by simp [rangeS]
  refine ⟨fun k H F g hk => by rw [hlen] at hk; exact hk, fun H F g => by rw [hlen]; exact Nat.le_refl _, fun k s A σ H F ρ x H' Q e sr y kk => ?_⟩
  obtain ⟨e1, e2⟩ := y
  subst e1
  have es : s = [slOf (.int (lo + k))] := by
    unfold rangeS at e
    rw [List.getElem?_map] at e
    by_cases hk : k < (hi - lo).toNat
    · rw [List.getElem?_range hk] at e
      cases e; rfl
    · rw [List.getElem?_eq_none (by simp; omega)] at e
      cases e
  subst es
  subst e2
  obtain ⟨A', s', ha⟩ := sr.set (i := i) (x := .int (lo + k)) (sl := slOf (.int (lo + k))) (B := []) ⟨OR.fz (.int _), fun _ z => by cases z⟩ fun _ z => by cases z
  refine kk A' _ _ F s' (Gr.refl sr.gr.fh') (fun j hj => ?_) (fun j b hb => ?_) (by simp)
  · simp only [List.mem_singleton] at hj
    exact List.getElem?_set_ne (Ne.symm hj)
  · rcases ha j b hb with z | z
    · exact z
    · cases z
theorem iok_rng1 {a : Expr} {ca : EC} {p pos : Pos} (hm : X.mg "range" = none) (h : EOk X a ca) (hg : Gl X "range" := by rfl) (he : starEach [a] X.env = (false, eval a X.env) :: starEach [] X.env := by rfl) (hs : starEach [a] X.env = [(false, eval a X.env)] := by rfl) : IOk X tgE (.Call (.Name "range" p) [a] [] pos) (gName i) [i] (iRng1 ca) := fun W tk =>
  pi_mono (pi_range1 hg hm (pa_cons (h W tk) pa_nil he) hs) fun σ H R q => by
    obtain ⟨H0, F0, F, ρ, s, q⟩ := q
    show rdE X.K X.mg ca W σ H fun x H1 => ∃ j : Int, [x] = [.int j] ∧ -(2 ^ 62) ≤ j ∧ j < 2 ^ 62 ∧ R (Itr 0 j.toNat) H1
    unfold iRng1 at q
    cases e1 : ca ρ with
    | stuck => rw [e1] at q; exact q.elim
    | err x => rw [e1] at q; exact rdE_err s e1 q
    | ok rv =>
      rw [e1] at q
      simp only [Res.bind] at q
      refine rdE_ok s e1 fun v H1 F1 A g o n => ?_
      have pp := o.dp (s.step g)
      cases ed : rv.d with
      | int j =>
        rw [ed] at pp q
        obtain rfl := rp_int pp
        simp only at q
        by_cases hc : rngOk j = true
        · simp only [hc, if_true] at q
          have hc' := hc
          simp only [rngOk, Bool.and_eq_true, decide_eq_true_eq] at hc'
          have := range_iter (K := X.K) (H0 := H0) (Fi := F1) (i := i) 0 j
          rw [show (j - 0) = j by omega] at this
          exact ⟨j, rfl, hc'.1, hc'.2, q _ H1 F1 g this⟩
        · simp only [hc] at q
          exact q.elim
      | _ => rw [ed] at q; exact q.elim
theorem iok_rng2 {a b : Expr} {ca cb : EC} {p pos : Pos} (hm : X.mg "range" = none) (h : EOk X a ca) (h' : EOk X b cb) (hg : Gl X "range" := by rfl) (he : starEach [a, b] X.env = (false, eval a X.env) :: starEach [b] X.env := by rfl) (he2 : starEach [b] X.env = (false, eval b X.env) :: starEach [] X.env := by rfl)
    (hs : starEach [a, b] X.env = [(false, eval a X.env), (false, eval b X.env)] := by rfl) (hs2 : starEach [b] X.env = [(false, eval b X.env)] := by rfl) : IOk X tgE (.Call (.Name "range" p) [a, b] [] pos) (gName i) [i] (iRng2 ca cb) := fun W tk =>
  pi_mono (pi_range2 hg hm (pa_cons (h W tk) (pa_cons (h' W tk) pa_nil he2) he) hs hs2) fun σ H R q => by
    obtain ⟨H0, F0, F, ρ, s, q⟩ := q
    show rdE X.K X.mg ca W σ H fun x H1 => rdE X.K X.mg cb W σ H1 fun y H2 => ∃ i j : Int, [x, y] = [.int i, .int j] ∧ (-(2 ^ 62) ≤ i ∧ i < 2 ^ 62 ∧ -(2 ^ 62) ≤ j ∧ j < 2 ^ 62) ∧ R (Itr i (j - i).toNat) H2
    unfold iRng2 at q
    cases e1 : ca ρ with
    | stuck => rw [e1] at q; exact q.elim
    | err x => rw [e1] at q; exact rdE_err s e1 q
    | ok rv =>
      rw [e1] at q
      simp only [Res.bind] at q
      refine rdE_ok s e1 fun v H1 F1 A g o n => ?_
      cases e2 : cb ρ with
      | stuck => rw [e2] at q; exact q.elim
      | err x => rw [e2] at q; exact rdE_err (s.step g) e2 fun cls d H' F' g' => q cls d H' F' (g.trans g')
      | ok rw' =>
        rw [e2] at q
        simp only at q
        refine rdE_ok (s.step g) e2 fun w H2 F2 B g2 o2 n2 => ?_
        have pp := (o.gr g2).dp ((s.step g).step g2)
        have pq := o2.dp ((s.step g).step g2)
        cases ed : rv.d with
        | int k =>
          cases ee : rw'.d with
          | int j =>
            rw [ed] at pp
            rw [ee] at pq
            rw [ed, ee] at q
            obtain rfl := rp_int pp
            obtain rfl := rp_int pq
            simp only at q
            by_cases hc : rngOk k = true ∧ rngOk j = true
            · simp only [hc, and_self, if_true] at q
              have hc' := hc
              simp only [rngOk, Bool.and_eq_true, decide_eq_true_eq] at hc'
              exact ⟨k, j, rfl, ⟨hc'.1.1, hc'.1.2, hc'.2.1, hc'.2.2⟩, q _ H2 F2 (g.trans g2) (range_iter k j)⟩
            · simp only [hc] at q
              exact q.elim
          | _ => rw [ed, ee] at q; exact q.elim
        | _ => rw [ed] at q; exact q.elim
end
end VL

set_option Elab.async false
set_option linter.all false
set_option maxRecDepth 100000
set_option maxHeartbeats 4000000
/-! VL8: comprehensions, statements, loops, defs. -/
namespace VL
open PySem PySem.Spec PyProof.Rows L2

/-! ### comprehensions -/
theorem setAll_len : ∀ (tg : List Nat) (ss : List Sl) (ρ : Rho), (setAll tg ss ρ).length = ρ.length
  | [], _, _ => rfl
  | _ :: _, [], _ => rfl
  | i :: tg, s :: ss, ρ => by rw [setAll, setAll_len tg ss]; simp
theorem wipe_get {i : Nat} : ∀ {vs : List Nat} {σ : S}, i ∈ vs → i < σ.length → (wipe σ vs)[i]? = some none
  | [], _, h, _ => by cases h
  | v :: vs, σ, h, hl => by
    unfold wipe
    by_cases e : v = i
    · subst e
      exact List.getElem?_set_self (by rw [wipe_length]; exact hl)
    · rw [List.getElem?_set_ne e]
      exact wipe_get ((List.mem_cons.mp h).resolve_left (Ne.symm e)) hl
theorem wipe_ext {σ σ' : S} {vs : List Nat} (hl : σ'.length = σ.length) (h : ∀ j, j ∉ vs → σ'[j]? = σ[j]?) : wipe σ' vs = wipe σ vs := by
  apply List.ext_getElem?
  intro j
  by_cases hj : j ∈ vs
  · by_cases hs : j < σ.length
    · rw [wipe_get hj (by rw [hl]; exact hs), wipe_get hj hs]
    · rw [List.getElem?_eq_none (by rw [wipe_length, hl]; omega), List.getElem?_eq_none (by rw [wipe_length]; omega)]
  · rw [wipe_out hj, wipe_out hj, h j hj]
theorem wipe_wipe {σ : S} {vs : List Nat} : wipe (wipe σ vs) vs = wipe σ vs := wipe_ext (wipe_length _ _) fun j hj => wipe_out hj
def CompOk (X : Cx) (scope : Scope) (tg : Expr) (g : TG) (ifs : List Expr) (t : TC) (elt : Expr) (c : EC) : Prop :=
  ∀ (s : Shared) (H : Hp) (C : Addr) (cl : List (Str × Addr)) (fp : List Addr), PG (X.blk s H scope (compEnvC scope cl C X.env) fp) tg g ∧ PTs (X.blk s H scope (compEnvC scope cl C X.env) fp) ifs (rdT X.K X.mg t fun _ _ _ _ => False) ∧ EOk (X.blk s H scope (compEnvC scope cl C X.env) fp) elt c
theorem pts_nilV {X : Cx} : PTs X [] (rdT X.K X.mg VL.tYes fun _ _ _ _ => False) := ⟨fun pins s σ H Q I h => by
  obtain ⟨H0, F0, F, ρ, sr, h⟩ := h
  exact pts_nil.run pins s σ H Q I (h H F sr.refl)⟩
theorem pts_oneV {X : Cx} {e : Expr} {t : TC} (h : TOk X e t) : PTs X [e] (rdT X.K X.mg t fun _ _ _ _ => False) := pts_one (h _ takes0)
theorem comp_rd {K : Frag} {mg : Str → Option Value} {W : WX} {ic : IC} {g : TG} {tg : List Nat} {t : TC} {c : EC} {σ : S} {H : Hp} {Q : VK} (h : rdE K mg (eComp tg ic t c) W σ H Q) :
    tLc (rdI K mg g tg ic W) g (rdT K mg t fun _ _ _ _ => False) (rdE K mg c fun _ _ _ _ => False) tg σ H Q := by
  obtain ⟨H0, F0, F, ρ, s, h⟩ := h
  unfold eComp at h
  refine ⟨H0, F0, F, ρ, s, ?_⟩
  cases e1 : ic ρ with
  | stuck => rw [e1] at h; exact h.elim
  | err x => rw [e1] at h; exact h
  | ok items =>
    rw [e1] at h
    simp only [Res.bind] at h
    intro J H1 F1 gr it D hD
    by_cases hc : items.length ≤ 16777216
    case neg => simp only [hc, if_false] at h
    simp only [hc, if_true] at h
    cases e2 : compL tg t c items (wipeR tg ρ) with
    | stuck => rw [e2] at h; exact h.elim
    | err x => rw [e2] at h; exact h.elim
    | ok os =>
      rw [e2] at h
      simp only at h
      have s1 := s.step gr
      obtain ⟨A0, sa⟩ := s1.sra
      have rb : SRA K H0 F1 A0 σ H1 F1 ρ := ⟨sa.len, ⟨sa.gr.hh, Sub.refl _, fun _ h => .inl h, sa.gr.fh'⟩, sa.sl, sa.ap⟩
      obtain ⟨A1, sw, hw⟩ := rb.wipe tg
      have A1H : ∀ j, ∀ a ∈ A1 j, H1 a ≠ none ∧ F1 a = none := fun j a ha => let q := (sa.sl j).there a (hw j a ha); ⟨q.1, q.2.1⟩
      have F1D : F1 D = none := sa.gr.fh'.none hD
      have H0D : H0 D = none := sa.gr.hh.none hD
      -- the invariant
      refine ⟨fun i m H' => m = items.length - i ∧ i ≤ items.length ∧ ∃ F' acc done rest A B, Gr H1 F1 H' F' ∧ SRA K H0 F1 A (wipe σ tg) H' F' (wipeR tg ρ) ∧ (∀ j, ∀ a ∈ A j, H1 a ≠ none) ∧ H' D = some (.lst acc) ∧ F' D = none ∧ ORs K H' F' acc done B ∧ (∀ b ∈ B, H1 b = none ∧ b ≠ D) ∧
        acc.length ≤ i ∧ compL tg t c (items.drop i) (wipeR tg ρ) = .ok rest ∧ os = done ++ rest, ⟨items.length, by simp, Nat.zero_le _, F1, [], [], os, A1, [], Gr.laid sa.gr.fh' hD, ?_, fun j a ha => (A1H j a ha).1, upd_same, F1D, .nil, (fun _ z => by cases z), Nat.le_refl _, by simpa using e2, rfl⟩, ?_⟩
      · exact sw.step (Gr.laid sa.gr.fh' hD)
      · rintro i m H' ⟨rfl, hi, F', acc, dn, rest, A, B, g', sr, hA, hDacc, hFD, od, hB, hlen, er, eo⟩
        by_cases hlt : i < items.length
        · refine .inr ⟨it.go i H' F' sr.gr hlt, fun H'' => ∃ m', m' < items.length - i ∧ (m' = items.length - (i + 1) ∧ i + 1 ≤ items.length ∧ ∃ F' acc done rest A B, Gr H1 F1 H'' F' ∧ SRA K H0 F1 A (wipe σ tg) H'' F' (wipeR tg ρ) ∧ (∀ j, ∀ a ∈ A j, H1 a ≠ none) ∧ H'' D = some (.lst acc) ∧ F' D = none ∧ ORs K H'' F' acc done B ∧ (∀ b ∈ B, H1 b = none ∧ b ≠ D) ∧
            acc.length ≤ i + 1 ∧ compL tg t c (items.drop (i + 1)) (wipeR tg ρ) = .ok rest ∧ os = done ++ rest), fun H'' h => h, fun x H2 y => ?_⟩
          have hs : items[i]? = some items[i] := List.getElem?_eq_getElem hlt
          have ed : items.drop i = items[i] :: items.drop (i + 1) := List.drop_eq_getElem_cons hlt
          rw [ed] at er
          refine it.turn i _ A _ H' F' _ x H2 _ hs sr y fun A3 σ3 H3 F3 s3 g3 e3 a3 l3 => ⟨?_, ?_⟩
          · have : wipe σ3 tg = wipe (wipe σ tg) tg := wipe_ext l3 e3
            rw [this, wipe_wipe]
          unfold compL at er
          have g13 := g'.trans g3
          have D3 : H3 D = some (.lst acc) := g3.hh D _ hDacc
          have hD' : H' D ≠ none := by rw [hDacc]; simp
          refine ⟨H0, F1, F3, _, s3.sr, ?_⟩
          cases et : t (setAll tg items[i] (wipeR tg ρ)) with
          | stuck => rw [et] at er; cases er
          | err x => rw [et] at er; cases er
          | ok b =>
            rw [et] at er
            intro H4 F4 g4
            have D4 : H4 D = some (.lst acc) := g4.hh D _ D3
            have F4D : F4 D = none := (g3.trans g4).stay hD' hFD
            -- the outer slots' state at a later heap
            have outer : ∀ {H5 F5 : Hp}, Gr H' F' H5 F5 → SRA K H0 F1 A (wipe σ tg) H5 F5 (wipeR tg ρ) := fun g => sr.step g
            cases b with
            | false =>
              simp only at er
              simp only [Bool.false_eq_true, if_false]
              exact ⟨_, by omega, rfl, by omega, F4, acc, dn, rest, A, B, g13.trans g4, outer (g3.trans g4), hA, D4, F4D, od.gr (g3.trans g4), hB, by omega, er, eo⟩
            | true =>
              simp only at er
              simp only [if_true]
              refine ⟨H0, F1, F4, _, (s3.step g4).sr, ?_⟩
              cases ee : c (setAll tg items[i] (wipeR tg ρ)) with
              | stuck => rw [ee] at er; cases er
              | err x => rw [ee] at er; cases er
              | ok rv =>
                rw [ee] at er
                simp only at er
                cases eow : rv.ow with
                | none => rw [eow] at er; cases er
                | some o =>
                  rw [eow] at er
                  simp only at er
                  cases e5 : compL tg t c (items.drop (i + 1)) (wipeR tg ρ) with
                  | stuck => rw [e5] at er; cases er
                  | err x => rw [e5] at er; cases er
                  | ok rest' =>
                    rw [e5] at er
                    cases er
                    intro v H5 F5 C g5 ov nC
                    have rvo : rv = .val o := by cases rv with
                      | val w => cases eow; rfl
                      | _ => cases eow
                    subst rvo
                    have g35 := (g3.trans g4).trans g5
                    have D5 : H5 D = some (.lst acc) := g5.hh D _ D4
                    have F5D : F5 D = none := g35.stay hD' hFD
                    have CD : ∀ b ∈ C, b ≠ D := fun b hb e => by
                      have := nC b hb
                      rw [e, D4] at this
                      cases this
                    have CH1 : ∀ b ∈ C, H1 b = none := fun b hb => (g13.trans g4).hh.none (nC b hb)
                    -- D is written
                    have keep : ∀ {a : Addr}, a ≠ D → upd H5 D (.lst (acc ++ [v])) a = H5 a := fun h => upd_ne h
                    refine ⟨acc, D5, by rw [sizeLine_eq]; omega, _, by omega, rfl, by omega, F5, acc ++ [v], dn ++ [o], rest', A, B ++ (C ++ []), ?_, ?_, hA, upd_same, F5D, ?_, ?_, by simp; omega, rfl, by rw [eo]; simp⟩
                    · have G := g13.trans (g4.trans g5)
                      exact ⟨fun a u e => by rw [keep (ne_of_none e hD)]; exact G.hh a u e, G.ff, G.fn, fun a u e => by
                        rw [keep (fun z => by rw [z, F5D] at e; cases e)]
                        exact G.fh' a u e⟩
                    · have S5 := outer g35
                      refine ⟨S5.len, ⟨fun a u e => by rw [keep (ne_of_none e H0D)]; exact S5.gr.hh a u e, S5.gr.ff, S5.gr.fn, fun a u e => by
                        rw [keep (fun z => by rw [z, F5D] at e; cases e)]
                        exact S5.gr.fh' a u e⟩, fun j => ?_, S5.ap⟩
                      have q := S5.sl j
                      have nD : ∀ a ∈ A j, a ≠ D := fun a ha e => by
                        have := hA j a ha
                        rw [e] at this
                        exact this hD
                      match op : (wipeR tg ρ)[j]?, q with
                      | some (some (.own ow)), ⟨v, e0, q, q2⟩ => exact ⟨v, e0, q.keep (Sub.refl _) fun a ha => ⟨keep (nD a ha), (q.there a ha).2⟩, q2⟩
                      | some (some (.bor d)), q => exact q
                      | some none, q => exact q
                      | none, q => exact q
                    · refine ORs.append ((od.gr g35).keep (Sub.refl _) fun a ha => ⟨keep (hB a ha).2, ((od.gr g35).there a ha).2⟩) (.cons (OR.keep (Sub.refl _) ov fun a ha => ⟨keep (CD a ha), (OR.there ov a ha).2⟩) .nil fun _ _ z => by cases z) fun a ha hb => ?_
                      have hb' : a ∈ C := by simpa using hb
                      have := (od.gr (g3.trans g4)).there a ha
                      exact this.1 (nC a hb')
                    · intro b hb
                      rcases List.mem_append.mp hb with z | z
                      · exact hB b z
                      · have z' : b ∈ C := by simpa using z
                        exact ⟨CH1 b z', CD b z'⟩
        · have e : i = items.length := by omega
          subst e
          refine .inl ⟨it.stop H' F' sr.gr, ?_⟩
          rw [List.drop_length] at er
          simp only [compL] at er
          cases er
          rw [List.append_nil] at eo
          subst eo
          refine h (.ref D) H' F' (D :: B) (gr.trans g') (OR.ls hDacc hFD (fun hb => (hB D hb).2 rfl) od) fun a ha => ?_
          rcases List.mem_cons.mp ha with rfl | ha
          · exact gr.hh.none hD
          · exact gr.hh.none (hB a ha).1
section
variable {X : Cx} {elt tgE iter : Expr} {ifs : List Expr} {scope : Scope} {own : List (Str × Nat)} {pos : Pos} {g : TG} {tg : List Nat} {ic : IC} {t : TC} {c : EC}
theorem eok_comp (hc : X.calm = true) (hN : X.N.Nodup) (hi : IOk X tgE iter g tg ic) (ok : BlkOk X.N X.env.scope scope own) (hown : own.map (·.2) = tg) (hb : CompOk X scope tgE g ifs t elt c) (hs : ∀ x, foldedSetIterable iter X.env x = pure x := by intro _; rfl) :
    EOk X (.ListComp elt [⟨tgE, iter, ifs, 0⟩] scope pos) (eComp tg ic t c) := fun W tk => by
  have := pe_lc (pos := pos) (g := g) (tt := rdT X.K X.mg t fun _ _ _ _ => False) (te := rdE X.K X.mg c fun _ _ _ _ => False) hc hN (hi W tk) ok (fun s H C cl fp => (hb s H C cl fp).1) (fun s H C cl fp => (hb s H C cl fp).2.1) (fun s H C cl fp => (hb s H C cl fp).2.2 _ takes0) hs
  rw [hown] at this
  exact pe_mono this fun σ H Q h => comp_rd h

/-! ### statements -/
def GoodS (K : Frag) (mg : Str → Option Value) (H0 F0 : Hp) (W : WX) (D : Ends) : SRes → Prop
  | .next ρ' => ∀ σ' H' F', SR K H0 F0 σ' H' F' ρ' → D.nx σ' H'
  | .brk ρ' => ∀ σ' H' F', SR K H0 F0 σ' H' F' ρ' → D.bk σ' H'
  | .cont ρ' => ∀ σ' H' F', SR K H0 F0 σ' H' F' ρ' → D.ct σ' H'
  | .ret ow => ∀ v H' F' A, Gr H0 F0 H' F' → OR K H' F' v ow A → (∀ a ∈ A, H0 a = none) → D.rt v H'
  | .err x ρ' => ∀ cls d σ' H' F', SR K H0 F0 σ' H' F' ρ' → XOk K mg F' H' cls d x → W cls d σ' H'
  | .stuck => False
def rdS (K : Frag) (mg : Str → Option Value) (c : SC) (W : WX) : TS := fun D σ H => ∃ H0 F0 F ρ, SR K H0 F0 σ H F ρ ∧ GoodS K mg H0 F0 W D (c ρ)
def SOk (X : Cx) (st : Stmt) (c : SC) : Prop := ∀ W, Takes X W → PS X st (rdS X.K X.mg c W)
def BOk (X : Cx) (st : List Stmt) (c : SC) : Prop := ∀ W, Takes X W → PSs X st (rdS X.K X.mg c W)
theorem ps_mono {st : Stmt} {u u' : TS} (h : PS X st u) (k : ∀ D σ H, u' D σ H → u D σ H) : PS X st u' := ⟨fun pins s σ H D I q => h.run pins s σ H D I (k D σ H q)⟩
theorem pss_mono {st : List Stmt} {u u' : TS} (h : PSs X st u) (k : ∀ D σ H, u' D σ H → u D σ H) : PSs X st u' := ⟨fun pins s σ H D I q => h.run pins s σ H D I (k D σ H q)⟩
variable {st : Stmt} {rest : List Stmt} {a b : SC} {e : Expr} {ce : EC} {tt : TC}
theorem bok_nil : BOk X [] sPass := fun W tk => pss_mono pss_nil fun D σ H ⟨H0, F0, F, ρ, s, h⟩ => h σ H F s
theorem bok_one (h : SOk X st a) : BOk X [st] a := fun W tk => pss_one (h W tk)
theorem bok_cons (h : SOk X st a) (r : BOk X rest b) : BOk X (st :: rest) (sSeq a b) := fun W tk => pss_mono (pss_cons (h W tk) (r W tk)) fun D σ H ⟨H0, F0, F, ρ, s, h⟩ => by
  refine ⟨H0, F0, F, ρ, s, ?_⟩
  unfold sSeq at h
  cases e1 : a ρ with
  | next ρ' =>
    rw [e1] at h
    exact fun σ' H' F' s' => ⟨H0, F0, F', ρ', s', h⟩
  | ret ow => rw [e1] at h; exact h
  | brk ρ' => rw [e1] at h; exact h
  | cont ρ' => rw [e1] at h; exact h
  | err x ρ' => rw [e1] at h; exact h
  | stuck => rw [e1] at h; exact h.elim
/-- a statement that is never reached -/
theorem sok_stuck : SOk X st sStuck := fun W tk => ps_mono ps_never fun D σ H ⟨H0, F0, F, ρ, s, h⟩ => h
theorem sok_pass : SOk X (.Pass pos) sPass := fun W tk => ps_mono ps_pass fun D σ H ⟨H0, F0, F, ρ, s, h⟩ => h σ H F s
/-- a slot frozen ahead of a statement -/
theorem SR.frzSlot {K : Frag} {H0 F0 H F : Hp} {σ : S} {ρ : Rho} (s : SR K H0 F0 σ H F ρ) (i : Nat) : ∃ F', SR K H0 F0 σ H F' (ρ.set i (frzSl ρ[i]?)) := by
  obtain ⟨A, sa⟩ := s.sra
  have q := sa.sl i
  have same : (ρ.set i (frzSl ρ[i]?) = ρ) → ∃ F', SR K H0 F0 σ H F' (ρ.set i (frzSl ρ[i]?)) := fun e => ⟨F, by rw [e]; exact s⟩
  match o : ρ[i]?, q with
  | none, _ => exact ⟨F, by rw [List.set_eq_of_length_le (List.getElem?_eq_none_iff.mp o)]; exact s⟩
  | some none, _ =>
    refine ⟨F, ?_⟩
    have : ρ.set i (frzSl (some none)) = ρ := by
      obtain ⟨h1, h2⟩ := List.getElem?_eq_some_iff.mp o
      show ρ.set i none = ρ
      rw [← h2, List.set_getElem_self]
    rw [this]; exact s
  | some (some (.bor d)), _ =>
    refine ⟨F, ?_⟩
    have : ρ.set i (frzSl (some (some (.bor d)))) = ρ := by
      obtain ⟨h1, h2⟩ := List.getElem?_eq_some_iff.mp o
      show ρ.set i (some (.bor d)) = ρ
      rw [← h2, List.set_getElem_self]
    rw [this]; exact s
  | some (some (.own ow)), ⟨v, e1, o1, o2⟩ =>
    have hi : i < ρ.length := (List.getElem?_eq_some_iff.mp o).1
    have fA : ∀ a ∈ A i, F a = none := fun a ha => (o1.there a ha).2
    refine ⟨frz F H (A i), ⟨by simp [sa.len], sa.gr.frozen o2 fA, fun j => if j = i then [] else A j, fun j => ?_, fun j k hjk a ha hb => ?_⟩⟩
    · by_cases ej : j = i
      · subst ej
        simp only [if_true, List.getElem?_set_self hi]
        exact ⟨v, e1, OR.fz o1.freeze, fun _ z => by cases z⟩
      · have qj := sa.sl j
        simp only [ej, if_false, List.getElem?_set_ne (Ne.symm ej)]
        match oj : ρ[j]?, qj with
        | some (some (.own ow')), ⟨v', e1', q', q2'⟩ =>
          exact ⟨v', e1', q'.keep (frz_sub fA) fun a ha => ⟨rfl, by rw [frz_out (sa.ap j i ej a ha)]; exact (q'.there a ha).2⟩, q2'⟩
        | some (some (.bor d)), q' => exact q'
        | some none, q' => exact q'
        | none, q' => exact q'
    · by_cases ej : j = i
      · simp only [ej, if_true] at ha; cases ha
      · by_cases ek : k = i
        · simp only [ek, if_true] at hb; cases hb
        · simp only [ej, ek, if_false] at ha hb
          exact sa.ap j k hjk a ha hb
theorem sok_frz {i : Nat} (h : SOk X st a) : SOk X st (sFrz i a) := fun W tk => ps_mono (h W tk) fun D σ H ⟨H0, F0, F, ρ, s, h⟩ => by
  obtain ⟨F', s'⟩ := s.frzSlot i
  exact ⟨H0, F0, F', _, s', h⟩
theorem sok_if {ss rr : List Stmt} (ht : TOk X e tt) (ha : BOk X ss a) (hb : BOk X rr b) : SOk X (.If e ss rr pos) (sIf tt a b) := fun W tk => ps_mono (ps_if (ht W tk) (ha W tk) (hb W tk)) fun D σ H ⟨H0, F0, F, ρ, s, h⟩ => by
  show rdT X.K X.mg tt W σ H fun c H1 => if c = true then rdS X.K X.mg a W D σ H1 else rdS X.K X.mg b W D σ H1
  unfold sIf at h
  cases e1 : tt ρ with
  | stuck => rw [e1] at h; exact h.elim
  | err x => rw [e1] at h; exact rdT_err s e1 fun cls d H' F' g xo => h cls d σ H' F' (s.step g) xo
  | ok c =>
    rw [e1] at h
    refine rdT_ok s e1 fun H1 F1 g => ?_
    cases c with
    | true => exact ⟨H0, F0, F1, ρ, s.step g, h⟩
    | false => exact ⟨H0, F0, F1, ρ, s.step g, h⟩
theorem sok_ret (h : EOk X e ce) : SOk X (.Return (some e) pos) (sRet ce) := fun W tk => ps_mono (ps_ret (h W tk)) fun D σ H ⟨H0, F0, F, ρ, s, h⟩ => by
  show rdE X.K X.mg ce W σ H D.rt
  unfold sRet at h
  cases e1 : ce ρ with
  | stuck => rw [e1] at h; exact h.elim
  | err x => rw [e1] at h; exact rdE_err s e1 fun cls d H' F' g xo => h cls d σ H' F' (s.step g) xo
  | ok rv =>
    rw [e1] at h
    refine rdE_ok s e1 fun v H1 F1 A g o n => ?_
    have s1 := s.step g
    match rv, o, h with
    | .val ow, o, h => exact h v H1 F1 A s1.gr o fun a ha => s.gr.hh.none (n a ha)
    | .ref i [] ow, ⟨_, ⟨v0, e0, ev⟩, ⟨ow0, eo, ea⟩, _⟩, h =>
      have ev' : v = v0 := ev
      subst ev'
      have ea' : ow0 = ow := by cases ow0 <;> (simp only [Ow.at] at ea; cases ea; rfl)
      subst ea'
      obtain ⟨A', sa⟩ := s1.sra
      have q := sa.sl i
      rw [eo] at q
      obtain ⟨v', e1', q1, q2⟩ := q
      rw [e0] at e1'
      cases e1'
      exact h v H1 F1 _ s1.gr q1 q2
    | .ref i (_ :: _) ow, _, h => exact h.elim
    | .bor d, _, h => exact h.elim
theorem sok_retN : SOk X (.Return none pos) (fun _ => .ret (.fz .none)) := fun W tk => ps_mono ps_retN fun D σ H ⟨H0, F0, F, ρ, s, h⟩ => h .non H F [] s.gr (OR.fz .non) fun _ z => by cases z
/-- name = e -/
theorem set_rd {W : WX} {i : Nat} {K : Frag} {mg : Str → Option Value} {D : Ends} {σ : S} {H : Hp} (h : rdS K mg (sSet i ce) W D σ H) : rdE K mg ce W σ H fun x H1 => D.nx (σ.set i (some x)) H1 := by
  obtain ⟨H0, F0, F, ρ, s, h⟩ := h
  unfold sSet at h
  cases e1 : ce ρ with
  | stuck => rw [e1] at h; exact h.elim
  | err x => rw [e1] at h; exact rdE_err s e1 fun cls d H' F' g xo => h cls d σ H' F' (s.step g) xo
  | ok rv =>
    rw [e1] at h
    refine rdE_ok s e1 fun v H1 F1 A g o n => ?_
    obtain ⟨A0, sa0⟩ := s.sra
    have sa := sa0.step g
    cases rv with
    | val ow =>
      obtain ⟨A', s', _⟩ := sa.set (i := i) (x := v) (sl := .own ow) (B := A) ⟨o, fun b hb => s.gr.hh.none (n b hb)⟩ fun b hb j hj => ((sa0.sl j).there b hj).1 (n b hb)
      exact h _ H1 F1 s'.sr
    | ref _ _ _ => exact h.elim
    | bor d =>
      obtain ⟨e0, o⟩ := o
      obtain ⟨A', s', _⟩ := sa.set (i := i) (x := v) (sl := .bor d) (B := []) ⟨rfl, o⟩ fun b hb => by cases hb
      exact h _ H1 F1 s'.sr
end
end VL

set_option Elab.async false
set_option linter.all false
set_option maxRecDepth 100000
set_option maxHeartbeats 4000000
/-! VL9: assignments, loops, stores, defs. -/
namespace VL
open PySem PySem.Spec PyProof.Rows L2
section
variable {X : Cx} {elt tgE iter : Expr} {ifs : List Expr} {scope : Scope} {own : List (Str × Nat)} {pos : Pos} {g : TG} {tg : List Nat} {ic : IC} {t : TC} {c : EC} {st : Stmt} {rest : List Stmt} {a b : SC} {e o : Expr} {ce co : EC} {tt : TC} {i : Nat} {x : Str}
theorem sok_set {p2 : Pos} (hN : X.N.Nodup) (hi : X.N[i]? = some x) (hx : Loc X.env.scope x) (h : EOk X e ce) (hs : swapsWith e (some (.Name x p2)) pos.line X.env = pure false := by rfl) (hf : X.fn x = true ∨ X.env.scope.names.lookup x = some .local := by first | exact .inl rfl | exact .inr rfl | assumption) :
    SOk X (.Assign [.Name x p2] e pos) (sSet i ce) := fun W tk => ps_mono (ps_set hN hi hx (h W tk) hs hf) fun D σ H h => set_rd h
theorem sok_setLc {py spos : Pos} {y : Str} (hc : X.calm = true) (hN : X.N.Nodup) (hy : X.N[i]? = some y) (hyl : X.env.scope.names.lookup y = some .local) (hsw : swapsWith (.ListComp elt [⟨tgE, iter, ifs, 0⟩] scope pos) (some (.Name y py)) spos.line X.env = pure true)
    (hi : IOk X tgE iter g tg ic) (ok : BlkOk X.N X.env.scope scope own) (hown : own.map (·.2) = tg) (hb : CompOk X scope tgE g ifs t elt c) (hs : ∀ x, foldedSetIterable iter X.env x = pure x := by intro _; rfl) :
    SOk X (.Assign [.Name y py] (.ListComp elt [⟨tgE, iter, ifs, 0⟩] scope pos) spos) (sSet i (eComp tg ic t c)) := fun W tk => by
  have := ps_setLc (pos := pos) (spos := spos) (py := py) (g := g) (tt := rdT X.K X.mg t fun _ _ _ _ => False) (te := rdE X.K X.mg c fun _ _ _ _ => False) hc hN hy hyl hsw (hi W tk) ok (fun s H C cl fp => (hb s H C cl fp).1) (fun s H C cl fp => (hb s H C cl fp).2.1) (fun s H C cl fp => (hb s H C cl fp).2.2 _ takes0) hs
  rw [hown] at this
  exact ps_mono this fun D σ H h => comp_rd (set_rd h)
/-- a, b, .. = a row -/
def gRow (K : Frag) (n : Nat) (t : TGs) : TG := fun v σ H Q => ∃ a xs, v = .ref a ∧ (SqL K H a xs ∨ SqT K H a xs) ∧ xs.length = n ∧ t xs σ H Q
theorem pg_row {es : List Expr} {k : Nat} {t : TGs} {n : Nat} (hc : X.calm = true) (h : PGs X es t) (hn : (assignEach es X.env).length = n := by rfl) (hst : (assignEach es X.env).findIdx? (·.1) = none := by rfl) : PG X (.Tuple es k pos) (gRow X.K n t) := by
  refine ⟨fun pins s σ H v u Q I r hw => ?_⟩
  obtain ⟨a, xs, e1, hq, hl, hw⟩ := hw
  rcases hq with hq | hq
  · exact (pg_lst hc h hn hst).run pins s σ H v u Q I r ⟨a, xs, e1, hq, hl, hw⟩
  · exact (pg_tup hc h hn hst).run pins s σ H v u Q I r ⟨a, xs, e1, hq, hl, hw⟩
theorem voks_fz {K : Frag} {H0 H F : Hp} : ∀ {ds : List D} {vs : List V}, RpAll K F vs ds → VOks K H0 H F vs [] (ds.map slOf)
  | [], _, .nil => .nil
  | _ :: _, _, .cons h r => .cons (B := []) (C := []) ⟨OR.fz h, fun _ z => by cases z⟩ (voks_fz r) fun _ z => by cases z
theorem voks_bor {K : Frag} {H0 H F : Hp} : ∀ {ds : List D} {vs : List V}, RpAll K H0 vs ds → VOks K H0 H F vs [] (ds.map slBor)
  | [], _, .nil => .nil
  | d :: _, _, .cons h r => .cons (B := []) (C := []) (by
      unfold slBor
      by_cases hs : scal d = true
      · rw [if_pos hs, h.scal_eq hs]; exact ⟨OR.fz (Rp.scal F hs), fun _ z => by cases z⟩
      · rw [if_neg hs]; exact ⟨rfl, h⟩) (voks_bor r) fun _ z => by cases z
theorem voks_own {K : Frag} {H0 H F : Hp} : ∀ {xs : List Ow} {vs : List V} {A : List Addr}, ORs K H F vs xs A → (∀ a ∈ A, H0 a = none) → VOks K H0 H F vs A (xs.map Sl.own)
  | [], _, _, .nil, _ => .nil
  | _ :: _, _, _, .cons h r n, k => .cons ⟨h, fun b hb => k b (List.mem_append_left _ hb)⟩ (voks_own r fun b hb => k b (List.mem_append_right _ hb)) n
theorem parts_ok {K : Frag} {H0 F0 H F : Hp} {σ : S} {ρ : Rho} {v : V} {A : List Addr} {rv : RV} {ss : List Sl} (s : SR K H0 F0 σ H F ρ) (h : RVOk K H0 H F σ ρ v A rv) (hA : ∀ a ∈ A, H0 a = none) (e : rv.parts = some ss) :
    ∃ a vs B, v = .ref a ∧ (SqL K H a vs ∨ SqT K H a vs) ∧ VOks K H0 H F vs B ss ∧ ∀ b ∈ B, b ∈ A := by
  match rv, h, e with
  | .val (.fz (.tuple ds)), h, e =>
    cases e
    cases (OR.fz_inv h).2 with
    | tup r ra => exact ⟨_, _, [], rfl, .inr (s.sub.sqT r), voks_fz ra, fun _ z => by cases z⟩
  | .val (.fz (.list ds)), h, e =>
    cases e
    cases (OR.fz_inv h).2 with
    | lst r ra => exact ⟨_, _, [], rfl, .inl (s.sub.lk r).sqL, voks_fz ra, fun _ z => by cases z⟩
  | .val (.ls xs), h, e =>
    cases e
    obtain ⟨a, vs, B, rfl, rfl, h1, _, _, o⟩ := OR.ls_inv h
    exact ⟨a, vs, B, rfl, .inl (.of h1), voks_own o fun b hb => hA b (List.mem_cons_of_mem _ hb), fun b hb => List.mem_cons_of_mem _ hb⟩
  | .val (.tp xs), h, e =>
    cases e
    obtain ⟨a, vs, B, rfl, rfl, h1, _, _, o⟩ := OR.tp_inv h
    exact ⟨a, vs, B, rfl, .inr (.of h1), voks_own o fun b hb => hA b (List.mem_cons_of_mem _ hb), fun b hb => List.mem_cons_of_mem _ hb⟩
  | .bor (.tuple ds), ⟨_, p⟩, e =>
    cases e
    cases p with
    | tup r ra => exact ⟨_, _, [], rfl, .inr (s.gr.hh.sqT r), voks_bor ra, fun _ z => by cases z⟩
  | .bor (.list ds), ⟨_, p⟩, e =>
    cases e
    cases p with
    | lst r ra => exact ⟨_, _, [], rfl, .inl (s.gr.hh.lk r).sqL, voks_bor ra, fun _ z => by cases z⟩
theorem VOks.len {K : Frag} {H0 H F : Hp} : ∀ {xs : List V} {B : List Addr} {ss : List Sl}, VOks K H0 H F xs B ss → xs.length = ss.length
  | _, _, _, .nil => rfl
  | _, _, _, .cons _ r _ => by simp [VOks.len r]
theorem sok_unp {es : List Expr} {k : Nat} {p2 : Pos} (hc : X.calm = true) (h : EOk X e ce) (hg : PGs X es (gNames tg)) (hn : (assignEach es X.env).length = tg.length := by rfl) (hst : (assignEach es X.env).findIdx? (·.1) = none := by rfl)
    (hs : swapsWithSole [.Tuple es k p2] e pos.line X.env = pure false := by rfl) (hw : swappedStores [.Tuple es k p2] e X.env = pure none := by rfl) (h1 : (assignEach [.Tuple es k p2] X.env).map (·.2) = [assign (.Tuple es k p2) X.env] := by rfl) :
    SOk X (.Assign [.Tuple es k p2] e pos) (sUnp tg ce) := fun W tk => ps_mono (ps_asg (h W tk) (pg_row hc hg hn hst) hs hw h1) fun D σ H ⟨H0, F0, F, ρ, s, h⟩ => by
  show rdE X.K X.mg ce W σ H fun x H1 => gRow X.K tg.length (gNames tg) x σ H1 D.nx
  unfold sUnp at h
  cases e1 : ce ρ with
  | stuck => rw [e1] at h; exact h.elim
  | err x => rw [e1] at h; exact rdE_err s e1 fun cls d H' F' g xo => h cls d σ H' F' (s.step g) xo
  | ok rv =>
    rw [e1] at h
    simp only at h
    refine rdE_ok s e1 fun v H1 F1 A gg o n => ?_
    obtain ⟨A0, sa0⟩ := s.sra
    have sa := sa0.step gg
    cases e2 : rv.parts with
    | none => rw [e2] at h; exact h.elim
    | some ss =>
      rw [e2] at h
      simp only at h
      by_cases hl : ss.length = tg.length
      · simp only [hl, if_true] at h
        obtain ⟨a, vs, B, rfl, hr, vo, hB⟩ := parts_ok (s.step gg) o (fun a ha => s.gr.hh.none (n a ha)) e2
        refine ⟨a, vs, rfl, hr, by rw [vo.len, hl], gNames_ok sa vo hl (fun b hb j hj => ((sa0.sl j).there b hj).1 (n b (hB b hb))) fun σ' A' s' _ _ _ => h σ' H1 F1 s'.sr⟩
      · simp only [hl, if_false] at h
        exact h.elim
/-! ### loops -/
theorem GoodS.rebase {K : Frag} {mg : Str → Option Value} {H0 F0 F1 : Hp} {W : WX} {D : Ends} (hf : Sub F0 F1) (hn : ∀ a, F1 a ≠ none → F0 a ≠ none ∨ H0 a = none) {r : SRes} (h : GoodS K mg H0 F0 W D r) : GoodS K mg H0 F1 W D r := by
  have G : ∀ {H' F' : Hp}, Gr H0 F1 H' F' → Gr H0 F0 H' F' := fun g => ⟨g.hh, hf.trans g.ff, fun a h => by
    rcases g.fn a h with z | z
    · exact hn a z
    · exact .inr z, g.fh'⟩
  have SS : ∀ {σ' : S} {H' F' : Hp} {ρ' : Rho}, SR K H0 F1 σ' H' F' ρ' → SR K H0 F0 σ' H' F' ρ' := fun s => ⟨s.len, G s.gr, s.sl⟩
  cases r with
  | next ρ' => exact fun σ' H' F' s => h σ' H' F' (SS s)
  | brk ρ' => exact fun σ' H' F' s => h σ' H' F' (SS s)
  | cont ρ' => exact fun σ' H' F' s => h σ' H' F' (SS s)
  | ret ow => exact fun v H' F' A g o n => h v H' F' A (G g) o n
  | err x ρ' => exact fun cls d σ' H' F' s xo => h cls d σ' H' F' (SS s) xo
  | stuck => exact h
theorem sok_for {body : List Stmt} (hp : PassesOwn (model X.prog X.w) X.A X.env X.xe) (hc : X.calm = true) (hi : IOk X tgE iter g tg ic) (hg : PG X tgE g) (hb : BOk X body b) (hs : ∀ x, foldedSetIterable iter X.env x = pure x := by intro _; rfl) :
    SOk X (.For tgE iter body [] pos) (sFor tg ic b) := fun W tk => ps_mono (ps_for hp hc (hi W tk) hg (hb W tk) hs) fun D σ H ⟨H0, F0, F, ρ, s, h⟩ => by
  refine ⟨H0, F0, F, ρ, s, ?_⟩
  unfold sFor at h
  cases e1 : ic ρ with
  | stuck => rw [e1] at h; exact h.elim
  | err x => rw [e1] at h; exact fun cls d H' F' gg xo => h cls d σ H' F' (s.step gg) xo
  | ok items =>
    rw [e1] at h
    simp only at h
    intro J H1 F1 gg it
    have s1 := s.step gg
    have h' := h.rebase (F1 := F1) s1.gr.ff s1.gr.fn
    have rb : SR X.K H0 F1 σ H1 F1 ρ := ⟨s1.len, ⟨s1.gr.hh, Sub.refl _, fun _ h => .inl h, s1.gr.fh'⟩, s1.sl⟩
    refine ⟨fun i m σ' H' => m = items.length - i ∧ i ≤ items.length ∧ ∃ F' ρ', SR X.K H0 F1 σ' H' F' ρ' ∧ GoodS X.K X.mg H0 F1 W D (forL tg b (items.drop i) ρ'), ⟨items.length, by simp, Nat.zero_le _, F1, ρ, rb, by simpa using h'⟩, ?_⟩
    rintro i m σ' H' ⟨rfl, hi', F', ρ', sr, q⟩
    by_cases hlt : i < items.length
    · have hs : items[i]? = some items[i] := List.getElem?_eq_getElem hlt
      have ed : items.drop i = items[i] :: items.drop (i + 1) := List.drop_eq_getElem_cons hlt
      rw [ed] at q
      obtain ⟨A, sra⟩ := sr.sra
      refine .inr ⟨it.go i H' F' sr.gr hlt, fun σ2 H2 => ∃ F' ρ', SR X.K H0 F1 σ2 H2 F' ρ' ∧ GoodS X.K X.mg H0 F1 W D (forL tg b (items.drop (i + 1)) ρ'), fun σ2 H2 z => ⟨items.length - (i + 1), by omega, rfl, by omega, z⟩, fun x H2 y => ?_⟩
      refine it.turn i _ A σ' H' F' ρ' x H2 _ hs sra y fun A3 σ3 H3 F3 s3 g3 _ _ _ => ⟨H0, F1, F3, _, s3.sr, ?_⟩
      unfold forL at q
      cases eb : b (setAll tg items[i] ρ') with
      | next ρ2 => rw [eb] at q; exact fun σ4 H4 F4 s4 => ⟨F4, ρ2, s4, q⟩
      | cont ρ2 => rw [eb] at q; exact fun σ4 H4 F4 s4 => ⟨F4, ρ2, s4, q⟩
      | brk ρ2 => rw [eb] at q; exact q
      | ret ow => rw [eb] at q; exact q
      | err x ρ2 => rw [eb] at q; exact q
      | stuck => rw [eb] at q; exact q.elim
    · have e : i = items.length := by omega
      subst e
      rw [List.drop_length] at q
      exact .inl ⟨it.stop H' F' sr.gr, q σ' H' F' sr⟩
theorem sok_while {body : List Stmt} (hp : PassesOwn (model X.prog X.w) X.A X.env X.xe) (ht : TOk X e tt) (hb : BOk X body b) : SOk X (.While e body [] pos) (sWhile tt b) := fun W tk => ps_mono (ps_while hp (ht W tk) (hb W tk)) fun D σ H ⟨H0, F0, F, ρ, s, h⟩ => by
  unfold sWhile at h
  refine ⟨fun m σ' H' => ∃ F' ρ', SR X.K H0 F0 σ' H' F' ρ' ∧ GoodS X.K X.mg H0 F0 W D (whileN tt b m ρ'), ⟨_, F, ρ, s, h⟩, ?_⟩
  rintro m σ' H' ⟨F', ρ', sr, q⟩
  cases m with
  | zero => exact q.elim
  | succ m =>
    unfold whileN at q
    show rdT X.K X.mg tt W σ' H' fun c H1 => if c = true then _ else _
    cases e1 : tt ρ' with
    | stuck => rw [e1] at q; exact q.elim
    | err x => rw [e1] at q; exact rdT_err sr e1 fun cls d H' F' g xo => q cls d _ H' F' (sr.step g) xo
    | ok c =>
      rw [e1] at q
      refine rdT_ok sr e1 fun H1 F1 gg => ?_
      cases c with
      | false =>
        simp only [Bool.false_eq_true, if_false]
        exact q σ' H1 F1 (sr.step gg)
      | true =>
        simp only [if_true]
        refine ⟨fun σ2 H2 => ∃ F' ρ', SR X.K H0 F0 σ2 H2 F' ρ' ∧ GoodS X.K X.mg H0 F0 W D (whileN tt b m ρ'), fun σ2 H2 z => ⟨m, Nat.lt_succ_self _, z⟩, ⟨H0, F0, F1, ρ', sr.step gg, ?_⟩⟩
        simp only at q
        cases eb : b ρ' with
        | next ρ2 => rw [eb] at q; exact fun σ4 H4 F4 s4 => ⟨F4, ρ2, s4, q⟩
        | cont ρ2 => rw [eb] at q; exact fun σ4 H4 F4 s4 => ⟨F4, ρ2, s4, q⟩
        | brk ρ2 => rw [eb] at q; exact q
        | ret ow => rw [eb] at q; exact q
        | err x ρ2 => rw [eb] at q; exact q
        | stuck => rw [eb] at q; exact q.elim
theorem sok_break : SOk X (.Break pos) (fun ρ => .brk ρ) := fun W tk => ps_mono ps_break fun D σ H ⟨H0, F0, F, ρ, s, h⟩ => h σ H F s
theorem sok_continue : SOk X (.Continue pos) (fun ρ => .cont ρ) := fun W tk => ps_mono ps_continue fun D σ H ⟨H0, F0, F, ρ, s, h⟩ => h σ H F s

/-! ### a list in a slot is changed -/
theorem ORs.setk {K : Frag} {H H1 F : Hp} {C : List Addr} : ∀ {ys : List Ow} {us : List V} {B : List Addr} {k : Nat} {y : Ow} {w : V}, ORs K H F us ys B → ys[k]? = some y → us[k]? = some w →
    ∃ Ak, OR K H F w y Ak ∧ (∀ b ∈ Ak, b ∈ B) ∧ ∀ (y' : Ow) (Ak' : List Addr), OR K H1 F w y' Ak' → (∀ b ∈ B, b ∉ Ak → H1 b = H b) → (∀ b ∈ Ak', b ∈ Ak ∨ b ∈ C) → (∀ b ∈ C, b ∉ B) → ∃ B', ORs K H1 F us (ys.set k y') B' ∧ ∀ b ∈ B', b ∈ B ∨ b ∈ C
  | [], _, _, _, _, _, .nil, e, _ => by simp at e
  | x :: xs, _, _, 0, y, w, @ORs.cons _ _ _ v _ vs _ A1 A2 h r n, e1, e2 => by
    simp at e1 e2
    subst e1; subst e2
    refine ⟨A1, h, fun b hb => List.mem_append_left _ hb, fun y' Ak' o hk hs hc => ⟨Ak' ++ A2, ?_, fun b hb => ?_⟩⟩
    · refine .cons o (r.keep (Sub.refl _) fun b hb => ⟨hk b (List.mem_append_right _ hb) fun z => n b z hb, (r.there b hb).2⟩) fun b hb hb2 => ?_
      rcases hs b hb with z | z
      · exact n b z hb2
      · exact hc b z (List.mem_append_right _ hb2)
    · rcases List.mem_append.mp hb with z | z
      · exact (hs b z).imp (fun q => List.mem_append_left _ q) id
      · exact .inl (List.mem_append_right _ z)
  | x :: xs, _, _, k + 1, y, w, @ORs.cons _ _ _ v _ vs _ A1 A2 h r n, e1, e2 => by
    obtain ⟨Ak, o, hA, kk⟩ := ORs.setk (H1 := H1) (C := C) (k := k) r (by simpa using e1) (by simpa using e2)
    refine ⟨Ak, o, fun b hb => List.mem_append_right _ (hA b hb), fun y' Ak' o' hk hs hc => ?_⟩
    obtain ⟨B', oB, hB⟩ := kk y' Ak' o' (fun b hb hn => hk b (List.mem_append_right _ hb) hn) hs fun b hb hb2 => hc b hb (List.mem_append_right _ hb2)
    refine ⟨A1 ++ B', ?_, fun b hb => ?_⟩
    · refine .cons (h.keep (Sub.refl _) fun b hb => ⟨hk b (List.mem_append_left _ hb) fun z => n b hb (hA b z), (h.there b hb).2⟩) oB fun b hb hb2 => ?_
      rcases hB b hb2 with z | z
      · exact n b hb z
      · exact hc b z (List.mem_append_left _ hb)
    · rcases List.mem_append.mp hb with z | z
      · exact .inl (List.mem_append_left _ z)
      · exact (hB b z).imp (fun q => List.mem_append_right _ q) id
/-- the tree along a path, and the list at its end exchanged -/
theorem put_ok {K : Frag} {H F : Hp} {a : Addr} {vs vs' : List V} {f : List Ow → List Ow} {C : List Addr} :
    ∀ {p : List Nat} {ow ow' : Ow} {v : V} {A : List Addr} {xs : List Ow}, OR K H F v ow A → At H v p (.ref a) → ow.at p = some (.ls xs) → H a = some (.lst vs) → ow.put p f = some ow' → (∀ b ∈ C, b ∉ A) →
      (∀ B, ORs K H F vs xs B → (∀ b ∈ B, b ∈ A) → a ∉ B → ∃ B', ORs K (upd H a (.lst vs')) F vs' (f xs) B' ∧ (∀ b ∈ B', b ∈ B ∨ b ∈ C) ∧ a ∉ B') →
      a ∈ A ∧ ∃ A', OR K (upd H a (.lst vs')) F v ow' A' ∧ ∀ b ∈ A', b ∈ A ∨ b ∈ C := by
  intro p
  induction p with
  | nil =>
    intro ow ow' v A xs o at_ eat ha e hC k
    have eow : ow = .ls xs := by cases ow <;> (simp only [Ow.at] at eat; cases eat; try rfl)
    subst eow
    simp only [Ow.put, Option.some.injEq] at e
    subst e
    obtain ⟨b, us, B, ev, eA, h1, h2, h3, h4⟩ := o.ls_inv
    have eab : b = a := by
      have : V.ref a = v := at_
      rw [ev] at this
      exact (V.ref.inj this).symm
    subst eab
    subst eA
    rw [ha] at h1
    cases h1
    obtain ⟨B', o', hB', na⟩ := k B h4 (fun c hc => List.mem_cons_of_mem _ hc) h3
    rw [ev]
    refine ⟨List.mem_cons_self, b :: B', OR.ls upd_same h2 na o', fun c hc => ?_⟩
    rcases List.mem_cons.mp hc with rfl | hc
    · exact .inl List.mem_cons_self
    · exact (hB' c hc).imp (fun z => List.mem_cons_of_mem _ z) id
  | cons q p ih =>
    intro ow ow' v A xs o at_ eat ha e hC k
    obtain ⟨b, us, w, ev, hb, hw, at2⟩ := at_
    subst ev
    cases ow with
    | fz d => simp [Ow.at] at eat
    | ls ys =>
      obtain ⟨b', us', B, ev, eA, h1, h2, h3, h4⟩ := o.ls_inv
      cases ev
      have eus : us' = us := by
        rcases hb with hb | hb
        · rw [hb] at h1; cases h1; rfl
        · rw [hb] at h1; cases h1
      subst eus
      subst eA
      simp only [Ow.at] at eat
      simp only [Ow.put] at e
      cases ey : ys[q]? with
      | none => rw [ey] at eat; cases eat
      | some y =>
        rw [ey] at eat e
        simp only at eat e
        cases ep : y.put p f with
        | none => rw [ep] at e; cases e
        | some y' =>
          rw [ep] at e
          cases e
          obtain ⟨Ak, oy, hAk, kk⟩ := h4.setk (H1 := upd H a (.lst vs')) (C := C) ey hw
          obtain ⟨haA, Ak', oy', hAk'⟩ := ih oy at2 eat ha ep (fun c hc hz => hC c hc (List.mem_cons_of_mem _ (hAk c hz))) fun B' oB hB' na => k B' oB (fun c hc => List.mem_cons_of_mem _ (hAk c (hB' c hc))) na
          obtain ⟨B', oB, hB'⟩ := kk y' Ak' oy' (fun c hc hn => upd_ne fun z => hn (z ▸ haA)) hAk' fun c hc hz => hC c hc (List.mem_cons_of_mem _ hz)
          have nab : b ≠ a := fun z => h3 (z ▸ hAk a haA)
          refine ⟨List.mem_cons_of_mem _ (hAk a haA), b :: B', OR.ls (by rw [upd_ne nab]; exact h1) h2 (fun z => ?_) oB, fun c hc => ?_⟩
          · rcases hB' b z with z | z
            · exact h3 z
            · exact hC b z List.mem_cons_self
          · rcases List.mem_cons.mp hc with rfl | hc
            · exact .inl List.mem_cons_self
            · exact (hB' c hc).imp (fun z => List.mem_cons_of_mem _ z) id
    | tp ys =>
      obtain ⟨b', us', B, ev, eA, h1, h2, h3, h4⟩ := o.tp_inv
      cases ev
      have eus : us' = us := by
        rcases hb with hb | hb
        · rw [hb] at h1; cases h1
        · rw [hb] at h1; cases h1; rfl
      subst eus
      subst eA
      simp only [Ow.at] at eat
      simp only [Ow.put] at e
      cases ey : ys[q]? with
      | none => rw [ey] at eat; cases eat
      | some y =>
        rw [ey] at eat e
        simp only at eat e
        cases ep : y.put p f with
        | none => rw [ep] at e; cases e
        | some y' =>
          rw [ep] at e
          cases e
          obtain ⟨Ak, oy, hAk, kk⟩ := h4.setk (H1 := upd H a (.lst vs')) (C := C) ey hw
          obtain ⟨haA, Ak', oy', hAk'⟩ := ih oy at2 eat ha ep (fun c hc hz => hC c hc (List.mem_cons_of_mem _ (hAk c hz))) fun B' oB hB' na => k B' oB (fun c hc => List.mem_cons_of_mem _ (hAk c (hB' c hc))) na
          obtain ⟨B', oB, hB'⟩ := kk y' Ak' oy' (fun c hc hn => upd_ne fun z => hn (z ▸ haA)) hAk' fun c hc hz => hC c hc (List.mem_cons_of_mem _ hz)
          have nab : b ≠ a := fun z => h3 (z ▸ hAk a haA)
          refine ⟨List.mem_cons_of_mem _ (hAk a haA), b :: B', OR.tp (by rw [upd_ne nab]; exact h1) h2 (fun z => ?_) oB, fun c hc => ?_⟩
          · rcases hB' b z with z | z
            · exact h3 z
            · exact hC b z List.mem_cons_self
          · rcases List.mem_cons.mp hc with rfl | hc
            · exact .inl List.mem_cons_self
            · exact (hB' c hc).imp (fun z => List.mem_cons_of_mem _ z) id
/-- the state behind a change of the list at i, p -/
theorem put_state {K : Frag} {H0 F0 H F : Hp} {σ : S} {ρ ρ' : Rho} {A : Nat → List Addr} {i : Nat} {p : List Nat} {v0 : V} {a : Addr} {xs : List Ow} {vs vs' : List V} {f : List Ow → List Ow} {C : List Addr} {ow0 : Ow}
    (s : SRA K H0 F0 A σ H F ρ) (e0 : σ[i]? = some (some v0)) (hat : At H v0 p (.ref a)) (eo : ρ[i]? = some (some (.own ow0))) (ea : ow0.at p = some (.ls xs)) (ha : H a = some (.lst vs)) (hp : putAt i p f ρ = .next ρ') (hC : ∀ c ∈ C, ∀ j, c ∉ A j) (hC0 : ∀ c ∈ C, H0 c = none)
    (k : ∀ B, ORs K H F vs xs B → (∀ b ∈ B, b ∈ A i) → a ∉ B → ∃ B', ORs K (upd H a (.lst vs')) F vs' (f xs) B' ∧ (∀ b ∈ B', b ∈ B ∨ b ∈ C) ∧ a ∉ B') : SR K H0 F0 σ (upd H a (.lst vs')) F ρ' := by
  unfold putAt at hp
  rw [eo] at hp
  simp only at hp
  cases ep : ow0.put p f with
  | none => rw [ep] at hp; cases hp
  | some ow' =>
    rw [ep] at hp
    cases hp
    have q := s.sl i
    rw [eo] at q
    obtain ⟨v, e1, o, oH⟩ := q
    rw [e0] at e1
    cases e1
    have hi : i < ρ.length := (List.getElem?_eq_some_iff.mp eo).1
    obtain ⟨haA, A', o', hA'⟩ := put_ok (C := C) o hat ea ha ep (fun c hc => hC c hc i) k
    have Fa : F a = none := (o.there a haA).2
    have H0a : H0 a = none := oH a haA
    have keep : ∀ {b : Addr}, b ≠ a → upd H a (.lst vs') b = H b := fun h => upd_ne h
    refine ⟨by simp [s.len], ⟨fun b u e => by rw [keep (ne_of_none e H0a)]; exact s.gr.hh b u e, s.gr.ff, s.gr.fn, fun b u e => by
      rw [keep (ne_of_none e Fa)]
      exact s.gr.fh' b u e⟩, fun j => if j = i then A' else A j, fun j => ?_, fun j l hjl b hb hb2 => ?_⟩
    · by_cases ej : j = i
      · subst ej
        simp only [if_true, List.getElem?_set_self hi]
        exact ⟨v0, e0, o', fun b hb => by
          rcases hA' b hb with z | z
          · exact oH b z
          · exact hC0 b z⟩
      · have qj := s.sl j
        simp only [ej, if_false, List.getElem?_set_ne (Ne.symm ej)]
        match oj : ρ[j]?, qj with
        | some (some (.own ow2)), ⟨v2, e2, q2, q3⟩ => exact ⟨v2, e2, q2.keep (Sub.refl _) fun b hb => ⟨keep fun z => s.ap j i ej b hb (z ▸ haA), (q2.there b hb).2⟩, q3⟩
        | some (some (.bor d)), q' => exact q'
        | some none, q' => exact q'
        | none, q' => exact q'
    · by_cases ej : j = i
      · have el : ¬ l = i := fun z => hjl (ej.trans z.symm)
        simp only [ej, el, if_true, if_false] at hb hb2
        rcases hA' b hb with z | z
        · exact s.ap i l (fun z => el z.symm) b z hb2
        · exact hC b z l hb2
      · by_cases el : l = i
        · simp only [ej, el, if_true, if_false] at hb hb2
          rcases hA' b hb2 with z | z
          · exact s.ap j i ej b hb z
          · exact hC b z j hb
        · simp only [ej, el, if_false] at hb hb2
          exact s.ap j l hjl b hb hb2
theorem putAt_next {i : Nat} {p : List Nat} {f : List Ow → List Ow} {ρ : Rho} : (∃ ρ', putAt i p f ρ = .next ρ') ∨ putAt i p f ρ = .stuck := by
  unfold putAt
  split
  · split
    · exact .inl ⟨_, rfl⟩
    · exact .inr rfl
  · exact .inr rfl
/-- o.append(e) -/
theorem app_rd {K : Frag} {mg : Str → Option Value} {W : WX} {D : Ends} {σ : S} {H : Hp} (h : rdS K mg (sApp co ce) W D σ H) :
    rdE K mg co W σ H fun x H1 => tyV K "list" x H1 ∧ rdE K mg ce W σ H1 fun y H2 => ∃ l xs, x = .ref l ∧ H2 l = some (.lst xs) ∧ xs.length < sizeLine ∧ D.nx σ (upd H2 l (.lst (xs ++ [y]))) := by
  obtain ⟨H0, F0, F, ρ, s, h⟩ := h
  unfold sApp at h
  cases e1 : co ρ with
  | stuck => rw [e1] at h; exact h.elim
  | err x => rw [e1] at h; exact rdE_err s e1 fun cls d H' F' g xo => h cls d σ H' F' (s.step g) xo
  | ok ro =>
    rw [e1] at h
    cases ro with
    | val _ => exact h.elim
    | bor _ => exact h.elim
    | ref i p ow =>
      cases ow with
      | fz _ => exact h.elim
      | tp _ => exact h.elim
      | ls ys =>
        simp only at h
        refine rdE_ok s e1 fun x H1 F1 A g1 o1 n1 => ?_
        have s1 := s.step g1
        obtain ⟨_, ⟨v0, e0, hat⟩, ⟨ow0, eo, ea⟩, B0, ob⟩ := id o1
        obtain ⟨l, vs0, Bl, ev, _, hl, _, _, orl⟩ := ob.ls_inv
        subst ev
        refine ⟨.inl ⟨rfl, _, .inl (.inl hl)⟩, ?_⟩
        cases e2 : ce ρ with
        | stuck => rw [e2] at h; exact h.elim
        | err z => rw [e2] at h; exact rdE_err s1 e2 fun cls d H' F' g xo => h cls d σ H' F' (s1.step g) xo
        | ok re =>
          rw [e2] at h
          cases re with
          | ref _ _ _ => exact h.elim
          | bor _ => exact h.elim
          | val oe =>
            simp only at h
            by_cases hc : ys.length < 16777216
            case neg => simp only [hc, if_false] at h; exact h.elim
            simp only [hc, if_true] at h
            refine rdE_ok s1 e2 fun y H2 F2 C g2 o2 n2 => ?_
            have hl2 : H2 l = some (.lst vs0) := g2.hh l _ hl
            refine ⟨l, vs0, rfl, hl2, by rw [orl.length, sizeLine_eq]; exact hc, ?_⟩
            rcases putAt_next (i := i) (p := p) (f := fun xs => xs ++ [oe]) (ρ := ρ) with ⟨ρ', hp⟩ | hp
            · rw [hp] at h
              obtain ⟨A0, sa0⟩ := s1.sra
              have sa := sa0.step g2
              have Cn : ∀ c ∈ C, ∀ j, c ∉ A0 j := fun c hc j hj => ((sa0.sl j).there c hj).1 (n2 c hc)
              refine h σ _ F2 (put_state (C := C) sa e0 (hat.gr g2.hh) eo ea hl2 hp Cn (fun c hc => s1.gr.hh.none (n2 c hc)) fun B oB hB na => ?_)
              have Cl : ∀ c ∈ C, c ≠ l := fun c hc z => by
                have := n2 c hc
                rw [z, hl] at this
                cases this
              have k1 : ORs K (upd H2 l (.lst (vs0 ++ [y]))) F2 vs0 ys B := oB.keep (Sub.refl _) fun c hc => ⟨upd_ne fun z => na (z ▸ hc), (oB.there c hc).2⟩
              have k2 : OR K (upd H2 l (.lst (vs0 ++ [y]))) F2 y oe C := OR.keep (Sub.refl _) o2 fun c hc => ⟨upd_ne (Cl c hc), (OR.there o2 c hc).2⟩
              refine ⟨B ++ (C ++ []), k1.append (.cons k2 .nil fun _ _ z => by cases z) fun c hc hc2 => ?_, fun c hc => ?_, fun hc => ?_⟩
              · exact Cn c (by simpa using hc2) i (hB c hc)
              · rcases List.mem_append.mp hc with z | z
                · exact .inl z
                · exact .inr (by simpa using z)
              · rcases List.mem_append.mp hc with z | z
                · exact na z
                · exact Cl l (by simpa using z) rfl
            · rw [hp] at h; exact h.elim
theorem sok_app {p1 cpos pos' : Pos} (ho : EOk X o co) (he : EOk X e ce) (hbase : attributeBase o "append" X.env (eval o X.env) = eval o X.env := by rfl)
    (hfew : ((backTo cpos (starEach [e] X.env)).all (fun x => !x.1) && (backToKw cpos (keywordEach [] X.env)).all (fun x => x.1.isSome)
      && decide (([e] : List Expr).length + ([] : List Keyword).length + (if ([] : List Keyword).isEmpty then 0 else 1) < 30)) = true := by rfl)
    (hline : (p1.endLine == cpos.line) = true := by rfl) (hs : starEach [e] X.env = (false, eval e X.env) :: starEach [] X.env := by rfl) (hplain : (backTo cpos (starEach [] X.env)).any (·.1) = false := by rfl)
    (hsw : swapsWith (.Call (.Attribute o "append" p1) [e] [] cpos) none pos'.line X.env = pure false := by rfl) :
    SOk X (.Expr (.Call (.Attribute o "append" p1) [e] [] cpos) pos') (sApp co ce) := fun W tk =>
  ps_mono (ps_expr (pe_bm PySem.F.plainAttrs_list PySem.F.slot_list_append PySem.F.type_list_append mt_append (ho W tk) (pa_cons (he W tk) pa_nil hs) hbase hfew hline hs hplain) hsw) fun D σ H h => by
    have q := app_rd h
    show rdE X.K X.mg co W σ H fun x H1 => tyV X.K "list" x H1 ∧ rdE X.K X.mg ce W σ H1 fun y H2 => rAppend x [y] H2 fun _ H3 => D.nx σ H3
    obtain ⟨H0, F0, F, ρ, s, q⟩ := q
    refine ⟨H0, F0, F, ρ, s, ?_⟩
    cases e1 : co ρ with
    | stuck => rw [e1] at q; exact q
    | err x => rw [e1] at q; exact q
    | ok rv =>
      rw [e1] at q
      intro v H' F' A g o n
      obtain ⟨h1, H0', F0', F'', ρ', s', h2⟩ := q v H' F' A g o n
      refine ⟨h1, H0', F0', F'', ρ', s', ?_⟩
      cases e2 : ce ρ' with
      | stuck => rw [e2] at h2; exact h2
      | err x => rw [e2] at h2; exact h2
      | ok rv2 =>
        rw [e2] at h2
        intro v2 H2 F2 A2 g2 o2 n2
        obtain ⟨l, xs, ex, h3, h4, h5⟩ := h2 v2 H2 F2 A2 g2 o2 n2
        exact ⟨l, xs, v2, ex, rfl, h3, h4, h5⟩
/-! ### a def -/
theorem start_get {N : List Str} {vs : List V} {i : Nat} : (L2.start N vs)[i]? = if i < vs.length then (vs[i]?).map some else if i < N.length then some none else none := by
  unfold L2.start
  by_cases h : i < vs.length
  · rw [if_pos h, List.getElem?_append_left (by simpa using h), List.getElem?_map]
  · rw [if_neg h, List.getElem?_append_right (by simpa using Nat.le_of_not_lt h), List.getElem?_replicate]
    simp only [List.length_map]
    by_cases h2 : i < N.length
    · rw [if_pos (by omega), if_pos h2]
    · rw [if_neg (by omega), if_neg h2]
end
theorem ArgOk.get {K : Frag} {H F : Hp} : ∀ {vs : List V} {as : List Sl} {i : Nat} {s : Sl}, Paired (ArgOk K H F) vs as → as[i]? = some s → ∃ v, vs[i]? = some v ∧ ArgOk K H F v s
  | _, _, _, _, .nil, e => by simp at e
  | _, _, 0, _, .cons h _, e => by simp at e; subst e; exact ⟨_, rfl, h⟩
  | _, _, i + 1, _, .cons _ r, e => by
    obtain ⟨v, h1, h2⟩ := ArgOk.get (i := i) r (by simpa using e)
    exact ⟨v, by simpa using h1, h2⟩
theorem fok_of {P : Program} {w : World} {K : Frag} {mg : Str → Option Value} {base : Heap} {x qual : Str} {st : Stmt} {f : Addr} {fd : FuncData} {N ps : List Str} {k : Nat} {b : SC} (F : Fun K x qual st f fd) (S : FnScope N ps (defScope st))
    (hb : ∀ (cdv : Value) (A : Around) (outer : List Env) (s : Shared) (H : Hp) (E : XK), Room k (A.deeper (envOfC qual (defScope st) s.heap.objs.size f cdv)) → BOk (cxOf (L2.CX P w) P w K mg base N qual (defScope st) f cdv A outer s H E) (defBody st) b) :
    FOk P w K mg base (k + 1) f fd ps (runBody b N.length) := by
  refine F.okX S (fun vs H Q E h => ?_) (fun cdv A outer s H vs Q E hr h => ?_)
  · obtain ⟨_, as, _, hl, hp, _⟩ := h
    rw [Paired.length hp, hl]
  · refine ⟨_, hb cdv A outer s H E hr (fun cls d _ H => E cls d H) (takes_of rfl rfl rfl rfl), ?_⟩
    obtain ⟨F0, as, hF, hl, hp, h⟩ := h
    have hpl : ps.length ≤ N.length := by have := congrArg List.length S.pre; rw [List.length_take] at this; omega
    have hvl := Paired.length hp
    refine ⟨H, F0, F0, as.map some ++ List.replicate (N.length - as.length) none, ⟨?_, Gr.refl hF, fun _ => [], fun i => ?_, fun _ _ _ _ z => by cases z⟩, ?_⟩
    · unfold L2.start
      simp only [List.length_append, List.length_map, List.length_replicate]
      omega
    · by_cases hi : i < as.length
      · rw [List.getElem?_append_left (by simpa using hi), List.getElem?_map, List.getElem?_eq_getElem hi]
        obtain ⟨v, hv, ho⟩ := ArgOk.get hp (List.getElem?_eq_getElem hi)
        have e0 : (L2.start N vs)[i]? = some (some v) := by rw [start_get, if_pos (by omega), hv]; rfl
        show SlOk K H H F0 (L2.start N vs) i [] (some (some as[i]))
        match as[i], ho with
        | .own (.fz d), ho => exact ⟨v, e0, OR.fz ho, fun _ z => by cases z⟩
        | .bor d, ho => exact ⟨rfl, v, e0, ho⟩
      · rw [List.getElem?_append_right (by simpa using Nat.le_of_not_lt hi), List.getElem?_replicate]
        split
        · rfl
        · rfl
    · unfold runBody at h
      cases e : b (as.map some ++ List.replicate (N.length - as.length) none) with
      | next ρ' => rw [e] at h; exact fun σ' H' F' s' => h .non H' F' [] s'.gr (OR.fz .non) fun _ z => by cases z
      | ret ow => rw [e] at h; exact h
      | brk _ => rw [e] at h; exact h.elim
      | cont _ => rw [e] at h; exact h.elim
      | err x ρ' => rw [e] at h; exact fun cls d σ' H' F' s' xo => h cls d H' F' s'.gr xo
      | stuck => rw [e] at h; exact h.elim
/-- the def's own wish lets loops run -/
theorem pass_def {P : Program} {w : World} {K : Frag} {mg : Str → Option Value} {base : Heap} {N : List Str} {qual : Str} {sc : Scope} {f : Addr} {cdv : Value} {A : Around} {outer : List Env} {s : Shared} {H : Hp} {E : XK} :
    PassesOwn (model P w) (A.deeper (envOfC qual sc s.heap.objs.size f cdv)) (envOfC qual sc s.heap.objs.size f cdv) (cxOf (L2.CX P w) P w K mg base N qual sc f cdv A outer s H E).xe := PassesOwn.leaving
end VL

set_option Elab.async false
set_option linter.all false
set_option maxRecDepth 100000
set_option maxHeartbeats 4000000
/-! VL10: enumerate of a list or a tuple. -/
namespace PySem
open Sem (wp)
open AutoSeq1 (wpAny_loadPart')
theorem vl_enumerate_new1 {v : Value} {o : Obj} {H : Heap → Prop} (B : Begins v o H) :
    Meets (Builtin.«enumerate.__new__» ⟨[.type "enumerate", v], []⟩) (fun _ R s => H s.heap ∧
      R (.ok (.ret (.ref (s.heap.push o).objs.size))) { s with heap := (s.heap.push o).push { cls := .type "enumerate", data := .fields #[.none, .bool false, .ref s.heap.objs.size, rawInt 0, .none, .none] } }) :=
  .of_wp fun prog w A R s h => by
    obtain ⟨hp, g, d, tk, os⟩ := s; obtain ⟨h1, h⟩ := h
    have hsub := sub_enumerate
    have q1 : ∀ {A' : Around} {E : Value → Shared → Prop} {Q : Value → Shared → Prop}, Q (.ref hp.objs.size) ⟨hp.push o, g, d, tk, os⟩ → wpAny (model prog w) A' (pyIter v) Q E ⟨hp, g, d, tk, os⟩ :=
      fun q => B.iter prog w _ _ ⟨hp, g, d, tk, os⟩ _ h1 q
    wp_walk using q1
    refine wpAny_stack_any fun st => wpAny_pure ?_
    split
    · rename_i c _ _ _ _ _
      cases (c == Value.type "enumerate")
      · wp_walk using q1
        exact ⟨_, rfl, h⟩
      · wp_walk using q1
        exact ⟨_, rfl, h⟩
    · wp_walk using q1
      exact ⟨_, rfl, h⟩
theorem vl_enum_begins {prog : Program} {w : World} {A : Around} {E : Value → Shared → Prop} {s : Shared} {v : Value} {o : Obj} {H : Heap → Prop} {Q : Value → Shared → Prop} (B : Begins v o H) (h1 : H s.heap)
    (h : ∀ h', IsEnum h' (s.heap.objs.size + 1) s.heap.objs.size 0 .none → h'.get? s.heap.objs.size = some o → h'.objs.size = s.heap.objs.size + 2 →
      (∀ b o, s.heap.get? b = some o → h'.get? b = some o) → Q (.ref (s.heap.objs.size + 1)) { s with heap := h' }) :
    wpAny (model prog w) A (call (.type "enumerate") [v]) Q E s := by
  refine callType_new F.called_enumerate (by decide) (F.typeCall_enumerate_1 _) (F.newCall_enumerate_1 _) (fun obj => F.args_object_init_2 obj _) F.entry_enumerate_new
    (vl_enumerate_new1 B) ⟨h1, ?_⟩
  have hz : (s.heap.push o).objs.size = s.heap.objs.size + 1 := Heap.size_push ..
  show _ ∧ _
  rw [hz]
  have he : IsEnum ((s.heap.push o).push { cls := .type "enumerate", data := .fields #[.none, .bool false, .ref s.heap.objs.size, rawInt 0, .none, .none] }) (s.heap.objs.size + 1) s.heap.objs.size 0 .none := by
    have := Heap.get?_push_size (s.heap.push o) (o := { cls := .type "enumerate", data := .fields #[.none, .bool false, .ref s.heap.objs.size, rawInt 0, .none, .none] }) rfl
    rw [hz] at this; exact this
  refine ⟨⟨_, he, rfl⟩, h _ he (Heap.get?_push_of_some _ (Heap.get?_push_size _ B.free)) (by rw [Heap.size_push, hz]) fun b o x => Heap.get?_push_of_some _ (Heap.get?_push_of_some _ x)⟩
end PySem
namespace VL
open PySem PySem.Spec PyProof.Rows L2
/-- the pairs of enumerate over the tuple at a -/
def IteT (K : Frag) (a : Addr) : It :=
  ⟨fun i H => ∃ (xs : List V) (x : V), SqT K H a xs ∧ xs[i]? = some x, fun i H v H' => ∃ T x, v = .ref T ∧ H T = none ∧ H' = upd H T (.tup [.int (i : Nat), x]) ∧ ∀ xs, SqT K H a xs → xs[i]? = some x, fun i H => ∃ xs : List V, SqT K H a xs ∧ xs.length ≤ i⟩
theorem turn_enumT {P : Program} {w : World} {K : Frag} {elts : List Expr} {kk : Nat} {tpos : Pos} (a e it : Addr) :
    Turn P w K (.Tuple elts kk tpos) (IteT K a) [e, it] e (fun i h => (∃ old, IsEnum h e it ((i : Nat) : Int) old) ∧ h.IsTupleIter it a i ∧ e ≠ it) where
  mem := by simp
  obj := fun i h st b hb => by
    obtain ⟨⟨old, he⟩, ⟨o, ho, hc, hd⟩, _⟩ := st
    have e' : b = e ∨ b = it := by simpa using hb
    rcases e' with z | z
    · rw [z]; exact ⟨_, he, fun v q => nomatch q⟩
    · rw [z]; exact ⟨o, ho, fun v q => by rw [hd] at q; cases q⟩
  keep := fun i h h' st k => let ⟨⟨old, he⟩, hi, hne⟩ := st; ⟨⟨old, k e (by simp) _ he⟩, hi.at fun o q => k it (by simp) o q, hne⟩
  item := by
    intro X hP hw hK hc i pins s σ H E I hf st hg
    subst hP hw hK
    obtain ⟨⟨old, he⟩, hit, hne⟩ := st
    obtain ⟨xs, x, hq, hx⟩ := hg
    obtain ⟨its, rv, p, hz⟩ := I.tuple hq
    obtain ⟨u, hu, ru⟩ := rv.get hx
    have hel : e < s.heap.objs.size := Heap.lt_size he
    have hil : it < s.heap.objs.size := by obtain ⟨_, q, _⟩ := hit; exact Heap.lt_size q
    have pt : s.heap.IsTuple a its.toArray := p
    have hai : a ≠ it := fun z => by
      obtain ⟨o1, q1, c1, _⟩ := hit
      obtain ⟨o2, q2, c2, _⟩ := pt
      rw [z, q1] at q2
      cases q2
      rw [c1] at c2
      injection c2 with z2
      exact absurd z2 (by decide)
    have hae : e ≠ a := fun z => by
      obtain ⟨o2, q2, c2, _⟩ := pt
      rw [← z, he] at q2
      cases q2
      injection (show Value.type "enumerate" = Value.type "tuple" from c2) with z2
      exact absurd z2 (by decide)
    have hlt : i < its.toArray.size := by
      have := (List.getElem?_eq_some_iff.mp hu).1
      simpa using this
    refine wpAny_pyNext_enum_itemC (Draws.tuple (prog := X.prog) (w := X.w) (A := X.A.in1) (by exact I.ok.hd hc) it a hai its.toArray) he ⟨hit, pt⟩ hlt hne (by simp [hne, hae]) fun y h' tk hy ho hit' hT hsz hk => ?_
    have ey : y = u := by
      have hy' : its[i]? = some y := by simpa using hy
      rw [hu] at hy'
      cases hy'; rfl
    subst ey
    refine ⟨_, rfl, wpAny_letOwnedTupleGo_enum (s := { s with heap := h', toks := tk + 1 }) ho fun h'' he' sb => ?_⟩
    have hT2 : h''.get? s.heap.objs.size = some { cls := .type "tuple", data := .seq #[.int i tk, y] } := (sb.2 _ (Nat.ne_of_gt hel)).trans hT
    have new : ObjOk X.prog X.w (upd H s.heap.objs.size (.tup [.int (i : Nat), x])) h'' s.heap.objs.size (.tup [.int (i : Nat), x]) :=
      ⟨by show 2 ≤ sizeLine; decide, [.int i tk, y], .cons ⟨_, rfl⟩ (.cons ru .nil), ⟨_, hT2, rfl, _, rfl⟩⟩
    have I1 : Inv X pins σ (upd H s.heap.objs.size (.tup [.int (i : Nat), x])) { s with heap := h'', toks := tk + 1 } :=
      I.turnedNew (ch := [e, it]) (fun b ob hb q => (sb.2 b (fun z => hb (by simp [z]))).trans (hk b ob (fun z => hb (by simp [z])) (fun z => hb (by simp [z])) q)) hf (Nat.le_refl _) new
    refine ⟨.ref s.heap.objs.size, _, I1, rfl, ⟨_, x, rfl, I.hok.fresh (Nat.le_refl _), rfl, fun ys hy => by rw [I.tuple_inj hy hq]; exact hx⟩, ⟨⟨y, ?_⟩, hit'.1.at fun o q => (sb.2 it (Ne.symm hne)).trans q, hne⟩, fun b hb => ?_⟩
    · have e1 : ((i + 1 : Nat) : Int) = (i : Int) + 1 := by omega
      rw [e1]; exact he'
    · have hb' : b < s.heap.objs.size := by
        have e' : b = e ∨ b = it := by simpa using hb
        rcases e' with z | z
        · rw [z]; exact hel
        · rw [z]; exact hil
      rw [upd_ne (Nat.ne_of_lt hb')]
      exact (hf b hb).1
  done := by
    intro X hP hw hK hc i pins s σ H E I hf st hg
    subst hP hw hK
    obtain ⟨⟨old, he⟩, hit, hne⟩ := st
    obtain ⟨xs, hq, hx⟩ := hg
    obtain ⟨its, rv, p, hz⟩ := I.tuple hq
    have pt : s.heap.IsTuple a its.toArray := p
    obtain ⟨f0, f1, f2, f3, f4, f5⟩ := hf it (by simp)
    have hl := rv.length
    have hai : a ≠ it := fun z => by
      obtain ⟨o1, q1, c1, _⟩ := hit
      obtain ⟨o2, q2, c2, _⟩ := pt
      rw [z, q1] at q2
      cases q2
      rw [c1] at c2
      injection c2 with z2
      exact absurd z2 (by decide)
    have hT : s.TypeIs (.ref e) "enumerate" := ⟨_, he, rfl⟩
    unfold pyNext
    refine wpAny_bind (wpAny_attempt (wpAny_callSpecial?_slot (name := Str.ofString "__next__") hT F.slot_enumerate_next
      (wpAny_call_entry F.slot_enumerate_next hT F.entry_enumerate_next ?_ (F.args_enumerate_next_1 _))))
    show wpAny _ _ (field (.ref e) 2 >>= _) _ _ _
    refine wpAny_bind (wpAny_field he rfl (x := .ref it) rfl ?_)
    refine wpAny_bind (wpAny_nextOf_tuple_end (by exact I.ok.hd hc) hit pt (by simp; omega) fun h' x he' hx' => ?_)
    obtain ⟨o, ho, hc'⟩ := hx'
    refine wpAny_bind (wpAny_isInstance (T := "StopIteration") (b := true) ⟨o, ho, hc'⟩ isSubtype_stop ?_)
    exact wpAny_pure ⟨rfl, I.turned (t' := s.toks) (fun b o hb q => he' b o hb q) f0 f1 f3 f4 f5⟩
  self := fun A i s Q E st h => let ⟨⟨_, he⟩, _⟩ := st; wpAny_pyIter_enum he h
def iEnumV (K : Frag) (tl : TE) : TI := fun σ H R => tl σ H fun x H1 => ∃ a, [x] = [V.ref a] ∧ ((∃ xs, SqL K H1 a xs ∧ R (Ite K a) H1) ∨ (∃ xs, SqT K H1 a xs ∧ R (IteT K a) H1))
theorem pi_enumV {X : Cx} {e : Expr} {te : TE} {p pos tpos : Pos} {elts : List Expr} {kk : Nat} (hg : Gl X "enumerate") (hm : X.mg "enumerate" = none) (he : PE X e te) (na : starEach [e] X.env = (false, eval e X.env) :: starEach [] X.env := by rfl) (hs : starEach [e] X.env = [(false, eval e X.env)] := by rfl) :
    PI X (.Tuple elts kk tpos) (.Call (.Name "enumerate" p) [e] [] pos) (iEnumV X.K te) := by
  refine ⟨fun pins s σ H R I h => ?_⟩
  have ha : PA X [e] (tCons te tNil) := pa_cons he pa_nil na
  refine Call_ (ld_blt I hg hm boot_enumerate (PyProof.Rows.callWith_type1 (thn (ha.run pos pins s σ H (fun vs H1 => ∃ a, vs = [V.ref a] ∧ ((∃ xs, SqL X.K H1 a xs ∧ R (Ite X.K a) H1) ∨ (∃ xs, SqT X.K H1 a xs ∧ R (IteT X.K a) H1))) I h) fun us s1 ⟨vs, H1, I1, r1, q1⟩ => ?_) hs rfl))
  obtain ⟨a, ex, q⟩ := q1
  subst ex
  cases r1 with
  | cons r rr =>
    cases rr
    cases r
    rcases q with ⟨xs, hq, q⟩ | ⟨xs, hq, q⟩
    · obtain ⟨its, rv, p', hz⟩ := I1.list hq
      refine call_enumerate_list p'.isList fun h' he hit hsz hk => wpAny_pyIter_enum he ?_
      have I2 : Inv X pins σ H1 { s1 with heap := h' } := I1.kept (t' := s1.toks) hk
      refine ⟨s1.heap.objs.size + 1, [s1.heap.objs.size + 1, s1.heap.objs.size], _, _, H1, rfl, I2, turn_enum a (s1.heap.objs.size + 1) s1.heap.objs.size, ⟨⟨.none, he⟩, hit, Nat.succ_ne_self _⟩, fun b hb => ?_, q⟩
      have e' : b = s1.heap.objs.size + 1 ∨ b = s1.heap.objs.size := by simpa using hb
      have hle : s1.heap.objs.size ≤ b := by
        rcases e' with z | z
        · rw [z]; exact Nat.le_add_right _ _
        · rw [z]; exact Nat.le_refl _
      exact I1.fpOk hle (I1.hok.fresh hle)
    · obtain ⟨its, rv, p', hz⟩ := I1.tuple hq
      refine vl_enum_begins (begins_tuple a its.toArray) (show s1.heap.IsTuple a its.toArray from p') fun h' he hit hsz hk => wpAny_pyIter_enum he ?_
      have I2 : Inv X pins σ H1 { s1 with heap := h' } := I1.kept (t' := s1.toks) hk
      refine ⟨s1.heap.objs.size + 1, [s1.heap.objs.size + 1, s1.heap.objs.size], _, _, H1, rfl, I2, turn_enumT a (s1.heap.objs.size + 1) s1.heap.objs.size, ⟨⟨.none, he⟩, ⟨_, hit, rfl, rfl⟩, Nat.succ_ne_self _⟩, fun b hb => ?_, q⟩
      have e' : b = s1.heap.objs.size + 1 ∨ b = s1.heap.objs.size := by simpa using hb
      have hle : s1.heap.objs.size ≤ b := by
        rcases e' with z | z
        · rw [z]; exact Nat.le_add_right _ _
        · rw [z]; exact Nat.le_refl _
      exact I1.fpOk hle (I1.hok.fresh hle)
theorem enumS_get : ∀ (ss : List Sl) (k i : Nat), (enumS k ss)[i]? = (ss[i]?).map fun s => [slOf (.int ((k + i : Nat) : Int)), s]
  | [], k, i => by simp [enumS]
  | s :: ss, k, 0 => by simp [enumS]
  | s :: ss, k, i + 1 => by
    simp only [enumS, List.getElem?_cons_succ]
    rw [enumS_get ss (k + 1) i]
    have : k + 1 + i = k + (i + 1) := by omega
    rw [this]
theorem enumS_len : ∀ (ss : List Sl) (k : Nat), (enumS k ss).length = ss.length
  | [], _ => rfl
  | _ :: ss, k => by simp [enumS, enumS_len ss (k + 1)]
theorem enum_iter {K : Frag} {H0 Fi : Hp} {a : Addr} {vs : List V} {l : Bool} {ss : List Sl} {i j : Nat} (h : Still K H0 Fi a vs l) (p : Paired (It1 K H0 Fi) vs ss) :
    IterOk K H0 Fi (if l = true then Ite K a else IteT K a) (gRow K 2 (gNames [i, j])) [i, j] (enumS 0 ss) := by
  have hlen := Paired.length p
  have key : ∀ (k : Nat) (s : List Sl) (A : Nat → List Addr) (σ : S) (H F : Hp) (ρ : Rho) (x : V) (T : Addr) (Q : S → Hp → Prop), (enumS 0 ss)[k]? = some s → SRA K H0 Fi A σ H F ρ → vs[k]? = some x → H T = none →
      (∀ A' σ' H2 F2, SRA K H0 Fi A' σ' H2 F2 (setAll [i, j] s ρ) → Gr H F H2 F2 → (∀ m, m ∉ [i, j] → σ'[m]? = σ[m]?) → (∀ m, ∀ a ∈ A' m, a ∈ A m) → σ'.length = σ.length → Q σ' H2) → gRow K 2 (gNames [i, j]) (.ref T) σ (upd H T (.tup [.int (k : Nat), x])) Q := by
    intro k s A σ H F ρ x T Q e sr hx hT kk
    rw [enumS_get] at e
    cases es : ss[k]? with
    | none => rw [es] at e; cases e
    | some t =>
      rw [es] at e
      cases e
      obtain ⟨y, hy, ht⟩ := Paired.get2 p es
      rw [hx] at hy
      cases hy
      have g := Gr.laid (o := .tup [.int (k : Nat), x]) sr.gr.fh' hT
      refine ⟨T, [.int (k : Nat), x], rfl, .inr (.of upd_same), rfl, ?_⟩
      have v1 : VOk K H0 (upd H T (.tup [.int (k : Nat), x])) F (.int (k : Nat)) [] (slOf (.int ((0 + k : Nat) : Int))) := by
        rw [Nat.zero_add]; exact ⟨OR.fz (.int _), fun _ z => by cases z⟩
      refine gNames_ok (sr.step g) (.cons (B := []) (C := []) v1 (.cons (B := []) (C := []) (ht.vok (H := _) sr.gr.ff) .nil fun _ z => by cases z) fun _ z => by cases z) rfl (fun _ z => by cases z) fun σ' A' s' e1 e2 e3 => kk A' σ' _ F s' g e1 (fun m b hb => ?_) e3
      rcases e2 m b hb with z | z
      · exact z
      · cases z
  cases l with
  | true =>
    simp only [if_true]
    refine ⟨fun k H F g hk => ?_, fun H F g => ?_, fun k s A σ H F ρ x H' Q e sr y kk => ?_⟩
    · have hk' : k < vs.length := by rw [hlen]; rw [enumS_len] at hk; exact hk
      exact ⟨vs, vs[k], h.lst g, List.getElem?_eq_getElem hk'⟩
    · exact ⟨vs, h.lst g, by rw [hlen, enumS_len]; exact Nat.le_refl _⟩
    · obtain ⟨T, z, e1, hT, e2, e3⟩ := y
      subst e1
      subst e2
      exact key k s A σ H F ρ z T Q e sr (e3 vs (h.lst sr.gr)) hT kk
  | false =>
    simp only [Bool.false_eq_true, if_false]
    refine ⟨fun k H F g hk => ?_, fun H F g => ?_, fun k s A σ H F ρ x H' Q e sr y kk => ?_⟩
    · have hk' : k < vs.length := by rw [hlen]; rw [enumS_len] at hk; exact hk
      exact ⟨vs, vs[k], h.tup g, List.getElem?_eq_getElem hk'⟩
    · exact ⟨vs, h.tup g, by rw [hlen, enumS_len]; exact Nat.le_refl _⟩
    · obtain ⟨T, z, e1, hT, e2, e3⟩ := y
      subst e1
      subst e2
      exact key k s A σ H F ρ z T Q e sr (e3 vs (h.tup sr.gr)) hT kk
theorem iok_enum {X : Cx} {e : Expr} {c : EC} {p pos tpos : Pos} {elts : List Expr} {kk i j : Nat} (hm : X.mg "enumerate" = none) (h : EOk X e c) (hg : Gl X "enumerate" := by rfl) (na : starEach [e] X.env = (false, eval e X.env) :: starEach [] X.env := by rfl) (hs : starEach [e] X.env = [(false, eval e X.env)] := by rfl) :
    IOk X (.Tuple elts kk tpos) (.Call (.Name "enumerate" p) [e] [] pos) (gRow X.K 2 (gNames [i, j])) [i, j] (iEnum c) := fun W tk => pi_mono (pi_enumV hg hm (h W tk) na hs) fun σ H R q => by
  obtain ⟨H0, F0, F, ρ, s, q⟩ := q
  show rdE X.K X.mg c W σ H fun x H1 => ∃ a, [x] = [V.ref a] ∧ ((∃ xs, SqL X.K H1 a xs ∧ R (Ite X.K a) H1) ∨ (∃ xs, SqT X.K H1 a xs ∧ R (IteT X.K a) H1))
  unfold iEnum at q
  cases e1 : c ρ with
  | stuck => rw [e1] at q; exact q.elim
  | err x => rw [e1] at q; exact rdE_err s e1 q
  | ok rv =>
    rw [e1] at q
    simp only [Res.bind] at q
    refine rdE_ok s e1 fun v H1 F1 A g o n => ?_
    cases e2 : rv.iter with
    | none => rw [e2] at q; exact q.elim
    | some ss =>
      rw [e2] at q
      simp only at q
      have s1 := s.step g
      obtain ⟨a, vs, F', lb, rfl, g2, st, p⟩ := iter_ok s1 o g n e2
      have it := enum_iter (i := i) (j := j) st p
      cases lb with
      | true =>
        simp only [if_true] at it
        exact ⟨a, rfl, .inl ⟨vs, st.lst ⟨s1.gr.hh, Sub.refl _, fun _ h => .inl h, g2.fh'⟩, q _ H1 F' g2 it⟩⟩
      | false =>
        simp only [Bool.false_eq_true, if_false] at it
        exact ⟨a, rfl, .inr ⟨vs, st.tup ⟨s1.gr.hh, Sub.refl _, fun _ h => .inl h, g2.fh'⟩, q _ H1 F' g2 it⟩⟩
end VL

set_option Elab.async false
set_option linter.all false
set_option maxRecDepth 100000
set_option maxHeartbeats 2000000
/-! VL11: short names for the generated walks; the end. -/
namespace VL
open PySem PySem.Spec PyProof.Rows L2
section
variable {X : Cx} {e : Expr}
theorem ev (i : Nat) {x : Str} {pos : Pos} (hN : X.N[i]? = some x := by rfl) (hv : Vis X.env.scope x := by first | exact Or.inl rfl | exact Or.inr (Or.inl rfl) | exact Or.inr (Or.inr rfl)) (hd : (x == ("__debug__" : Str)) = false := by decide)
    (hcd : (x == ("__classdict__" : Str)) = false := by decide) : EOk X (.Name x pos) (eVar i) := eok_var hN hv hd hcd
theorem eg {x : Str} (d : D) {u : Value} {pos : Pos} (hm : X.mg x = some u) (r : RelV (vOf d) u) (hd : scal d = true := by rfl) (hg : Gl X x := by rfl) (hdb : (x == ("__debug__" : Str)) = false := by decide) : EOk X (.Name x pos) (eK d) := eok_glob hd hm r hg hdb
theorem tn (i : Nat) {x : Str} {pos : Pos} (hnd : X.N.Nodup) (hN : X.N[i]? = some x := by rfl) (hx : Loc X.env.scope x := by first | exact Or.inl rfl | exact Or.inr rfl) (hf : X.fn x = true ∨ X.env.scope.names.lookup x = some .local := by first | exact .inl rfl | exact .inr rfl) : PG X (.Name x pos) (gName i) := pg_name hnd hN hx hf
theorem st (i : Nat) {x : Str} {pos p2 : Pos} {ce : EC} (hnd : X.N.Nodup) (h : EOk X e ce) (hN : X.N[i]? = some x := by rfl) (hx : Loc X.env.scope x := by first | exact Or.inl rfl | exact Or.inr rfl) (hs : swapsWith e (some (.Name x p2)) pos.line X.env = pure false := by rfl)
    (hf : X.fn x = true ∨ X.env.scope.names.lookup x = some .local := by first | exact .inl rfl | exact .inr rfl) : SOk X (.Assign [.Name x p2] e pos) (sSet i ce) := sok_set hnd hN hx h hs hf
structure Df (P : Program) (w : World) (K : Frag) (mg : Str → Option Value) (base : Heap) (k : Nat) (f : Addr) (fd : FuncData) (x : Str) (ps : List Str) (φ : Fn) : Prop where
  ok : FOk P w K mg base k f fd ps φ
  hm : mg x = some (.ref f)
  hk : PySem.W.keepIn K (.ref f) = true
  hb : Binds K fd ps []
theorem Df.call {k k' : Nat} {f : Addr} {fd : FuncData} {ps : List Str} {φ : Fn} {x : Str} {p pos : Pos} {e : Expr} {es : List Expr} {cs : List EC} (D : Df X.prog X.w X.K X.mg X.base k f fd x ps φ) (hr : Room k' X.A) (ha : AOk X (e :: es) cs) (hk : k ≤ k' := by decide) (hl : cs.length = ps.length := by rfl)
    (hg : Gl X x := by rfl) (hdb : (x == ("__debug__" : Str)) = false := by decide) (he : starEach (e :: es) X.env = (false, eval e X.env) :: starEach es X.env := by rfl) (hpl : (backTo pos (starEach es X.env)).any (·.1) = false := by rfl) :
    EOk X (.Call (.Name x p) (e :: es) [] pos) (eCall φ cs) := eok_call D.ok (hr.mono hk) D.hm D.hk D.hb hl ha hg hdb he hpl
theorem Df.mk' {P : Program} {w : World} {K : Frag} {mg : Str → Option Value} {base : Heap} {k : Nat} {f : Addr} {fd : FuncData} {x : Str} {ps : List Str} {φ : Fn} {qual : Str} {st : Stmt} (F : Fun K x qual st f fd) (hm : mg x = some (.ref f)) (hb : Binds K fd ps []) (ok : FOk P w K mg base k f fd ps φ) : Df P w K mg base k f fd x ps φ := ⟨ok, hm, F.kp, hb⟩
end
/-- the end: the law's def, called with the script -/
theorem rp_ints {K : Frag} {H : Hp} : ∀ (ns : List Int), RpAll K H (ns.map V.int) (ns.map PyData.int)
  | [] => .nil
  | i :: r => .cons (.int i) (rp_ints r)
theorem walk_ofV {l : PySem.W.OpenLaw} {k : Nat} {q : Program} {loose : List Str} {XP : (Str → Option Value) → Heap → Prop} {YP : World → Heap → Prop} {d : DefRec} {K : Params → Frag} {x : Str} {φ : Fn}
    (hn : l.most = some 63) (hdf : d.params.defaults = []) (hr : Room k callerA)
    (hY : ∀ (w : World) (h : Heap), YP w h → (K w.params).In h)
    (F : ∀ (w : World) (mg : Str → Option Value) (fa : Addr) (h : Heap), (K w.params).In h → h.Ns mainGlobals mg → mg d.name = some (.ref fa) →
      ∃ fd : FuncData, (∀ (s : Shared) (u : Value), BindsTo s fd ⟨[u], []⟩ [(x, u)]) ∧
        ∀ base : Heap, (K w.params).In base → base.Ns mainGlobals mg → FOk l.prog w (K w.params) mg base k fa fd [x] φ)
    (law : ∀ ns : List Int, ns.length ≤ 63 → φ [.own (.fz (.list (ns.map PyData.int)))] = .ok (.fz (.bool true))) :
    PySem.W.WalkO q loose XP YP l.row.toRowW d [] (fun f vs => PySem.call f vs) := by
  refine Att.attach_call hn hdf fun w s₀ s₁ mg mb fa o pm cd doc a vs ns G Y ho hd hcd hmg hobj hints hlen hg => ?_
  have KX := hY w _ Y
  obtain ⟨fd, hb, hF⟩ := F w mg fa _ KX G.T.g hmg
  refine law_call KX G.T.g G.T.b G.T.builtins G.T.nolimit hg hobj hints (Nat.le_trans hlen (by decide)) hr hF hb (fun H hO hS => ?_) fun H e s' ⟨_, _, _, _, _, _, _, _, _, _, _, _, hE⟩ => hE
  have lk : LK (K w.params) H a (ns.map V.int) := by
    rcases hS with h | ⟨o, its, n, hk, _, _, hs, hz, r⟩
    · exact .inl h
    · have e := KX _ _ hk
      rw [hobj] at e
      cases e
      cases hs
      exact .inr ⟨_, _, hk, hz, r⟩
  refine ⟨H, [.own (.fz (.list (ns.map PyData.int)))], Sub.refl _, rfl, .cons (.lst lk (rp_ints ns)) .nil, ?_⟩
  rw [law ns hlen]
  intro v H' F' A g o _
  have := (OR.fz_inv o).2
  cases this
  rfl
end VL

set_option Elab.async false
set_option linter.all false
set_option maxRecDepth 100000
set_option maxHeartbeats 2000000
/-! VL12: list(range(..)). -/
namespace VL
open PySem PySem.Spec PyProof.Rows L2
def rgB (a b : Int) : Bool := decide (-(2 ^ 62) ≤ a) && decide (a < 2 ^ 62) && decide (-(2 ^ 62) ≤ b) && decide (b < 2 ^ 62) && decide ((b - a).toNat ≤ 2 ^ 24)
def rgD (a b : Int) : List D := (List.range (b - a).toNat).map fun (i : Nat) => .int (a + (i : Nat))
def fLRng1 (x : RV) : Res RV := match x.d with
  | .int i => if rgB 0 i = true then .ok (.val (.ls ((rgD 0 i).map Ow.fz))) else .stuck
  | _ => .stuck
def fLRng2 (x y : RV) : Res RV := match x.d, y.d with
  | .int i, .int j => if rgB i j = true then .ok (.val (.ls ((rgD i j).map Ow.fz))) else .stuck
  | _, _ => .stuck
theorem rgB_ok {a b : Int} (h : rgB a b = true) : RgOk a b := by
  simp only [rgB, Bool.and_eq_true, decide_eq_true_eq] at h
  exact ⟨h.1.1.1.1, h.1.1.1.2, h.1.1.2, h.1.2, h.2⟩
theorem rp_rg {K : Frag} {H : Hp} (f : Nat → Int) : ∀ (l : List Nat), RpAll K H (l.map fun i => V.int (f i)) (l.map fun i => PyData.int (f i))
  | [] => .nil
  | i :: r => .cons (.int _) (rp_rg f r)
section
variable {X : Cx} {a b : Expr} {ca cb : EC} {pos p p2 : Pos}
def rLRg1 : V → Hp → VK → Prop := fun x H Q => ∃ n, x = .int n ∧ RgOk 0 n ∧ ∀ q, H q = none → Q (.ref q) (upd H q (.lst (rgV 0 n)))
def rLRg2 : R2 := fun x y H Q => ∃ i j, x = .int i ∧ y = .int j ∧ RgOk i j ∧ ∀ q, H q = none → Q (.ref q) (upd H q (.lst (rgV i j)))
theorem op1_lrng1 : Op1 X rLRg1 fLRng1 := by
  intro H0 F0 F H σ ρ x A rx Q s hx
  unfold fLRng1
  have pp := hx.dp s
  cases ed : rx.d with
  | int i =>
    rw [ed] at pp
    obtain rfl := rp_int pp
    by_cases hc : rgB 0 i = true
    · simp only [hc, if_true]
      intro k
      refine ⟨i, rfl, rgB_ok hc, fun q hq => ?_⟩
      have o : ORs X.K H F (rgV 0 i) ((rgD 0 i).map Ow.fz) [] := ORs.ofDp (rp_rg (fun k => 0 + (k : Nat)) _)
      obtain ⟨g, oo⟩ := fin_ls s o hq
      refine k _ _ _ _ g oo fun c hc => ?_
      rcases List.mem_cons.mp hc with rfl | hc
      · exact .inr hq
      · cases hc
    · simp only [hc]
      trivial
  | _ => trivial
theorem op2_lrng2 : Op2 X rLRg2 fLRng2 := by
  intro H0 F0 F H σ ρ x y A B rx ry Q s hx hy dis
  unfold fLRng2
  have px := hx.dp s
  have py := hy.dp s
  cases ex : rx.d with
  | int i =>
    cases ey : ry.d with
    | int j =>
      rw [ex] at px; rw [ey] at py
      obtain rfl := rp_int px
      obtain rfl := rp_int py
      by_cases hc : rgB i j = true
      · simp only [hc, if_true]
        intro k
        refine ⟨i, j, rfl, rfl, rgB_ok hc, fun q hq => ?_⟩
        have o : ORs X.K H F (rgV i j) ((rgD i j).map Ow.fz) [] := ORs.ofDp (rp_rg (fun k => i + (k : Nat)) _)
        obtain ⟨g, oo⟩ := fin_ls s o hq
        refine k _ _ _ _ g oo fun c hc => ?_
        rcases List.mem_cons.mp hc with rfl | hc
        · exact .inr (.inr hq)
        · cases hc
      · simp only [hc]
        trivial
    | _ => trivial
  | _ => trivial
theorem eok_lrng1 {p3 pos3 : Pos} (hl : X.mg "list" = none) (hr : X.mg "range" = none) (ha : EOk X a ca) (hc : X.calm = true := by rfl) (hg : Gl X "list" := by rfl) (hg2 : Gl X "range" := by rfl) (na : starEach [a] X.env = (false, eval a X.env) :: starEach [] X.env := by rfl)
    (ne : starEach [(.Call (.Name "range" p2) [a] [] pos : Expr)] X.env = (false, eval (.Call (.Name "range" p2) [a] [] pos) X.env) :: starEach [] X.env := by rfl) :
    EOk X (.Call (.Name "list" p3) [.Call (.Name "range" p2) [a] [] pos] [] pos3) (eUn fLRng1 ca) :=
  eok_un (R := rLRg1) (fun ta h => pe_listRg hc hg hl (prg_1 hg2 hr h na) ne) op1_lrng1 ha
theorem eok_lrng2 {p3 pos3 : Pos} (hl : X.mg "list" = none) (hr : X.mg "range" = none) (ha : EOk X a ca) (hb : EOk X b cb) (hc : X.calm = true := by rfl) (hg : Gl X "list" := by rfl) (hg2 : Gl X "range" := by rfl) (na : starEach [a, b] X.env = (false, eval a X.env) :: starEach [b] X.env := by rfl)
    (nb : starEach [b] X.env = (false, eval b X.env) :: starEach [] X.env := by rfl) (hp : (backTo pos (starEach [b] X.env)).any (·.1) = false := by rfl)
    (ne : starEach [(.Call (.Name "range" p2) [a, b] [] pos : Expr)] X.env = (false, eval (.Call (.Name "range" p2) [a, b] [] pos) X.env) :: starEach [] X.env := by rfl) :
    EOk X (.Call (.Name "list" p3) [.Call (.Name "range" p2) [a, b] [] pos] [] pos3) (eBin fLRng2 ca cb) :=
  eok_bin (R := rLRg2) (fun ta tb h h' => pe_listRg hc hg hl (prg_2 hg2 hr h h' na nb hp) ne) op2_lrng2 ha hb
end
end VL

set_option Elab.async false
set_option linter.all false
set_option maxRecDepth 100000
set_option maxHeartbeats 2000000
/-! VL13: plain lemmas about the combinators. -/
namespace VL
open PySem PySem.Spec PyProof.Rows L2
theorem forL_ix {tg : List Nat} {b : SC} {I : Nat → Rho → Prop} : ∀ (vs : List (List Sl)) (k0 : Nat) (ρ : Rho), I k0 ρ →
    (∀ k v ρ, vs[k]? = some v → I (k0 + k) ρ → ∃ ρ', (b (setAll tg v ρ) = .next ρ' ∨ b (setAll tg v ρ) = .cont ρ') ∧ I (k0 + k + 1) ρ') →
    ∃ ρ', forL tg b vs ρ = .next ρ' ∧ I (k0 + vs.length) ρ'
  | [], k0, ρ, h, _ => ⟨ρ, rfl, h⟩
  | v :: vs, k0, ρ, h, st => by
    obtain ⟨ρ1, e, h1⟩ := st 0 v ρ rfl h
    obtain ⟨ρ2, e2, h2⟩ := forL_ix vs (k0 + 1) ρ1 h1 fun k w ρ hw hI => by
      have := st (k + 1) w ρ (by simpa using hw) (by rw [show k0 + (k + 1) = k0 + 1 + k by omega]; exact hI)
      rw [show k0 + (k + 1) + 1 = k0 + 1 + k + 1 by omega] at this
      exact this
    refine ⟨ρ2, ?_, by rw [List.length_cons, show k0 + (vs.length + 1) = k0 + 1 + vs.length by omega]; exact h2⟩
    unfold forL
    rcases e with e | e <;> rw [e] <;> exact e2
/-- .. from the start -/
theorem forL_n {tg : List Nat} {b : SC} (I : Nat → Rho → Prop) {vs : List (List Sl)} {ρ : Rho} (h : I 0 ρ)
    (st : ∀ k v ρ, vs[k]? = some v → I k ρ → ∃ ρ', (b (setAll tg v ρ) = .next ρ' ∨ b (setAll tg v ρ) = .cont ρ') ∧ I (k + 1) ρ') : ∃ ρ', forL tg b vs ρ = .next ρ' ∧ I vs.length ρ' := by
  have := forL_ix (I := I) vs 0 ρ h fun k v ρ hv hI => by
    simp only [Nat.zero_add] at hI ⊢
    exact st k v ρ hv hI
  simpa using this
theorem compL_filter {tg : List Nat} {t : TC} {e : EC} {ρ : Rho} (p : List Sl → Bool) (f : List Sl → Ow) : ∀ vs : List (List Sl), (∀ v ∈ vs, t (setAll tg v ρ) = .ok (p v) ∧ (p v = true → e (setAll tg v ρ) = .ok (.val (f v)))) →
    compL tg t e vs ρ = .ok ((vs.filter p).map f)
  | [], _ => rfl
  | v :: vs, h => by
    have ih := compL_filter p f vs fun w hw => h w (List.mem_cons_of_mem _ hw)
    obtain ⟨h1, h2⟩ := h v List.mem_cons_self
    unfold compL
    rw [h1]
    cases hp : p v with
    | true =>
      rw [h2 hp]
      show (compL tg t e vs ρ).bind _ = _
      rw [ih, List.filter_cons_of_pos hp]
      rfl
    | false =>
      show compL tg t e vs ρ = _
      rw [ih, List.filter_cons_of_neg (by simp [hp])]
theorem compL_map {tg : List Nat} {t : TC} {e : EC} {ρ : Rho} (f : List Sl → Ow) (vs : List (List Sl)) (h : ∀ v ∈ vs, t (setAll tg v ρ) = .ok true ∧ e (setAll tg v ρ) = .ok (.val (f v))) :
    compL tg t e vs ρ = .ok (vs.map f) := by
  have := compL_filter (t := t) (e := e) (ρ := ρ) (tg := tg) (fun _ => true) f vs fun v hv => ⟨(h v hv).1, fun _ => (h v hv).2⟩
  rw [this, List.filter_eq_self.mpr (fun _ _ => rfl)]
theorem whileN_mono {t : TC} {b : SC} : ∀ (n m : Nat) (ρ : Rho), whileN t b n ρ ≠ .stuck → n ≤ m → whileN t b m ρ = whileN t b n ρ
  | 0, _, _, h, _ => absurd rfl h
  | n + 1, 0, _, _, h => by omega
  | n + 1, m + 1, ρ, h, hm => by
    unfold whileN at h ⊢
    cases e : t ρ with
    | stuck => rfl
    | err x => rfl
    | ok c =>
      rw [e] at h
      cases c with
      | false => rfl
      | true =>
        simp only at h ⊢
        cases e2 : b ρ with
        | next ρ' => rw [e2] at h; exact whileN_mono n m ρ' h (by omega)
        | cont ρ' => rw [e2] at h; exact whileN_mono n m ρ' h (by omega)
        | _ => rfl
theorem sWhile_of {t : TC} {b : SC} {n : Nat} {ρ ρ' : Rho} (h : whileN t b n ρ = .next ρ') (hn : n ≤ fuel) : sWhile t b ρ = .next ρ' := by
  unfold sWhile
  rw [whileN_mono n fuel ρ (by rw [h]; simp) hn, h]
/-! rows of ints -/
def oI (ns : List Int) : List Ow := ns.map fun n => .fz (.int n)
def dI (ns : List Int) : List D := ns.map .int
theorem oI_fz (ns : List Int) : (dI ns).map Ow.fz = oI ns := by unfold oI dI; rw [List.map_map]; rfl
theorem toDs_oI (ns : List Int) : toDs (oI ns) = dI ns := by rw [← oI_fz, toDs_fz]
theorem oI_all (ns : List Int) : (oI ns).all isFz = true := by
  rw [List.all_eq_true]; intro x hx
  obtain ⟨n, _, rfl⟩ := List.mem_map.mp hx
  rfl
theorem dI_scal (ns : List Int) : (dI ns).all scal = true := by
  rw [List.all_eq_true]; intro x hx
  obtain ⟨n, _, rfl⟩ := List.mem_map.mp hx
  rfl
theorem oI_app (ns : List Int) (n : Int) : oI ns ++ [Ow.fz (.int n)] = oI (ns ++ [n]) := by unfold oI; rw [List.map_append]; rfl
theorem oI_get (ns : List Int) (k : Nat) : (oI ns)[k]? = (ns[k]?).map fun n => .fz (.int n) := by unfold oI; rw [List.getElem?_map]
theorem dI_get (ns : List Int) (k : Nat) : (dI ns)[k]? = (ns[k]?).map PyData.int := by unfold dI; rw [List.getElem?_map]
theorem oI_len (ns : List Int) : (oI ns).length = ns.length := by unfold oI; rw [List.length_map]
theorem dI_len (ns : List Int) : (dI ns).length = ns.length := by unfold dI; rw [List.length_map]
theorem intsOf_dI : ∀ ns : List Int, intsOf (dI ns) = some ns
  | [] => rfl
  | n :: r => by
    show (match intsOf (dI r) with | some is => some (n :: is) | none => none) = _
    rw [intsOf_dI r]
theorem eqF_int (a b : Int) : eqF (.int a) (.int b) = decide (a = b) := by
  show (a == b) = _
  by_cases h : a = b <;> simp [h]
theorem any_dI (ns : List Int) (x : Int) : ((dI ns).any fun d => eqF d (.int x)) = decide (x ∈ ns) := by
  induction ns with
  | nil => simp [dI]
  | cons n r ih =>
    show (eqF (.int n) (.int x) || (dI r).any _) = _
    rw [ih, eqF_int]
    by_cases h : n = x
    · simp [h]
    · have h' : ¬ x = n := fun e => h e.symm
      simp [h, h']
theorem fIn_dI {y : RV} {ns : List Int} (x : Int) (h : rowOf y.d = some (dI ns)) : fIn (.val (.fz (.int x))) y = .ok (.val (.fz (.bool (decide (x ∈ ns))))) := by
  unfold fIn
  rw [h]
  simp only [RV.d, Ow.toD, scal, dI_scal, and_self, if_true, any_dI, rD]
theorem fNotIn_dI {y : RV} {ns : List Int} (x : Int) (h : rowOf y.d = some (dI ns)) : fNotIn (.val (.fz (.int x))) y = .ok (.val (.fz (.bool (!decide (x ∈ ns))))) := by
  unfold fNotIn
  rw [h]
  simp only [RV.d, Ow.toD, scal, dI_scal, and_self, if_true, any_dI, rD]
theorem atI_nat {α : Type} (xs : List α) {k : Int} (h0 : 0 ≤ k) (h1 : k < xs.length) : atI xs k = xs[k.toNat]? := by
  unfold atI ixN
  rw [if_pos h0, if_pos h1]
  rfl
theorem fIx_row {d e : D} {ds : List D} {k : Int} (h : rowOf d = some ds) (h0 : 0 ≤ k) (h1 : ds[k.toNat]? = some e) : fIx (.val (.fz d)) (.val (.fz (.int k))) = .ok (.val (.fz e)) := by
  have hl : k < ds.length := by
    have := (List.getElem?_eq_some_iff.mp h1).1
    omega
  unfold fIx
  cases d with
  | list es => cases h; simp only [RV.d, Ow.toD, atI_nat _ h0 hl, h1, rD]
  | tuple es => cases h; simp only [RV.d, Ow.toD, atI_nat _ h0 hl, h1, rD]
  | _ => cases h
theorem fIx_oI {i : Nat} {ns : List Int} {k e : Int} (h0 : 0 ≤ k) (h1 : ns[k.toNat]? = some e) : fIx (.ref i [] (.ls (oI ns))) (.val (.fz (.int k))) = .ok (.val (.fz (.int e))) := by
  have hl : k < (oI ns).length := by
    have := (List.getElem?_eq_some_iff.mp h1).1
    rw [oI_len]; omega
  unfold fIx
  simp only [RV.d, Ow.toD, ixN, if_pos h0, if_pos hl, oI_get, h1, Option.map_some]
  rfl
/-! what may be compared -/
theorem shaped_int (i : Int) : SeqAt.shaped (.int i) = true := rfl
theorem shaped_none : SeqAt.shaped .none = true := rfl
theorem shaped_bool (b : Bool) : SeqAt.shaped (.bool b) = true := rfl
theorem fEq_int (i j : Int) : fEq (.val (.fz (.int i))) (.val (.fz (.int j))) = .ok (.val (.fz (.bool (decide (i = j))))) := by
  unfold fEq
  simp only [RV.d, Ow.toD, shaped_int, and_self, if_true, rD, PyData.eqv]
  by_cases h : i = j <;> simp [h]
theorem fNe_int (i j : Int) : fNe (.val (.fz (.int i))) (.val (.fz (.int j))) = .ok (.val (.fz (.bool (!decide (i = j))))) := by
  unfold fNe
  simp only [RV.d, Ow.toD, shaped_int, and_self, if_true, rD, PyData.eqv]
  by_cases h : i = j <;> simp [h]
/-- trees of ints, at most n rows deep -/
def flat : Nat → D → Bool
  | _, .int _ => true
  | _, .none => true
  | n + 1, .list ds => ds.all (flat n)
  | n + 1, .tuple ds => ds.all (flat n)
  | _, _ => false
theorem flat_lay : ∀ (n : Nat) (d : D), flat n d = true → d.canLay0 = true ∧ d.depth ≤ n := by
  intro n
  induction n with
  | zero => intro d h; cases d <;> first | exact ⟨rfl, Nat.le_refl _⟩ | cases h
  | succ n ih =>
    have all : ∀ ds : List D, ds.all (flat n) = true → PyData.canLayAll0 ds = true ∧ PyData.depthAll ds ≤ n := by
      intro ds
      induction ds with
      | nil => intro _; exact ⟨rfl, Nat.zero_le _⟩
      | cons d ds ihd =>
        intro h
        simp only [List.all_cons, Bool.and_eq_true] at h
        obtain ⟨a1, a2⟩ := ih d h.1
        obtain ⟨b1, b2⟩ := ihd h.2
        exact ⟨by simp only [PyData.canLayAll0, a1, b1, Bool.and_self], by simp only [PyData.depthAll]; omega⟩
    intro d h
    cases d with
    | int i => exact ⟨rfl, Nat.zero_le _⟩
    | none => exact ⟨rfl, Nat.zero_le _⟩
    | list ds =>
      obtain ⟨a, b⟩ := all ds h
      exact ⟨by simp only [PyData.canLay0, a], by simp only [PyData.depth]; omega⟩
    | tuple ds =>
      obtain ⟨a, b⟩ := all ds h
      exact ⟨by simp only [PyData.canLay0, a], by simp only [PyData.depth]; omega⟩
    | _ => cases h
theorem flat_shaped {n : Nat} {d : D} (h : flat n d = true) (hn : n ≤ 64) : SeqAt.shaped d = true := by
  obtain ⟨a, b⟩ := flat_lay n d h
  unfold SeqAt.shaped
  simp only [a, Bool.true_and, decide_eq_true_eq]
  omega
theorem flat_dI (n : Nat) (ns : List Int) : flat (n + 1) (.list (dI ns)) = true := by
  show (dI ns).all (flat n) = true
  rw [List.all_eq_true]; intro x hx
  obtain ⟨i, _, rfl⟩ := List.mem_map.mp hx
  cases n <;> rfl
/-- a tree is itself -/
theorem fNe_same {n : Nat} {x y : RV} (e : x.d = y.d) (h : flat n y.d = true) (hn : n ≤ 64 := by decide) : fNe x y = .ok (.val (.fz (.bool false))) := by
  unfold fNe
  rw [e]
  have := flat_shaped h hn
  rw [if_pos ⟨this, this⟩, PySem.SeqAt.eqv_refl _ (flat_lay n _ h).1]
  rfl
end VL

set_option Elab.async false
set_option linter.all false
set_option maxRecDepth 100000
set_option maxHeartbeats 2000000
/-! VL14: steps of the plain reading. -/
namespace VL
open PySem
theorem run_ret {b : SC} {n : Nat} {as : List Sl} {ow : Ow} (ρ : Rho) (h : b ρ = .ret ow) (hρ : as.map some ++ List.replicate (n - as.length) none = ρ := by rfl) : runBody b n as = .ok ow := by
  unfold runBody
  rw [hρ, h]
theorem seq_n {a b : SC} {ρ ρ' : Rho} {r : SRes} (h : a ρ = .next ρ') (k : b ρ' = r) : sSeq a b ρ = r := by
  unfold sSeq; rw [h]; exact k
theorem seq_r {a b : SC} {ρ : Rho} {ow : Ow} (h : a ρ = .ret ow) : sSeq a b ρ = .ret ow := by
  unfold sSeq; rw [h]
theorem for_n {tg : List Nat} {it : IC} {b : SC} {vs : List (List Sl)} {ρ ρ' : Rho} (h : it ρ = .ok vs) (k : forL tg b vs ρ = .next ρ') : sFor tg it b ρ = .next ρ' := by
  unfold sFor; rw [h]; exact k
theorem for_r {tg : List Nat} {it : IC} {b : SC} {vs : List (List Sl)} {ρ : Rho} {r : SRes} (h : it ρ = .ok vs) (k : forL tg b vs ρ = r) : sFor tg it b ρ = r := by
  unfold sFor; rw [h]; exact k
theorem set_v {i : Nat} {a : EC} {ρ : Rho} {ow : Ow} (h : a ρ = .ok (.val ow)) : sSet i a ρ = .next (ρ.set i (some (.own ow))) := by
  unfold sSet; rw [h]
theorem ret_v {a : EC} {ρ : Rho} {ow : Ow} (h : a ρ = .ok (.val ow)) : sRet a ρ = .ret ow := by
  unfold sRet; rw [h]
theorem if_t {t : TC} {a b : SC} {ρ : Rho} {r : SRes} (h : t ρ = .ok true) (k : a ρ = r) : sIf t a b ρ = r := by
  unfold sIf; rw [h]; exact k
theorem if_f {t : TC} {a b : SC} {ρ : Rho} {r : SRes} (h : t ρ = .ok false) (k : b ρ = r) : sIf t a b ρ = r := by
  unfold sIf; rw [h]; exact k
theorem frz_n {i : Nat} {a : SC} {ρ : Rho} {r : SRes} (h : a (ρ.set i (frzSl ρ[i]?)) = r) : sFrz i a ρ = r := h
theorem call_ok {φ : Fn} {cs : List EC} {ρ : Rho} {xs : List RV} {ow : Ow} (h : VL.evalAll cs ρ = .ok xs) (k : φ (xs.map RV.arg) = .ok ow) : eCall φ cs ρ = .ok (.val ow) := by
  unfold eCall
  rw [h]
  show (φ (xs.map RV.arg)).bind _ = _
  rw [k]; rfl
theorem comp_v {tg : List Nat} {it : IC} {t : TC} {e : EC} {ρ : Rho} {vs : List (List Sl)} {os : List Ow} (h : it ρ = .ok vs) (hl : vs.length ≤ 16777216) (k : compL tg t e vs (wipeR tg ρ) = .ok os) : eComp tg it t e ρ = .ok (.val (.ls os)) := by
  unfold eComp
  rw [h]
  show (if vs.length ≤ 16777216 then _ else _) = _
  rw [if_pos hl, k]
theorem un_v {f : RV → Res RV} {a : EC} {ρ : Rho} {x : RV} {r : Res RV} (h : a ρ = .ok x) (k : f x = r) : eUn f a ρ = r := by
  unfold eUn; rw [h]; exact k
theorem bin_v {f : RV → RV → Res RV} {a b : EC} {ρ : Rho} {x y : RV} {r : Res RV} (h : a ρ = .ok x) (h' : b ρ = .ok y) (k : f x y = r) : eBin f a b ρ = r := by
  unfold eBin; rw [h]; show (b ρ).bind _ = _; rw [h']; exact k
theorem fIx_oI' {i : Nat} {ns : List Int} {k : Nat} {e : Int} (h1 : ns[k]? = some e) : fIx (.ref i [] (.ls (oI ns))) (.val (.fz (.int k))) = .ok (.val (.fz (.int e))) := fIx_oI (by omega) (by simpa using h1)
theorem fIx_row' {d e : D} {ds : List D} {k : Nat} (h : rowOf d = some ds) (h1 : ds[k]? = some e) : fIx (.val (.fz d)) (.val (.fz (.int k))) = .ok (.val (.fz e)) := fIx_row h (by omega) (by simpa using h1)
/-- whole numbers in a range -/
theorem rangeS_get {lo hi : Int} {k : Nat} {v : List Sl} (h : (rangeS lo hi)[k]? = some v) : v = [slOf (.int (lo + k))] ∧ k < (hi - lo).toNat := by
  unfold rangeS at h
  rw [List.getElem?_map] at h
  by_cases hk : k < (hi - lo).toNat
  · rw [List.getElem?_range hk] at h
    simp at h
    exact ⟨h.symm, hk⟩
  · rw [List.getElem?_eq_none (by simpa using hk)] at h
    cases h
theorem rangeS_len (lo hi : Int) : (rangeS lo hi).length = (hi - lo).toNat := by unfold rangeS; rw [List.length_map, List.length_range]
theorem row_get {ds : List D} {k : Nat} {v : List Sl} (h : ((ds.map slOf).map fun s => [s])[k]? = some v) : ∃ d, ds[k]? = some d ∧ v = [.own (.fz d)] := by
  rw [List.getElem?_map, List.getElem?_map] at h
  cases e : ds[k]? with
  | none => rw [e] at h; cases h
  | some d => rw [e] at h; simp at h; exact ⟨d, rfl, h.symm⟩
theorem enum_get {ds : List D} {k : Nat} {v : List Sl} (h : (enumS 0 (ds.map slOf))[k]? = some v) : ∃ d, ds[k]? = some d ∧ v = [.own (.fz (.int k)), .own (.fz d)] := by
  rw [enumS_get, List.getElem?_map] at h
  cases e : ds[k]? with
  | none => rw [e] at h; cases h
  | some d =>
    rw [e] at h; simp at h
    refine ⟨d, rfl, ?_⟩
    rw [← h]; rfl
/-- ascending whole numbers between two bounds -/
def Asc (lo hi : Int) (ns : List Int) : Prop := ns.Pairwise (· < ·) ∧ ∀ x ∈ ns, lo ≤ x ∧ x ≤ hi
theorem Asc.step {lo hi : Int} {ns : List Int} (h : Asc lo hi ns) {k : Nat} {x y : Int} (hk : 0 < k) (hx : ns[k - 1]? = some x) (hy : ns[k]? = some y) : x < y := by
  obtain ⟨h1, e1⟩ := List.getElem?_eq_some_iff.mp hx
  obtain ⟨h2, e2⟩ := List.getElem?_eq_some_iff.mp hy
  have := List.pairwise_iff_getElem.mp h.1 (k - 1) k h1 h2 (by omega)
  rw [e1, e2] at this
  exact this
theorem Asc.nodup {lo hi : Int} {ns : List Int} (h : Asc lo hi ns) : ns.Nodup := h.1.imp fun h e => by omega
theorem Asc.nil (lo hi : Int) : Asc lo hi [] := ⟨.nil, fun _ h => by cases h⟩
def rgI (a b : Int) : List Int := (List.range (b - a).toNat).map fun (k : Nat) => a + k
theorem rgI_len (a b : Int) : (rgI a b).length = (b - a).toNat := by unfold rgI; rw [List.length_map, List.length_range]
theorem rgI_get {a b : Int} {k : Nat} {x : Int} (h : (rgI a b)[k]? = some x) : x = a + k ∧ k < (b - a).toNat := by
  unfold rgI at h
  rw [List.getElem?_map] at h
  by_cases hk : k < (b - a).toNat
  · rw [List.getElem?_range hk] at h
    simp at h
    exact ⟨h.symm, hk⟩
  · rw [List.getElem?_eq_none (by simpa using hk)] at h
    cases h
theorem mem_rgI {a b x : Int} : x ∈ rgI a b ↔ a ≤ x ∧ x < b := by
  unfold rgI
  rw [List.mem_map]
  constructor
  · rintro ⟨k, hk, rfl⟩
    have := List.mem_range.mp hk
    omega
  · intro h
    exact ⟨(x - a).toNat, List.mem_range.mpr (by omega), by omega⟩
theorem rgD_dI (a b : Int) : rgD a b = dI (rgI a b) := by unfold rgD dI rgI; rw [List.map_map]; rfl
theorem lrng1_s {n : Int} (h0 : -1000 ≤ n) (h : n ≤ 1000) : fLRng1 (.val (.fz (.int n))) = .ok (.val (.ls (oI (rgI 0 n)))) := by
  have hb : rgB 0 n = true := by simp only [rgB, Bool.and_eq_true, decide_eq_true_eq]; omega
  show (if rgB 0 n = true then _ else _) = _
  rw [if_pos hb, rgD_dI, oI_fz]
theorem lrng2_s {m n : Int} (h2 : -1000 ≤ m) (h3 : m ≤ 1000) (h0 : -1000 ≤ n) (h : n ≤ 1000) : fLRng2 (.val (.fz (.int m))) (.val (.fz (.int n))) = .ok (.val (.ls (oI (rgI m n)))) := by
  have hb : rgB m n = true := by simp only [rgB, Bool.and_eq_true, decide_eq_true_eq]; omega
  show (if rgB m n = true then _ else _) = _
  rw [if_pos hb, rgD_dI, oI_fz]
theorem rng1_s {a : EC} {ρ : Rho} {n : Int} (h : a ρ = .ok (.val (.fz (.int n)))) (h0 : -1000 ≤ n) (h1 : n ≤ 1000) : iRng1 a ρ = .ok (rangeS 0 n) := by
  have hb : rngOk n = true := by simp only [rngOk, Bool.and_eq_true, decide_eq_true_eq]; omega
  unfold iRng1
  rw [h]
  show (if rngOk n = true then _ else _) = _
  rw [if_pos hb]
theorem row_s {a : EC} {ρ : Rho} {d : D} {ds : List D} (h : a ρ = .ok (.val (.fz d))) (e : rowOf d = some ds) : iRow a ρ = .ok ((ds.map slOf).map fun s => [s]) := by
  unfold iRow
  rw [h]
  show (match (RV.val (.fz d)).iter with | some ss => Res.ok (ss.map fun s => [s]) | none => .stuck) = _
  have : (RV.val (.fz d)).iter = some (ds.map slOf) := by
    show (match rowOf d with | some ds => some (ds.map slOf) | none => none) = _
    rw [e]
  rw [this]
theorem enum_s {a : EC} {ρ : Rho} {d : D} {ds : List D} (h : a ρ = .ok (.val (.fz d))) (e : rowOf d = some ds) : iEnum a ρ = .ok (enumS 0 (ds.map slOf)) := by
  unfold iEnum
  rw [h]
  show (match (RV.val (.fz d)).iter with | some ss => Res.ok (enumS 0 ss) | none => .stuck) = _
  have : (RV.val (.fz d)).iter = some (ds.map slOf) := by
    show (match rowOf d with | some ds => some (ds.map slOf) | none => none) = _
    rw [e]
  rw [this]
theorem list_s {d : D} {ds : List D} (h : rowOf d = some ds) : fList (.val (.fz d)) = .ok (.val (.ls (ds.map Ow.fz))) := by
  cases d with
  | list _ => cases h; rfl
  | tuple _ => cases h; rfl
  | _ => cases h
theorem len_s {d : D} {ds : List D} (h : rowOf d = some ds) : fLen (.val (.fz d)) = .ok (.val (.fz (.int ds.length))) := by
  cases d with
  | list _ => cases h; rfl
  | tuple _ => cases h; rfl
  | _ => cases h
theorem asc_rgI (a b : Int) : Asc a (b - 1) (rgI a b) := by
  refine ⟨?_, fun x hx => ?_⟩
  · unfold rgI
    rw [List.pairwise_map]
    exact List.pairwise_lt_range.imp fun h => by omega
  · have := mem_rgI.mp hx
    omega
theorem asc_filter {lo hi : Int} {ns : List Int} (h : Asc lo hi ns) (p : Int → Bool) : Asc lo hi (ns.filter p) := ⟨h.1.filter p, fun x hx => h.2 x (List.mem_filter.mp hx).1⟩
theorem len_le_of_nodup {α : Type} [DecidableEq α] : ∀ {l m : List α}, l.Nodup → (∀ x ∈ l, x ∈ m) → l.length ≤ m.length
  | [], _, _, _ => Nat.zero_le _
  | x :: l, m, h, k => by
    have h' := List.nodup_cons.mp h
    have hx := k x List.mem_cons_self
    have := len_le_of_nodup (l := l) (m := m.erase x) h'.2 fun y hy => (List.mem_erase_of_ne (fun e => h'.1 (by rw [← e]; exact hy))).mpr (k y (List.mem_cons_of_mem _ hy))
    rw [List.length_erase_of_mem hx] at this
    have : 0 < m.length := List.length_pos_of_mem hx
    simp only [List.length_cons]; omega
theorem len_le_days {n : Nat} {r : List Int} (h : r.Nodup) (k : ∀ x ∈ r, 1 ≤ x ∧ x ≤ n) : r.length ≤ n := by
  have := len_le_of_nodup (m := (List.range n).map fun (i : Nat) => (i : Int) + 1) h fun x hx => by
    have := k x hx
    exact List.mem_map.mpr ⟨(x - 1).toNat, List.mem_range.mpr (by omega), by omega⟩
  simpa using this
end VL

set_option Elab.async false
set_option linter.all false
set_option maxRecDepth 100000
set_option maxHeartbeats 2000000
/-! VL15: more steps of the plain reading. -/
namespace VL
open PySem
theorem compL_pt {tg : List Nat} {t : TC} {e : EC} {ρ : Rho} : ∀ (vs : List (List Sl)) (os : List Ow), vs.length = os.length → (∀ (k : Nat) v o, vs[k]? = some v → os[k]? = some o → t (setAll tg v ρ) = .ok true ∧ e (setAll tg v ρ) = .ok (.val o)) → compL tg t e vs ρ = .ok os
  | [], [], _, _ => rfl
  | [], _ :: _, h, _ => by simp at h
  | _ :: _, [], h, _ => by simp at h
  | v :: vs, o :: os, h, k => by
    obtain ⟨h1, h2⟩ := k 0 v o rfl rfl
    have ih := compL_pt vs os (by simpa using h) fun j w p hw hp => k (j + 1) w p (by simpa using hw) (by simpa using hp)
    unfold compL
    rw [h1]
    show (match e (setAll tg v ρ) with | .ok x => _ | _ => _) = _
    rw [h2]
    show (compL tg t e vs ρ).bind _ = _
    rw [ih]
    rfl
/-- .. some left out -/
theorem compL_fpt {tg : List Nat} {t : TC} {e : EC} {ρ : Rho} : ∀ (vs : List (List Sl)) (xs : List (Bool × Ow)), vs.length = xs.length → (∀ (k : Nat) v b o, vs[k]? = some v → xs[k]? = some (b, o) → t (setAll tg v ρ) = .ok b ∧ (b = true → e (setAll tg v ρ) = .ok (.val o))) → compL tg t e vs ρ = .ok ((xs.filter (·.1)).map (·.2))
  | [], [], _, _ => rfl
  | [], _ :: _, h, _ => by simp at h
  | _ :: _, [], h, _ => by simp at h
  | v :: vs, (b, o) :: xs, h, k => by
    obtain ⟨h1, h2⟩ := k 0 v b o rfl rfl
    have ih := compL_fpt vs xs (by simpa using h) fun j w b p hw hp => k (j + 1) w b p (by simpa using hw) (by simpa using hp)
    unfold compL
    rw [h1]
    cases b with
    | false => exact ih
    | true =>
      show (match e (setAll tg v ρ) with | .ok x => _ | _ => _) = _
      rw [h2 rfl]
      show (compL tg t e vs ρ).bind _ = _
      rw [ih]
      rfl
theorem parts_s {d : D} {ds : List D} (h : rowOf d = some ds) : (RV.val (.fz d)).parts = some (ds.map slOf) := by
  cases d with
  | list _ => cases h; rfl
  | tuple _ => cases h; rfl
  | _ => cases h
theorem unp_s {tg : List Nat} {a : EC} {ρ : Rho} {d : D} {ds : List D} (h : a ρ = .ok (.val (.fz d))) (e : rowOf d = some ds) (hl : ds.length = tg.length) : sUnp tg a ρ = .next (setAll tg (ds.map slOf) ρ) := by
  unfold sUnp
  rw [h]
  show (match (RV.val (.fz d)).parts with | some ss => _ | none => _) = _
  rw [parts_s e]
  show (if (ds.map slOf).length = tg.length then _ else _) = _
  rw [if_pos (by rw [List.length_map]; exact hl)]
/-- rows of rows -/
def Rows (ds : List D) (S : List (List D)) : Prop := ds.map rowOf = S.map some
theorem Rows.len {ds : List D} {S : List (List D)} (h : Rows ds S) : ds.length = S.length := by have := congrArg List.length h; simpa using this
theorem Rows.get {ds : List D} {S : List (List D)} (h : Rows ds S) {k : Nat} {x : D} (e : ds[k]? = some x) : ∃ s, S[k]? = some s ∧ rowOf x = some s := by
  have := congrArg (fun l => l[k]?) h
  simp only [List.getElem?_map, e, Option.map_some] at this
  cases es : S[k]? with
  | none => rw [es] at this; cases this
  | some s => rw [es] at this; exact ⟨s, rfl, by simpa using this⟩
def lsO (S : List (List D)) : Ow := .ls (S.map fun s => .ls (s.map Ow.fz))
theorem toDs_cons (x : Ow) (xs : List Ow) : toDs (x :: xs) = x.toD :: toDs xs := rfl
theorem toDs_is : ∀ xs : List Ow, toDs xs = xs.map Ow.toD
  | [] => rfl
  | x :: xs => by rw [toDs_cons, toDs_is xs]; rfl
theorem lsO_toD (S : List (List D)) : (lsO S).toD = .list (S.map .list) := by
  show PyData.list (toDs _) = _
  rw [toDs_is, List.map_map]
  congr 1
  refine List.map_congr_left fun s _ => ?_
  show PyData.list (toDs (s.map Ow.fz)) = _
  rw [toDs_fz]
theorem app_s {i : Nat} {o a : EC} {ρ : Rho} {xs : List Ow} {ow : Ow} (h : o ρ = .ok (.ref i [] (.ls xs))) (h' : a ρ = .ok (.val ow)) (hr : ρ[i]? = some (some (.own (.ls xs)))) (hl : xs.length < 16777216) : sApp o a ρ = .next (ρ.set i (some (.own (.ls (xs ++ [ow]))))) := by
  unfold sApp
  rw [h]
  show (match a ρ with | .ok (.val ow) => _ | .err x => _ | _ => _) = _
  rw [h']
  show (if xs.length < 16777216 then _ else _) = _
  rw [if_pos hl]
  unfold putAt
  rw [hr]
  rfl
theorem sorted_ls {ns : List Int} {x : RV} (h : x.d = .list (dI ns)) : fSorted x = .ok (.val (.ls (oI (sortI ns)))) := by
  unfold fSorted
  rw [h]
  show (match intsOf (dI ns) with | some ns => _ | none => _) = _
  rw [intsOf_dI]
  rfl
theorem sum_ls {ns : List Int} {x : RV} (h : x.d = .list (dI ns)) : fSum x = .ok (.val (.fz (.int ns.sum))) := by
  unfold fSum
  rw [h]
  show (match intsOf (dI ns) with | some ns => _ | none => _) = _
  rw [intsOf_dI]
  rfl
theorem oI_toD (ns : List Int) : (Ow.ls (oI ns)).toD = .list (dI ns) := by show PyData.list (toDs (oI ns)) = _; rw [toDs_oI]
theorem len_ls {x : RV} {xs : List D} (h : x.d = .list xs) : fLen x = .ok (.val (.fz (.int xs.length))) := by
  unfold fLen
  rw [h]
  rfl
theorem len_v (os : List Ow) : fLen (.val (.ls os)) = .ok (.val (.fz (.int os.length))) := by
  rw [len_ls (xs := toDs os) rfl, toDs_is, List.length_map]
theorem take_succ {α : Type} {xs : List α} {k : Nat} {x : α} (h : xs[k]? = some x) : xs.take (k + 1) = xs.take k ++ [x] := by
  obtain ⟨q1, q2⟩ := List.getElem?_eq_some_iff.mp h
  rw [List.take_succ_eq_append_getElem q1, q2]
end VL

set_option Elab.async false
set_option linter.all false
set_option maxRecDepth 100000
set_option maxHeartbeats 2000000
/-! VL16: comprehensions over ranges, slices of rows of ints. -/
namespace VL
open PySem
theorem wipe1 (i : Nat) (ρ : Rho) : wipeR [i] ρ = ρ.set i none := rfl
theorem comp_rng {i n : Nat} {a : EC} {t : TC} {e : EC} {ρ : Rho} (p : Nat → Bool) (f : Nat → Int) (ha : a ρ = .ok (.val (.fz (.int n)))) (hn : n ≤ 1000)
    (h : ∀ k < n, t ((ρ.set i none).set i (some (.own (.fz (.int k))))) = .ok (p k) ∧ (p k = true → e ((ρ.set i none).set i (some (.own (.fz (.int k))))) = .ok (.val (.fz (.int (f k)))))) :
    eComp [i] (iRng1 a) t e ρ = .ok (.val (.ls (oI (((List.range n).filter p).map f)))) := by
  refine (comp_v (rng1_s ha (by omega) (by omega)) (by rw [rangeS_len]; omega) (compL_fpt _ ((List.range n).map fun k => (p k, .fz (.int (f k)))) (by rw [rangeS_len]; simp) ?_)).trans ?_
  · intro k v b o hv ho
    obtain ⟨rfl, hk⟩ := rangeS_get hv
    have hk' : k < n := by omega
    rw [List.getElem?_map, List.getElem?_range hk'] at ho
    cases ho
    have := h k hk'
    show t (((ρ.set i none)).set i (some (.own (.fz (.int (0 + (k : Nat))))))) = _ ∧ (_ → e (((ρ.set i none)).set i (some (.own (.fz (.int (0 + (k : Nat))))))) = _)
    rw [Int.zero_add]
    exact this
  · rw [List.filter_map, List.map_map]
    unfold oI
    rw [List.map_map]
    rfl
theorem asc_frange (c : Int) (n : Nat) (p : Nat → Bool) : Asc c (n - 1 + c) (((List.range n).filter p).map fun (k : Nat) => (k : Int) + c) := by
  refine ⟨?_, fun x hx => ?_⟩
  · rw [List.pairwise_map]
    exact (List.pairwise_lt_range.filter p).imp fun h => by omega
  · obtain ⟨k, hk, rfl⟩ := List.mem_map.mp hx
    have := List.mem_range.mp (List.mem_filter.mp hk).1
    omega
theorem cutL_oI (ns : List Int) (lo hi : Option Int) : cutL (oI ns) lo hi = oI (cutL ns lo hi) := by
  unfold cutL
  rw [oI_len]
  unfold oI
  rw [List.map_take, List.map_drop]
theorem cut_len {ns : List Int} {lo hi : Int} (h0 : 0 ≤ lo) (h1 : lo ≤ hi) (h2 : hi ≤ ns.length) : (cutL ns (some lo) (some hi)).length = (hi - lo).toNat := by
  unfold cutL HT.sIx
  simp only [List.length_take, List.length_drop]
  rw [if_neg (by omega), if_neg (by omega)]
  omega
theorem slice_s {a lo hi : EC} {ρ : Rho} {i : Nat} {ns : List Int} {l h : Int} (ha : a ρ = .ok (.ref i [] (.ls (oI ns)))) (hl : lo ρ = .ok (.val (.fz (.int l)))) (hh : hi ρ = .ok (.val (.fz (.int h)))) : eSlice a (some lo) (some hi) ρ = .ok (.val (.ls (oI (cutL ns (some l) (some h))))) := by
  unfold eSlice
  rw [ha]
  show ((lo ρ).bind _).bind _ = _
  rw [hl]
  show ((hi ρ).bind _).bind _ = _
  rw [hh]
  show (match (RV.ref i [] (.ls (oI ns))).items with | some xs => _ | none => _) = _
  have : (RV.ref i [] (.ls (oI ns))).items = some (oI ns) := by
    show (if (oI ns).all isFz = true then some (oI ns) else none) = _
    rw [if_pos (oI_all ns)]
  rw [this, ← cutL_oI]
theorem row_ls {a : EC} {ρ : Rho} {ds : List D} (h : a ρ = .ok (.val (.ls (ds.map Ow.fz)))) : iRow a ρ = .ok ((ds.map slOf).map fun s => [s]) := by
  unfold iRow
  rw [h]
  show (match (RV.val (.ls (ds.map Ow.fz))).iter with | some ss => Res.ok (ss.map fun s => [s]) | none => .stuck) = _
  have : (RV.val (.ls (ds.map Ow.fz))).iter = some (ds.map slOf) := by
    show (match rowOf (.list (toDs (ds.map Ow.fz))) with | some ds => some (ds.map slOf) | none => none) = _
    rw [toDs_fz]
    rfl
  rw [this]
theorem cat_s {ds : List D} {os : List Ow} (h : ds.length + os.length ≤ 16777216) : fAdd (.val (.fz (.list ds))) (.val (.ls os)) = .ok (.val (.ls (ds.map Ow.fz ++ os))) := by
  show (if (ds.map Ow.fz).length + os.length ≤ 16777216 then _ else _) = _
  rw [if_pos (by rw [List.length_map]; exact h)]
theorem and_t {a b : TC} {ρ : Rho} {r : Res Bool} (h : a ρ = .ok true) (k : b ρ = r) : VL.tAnd a b ρ = r := by
  unfold VL.tAnd
  rw [h]; exact k
theorem and_f {a b : TC} {ρ : Rho} (h : a ρ = .ok false) : VL.tAnd a b ρ = .ok false := by
  unfold VL.tAnd
  rw [h]; rfl
theorem or_f {a b : TC} {ρ : Rho} {r : Res Bool} (h : a ρ = .ok false) (k : b ρ = r) : VL.tOr a b ρ = r := by
  unfold VL.tOr
  rw [h]; exact k
theorem ev_cons {c : EC} {cs : List EC} {ρ : Rho} {x : RV} {xs : List RV} (h : c ρ = .ok x) (h' : VL.evalAll cs ρ = .ok xs) : VL.evalAll (c :: cs) ρ = .ok (x :: xs) := by
  unfold VL.evalAll
  rw [h]
  show (VL.evalAll cs ρ).bind _ = _
  rw [h']; rfl
theorem ix_val {ns : List Int} {k : Nat} {e : Int} (h1 : ns[k]? = some e) : fIx (.val (.ls (oI ns))) (.val (.fz (.int k))) = .ok (.val (.fz (.int e))) := by
  have hl : (k : Int) < (oI ns).length := by
    have := (List.getElem?_eq_some_iff.mp h1).1
    rw [oI_len]; omega
  unfold fIx
  simp only [RV.d, Ow.toD, atI_nat _ (Int.natCast_nonneg k) hl, Int.toNat_natCast, oI_get, h1, Option.map_some]
theorem mul_r (i j : Int) (h : -(2 ^ 64) < j ∧ j < 2 ^ 64) : fMul (.val (.fz (.int i))) (.val (.fz (.int j))) = .ok (.val (.fz (.int (i * j)))) := by
  have : mulOk i j = true := by
    simp only [mulOk, Bool.or_eq_true, Bool.and_eq_true, decide_eq_true_eq]
    exact .inr h
  show (if mulOk i j = true then _ else _) = _
  rw [if_pos this]; rfl
theorem mul_l (i j : Int) (h : -(2 ^ 64) < i ∧ i < 2 ^ 64) : fMul (.val (.fz (.int i))) (.val (.fz (.int j))) = .ok (.val (.fz (.int (i * j)))) := by
  have : mulOk i j = true := by
    simp only [mulOk, Bool.or_eq_true, Bool.and_eq_true, decide_eq_true_eq]
    exact .inl h
  show (if mulOk i j = true then _ else _) = _
  rw [if_pos this]; rfl
theorem mod_s (i j : Int) (h : 0 < j) : fMod (.val (.fz (.int i))) (.val (.fz (.int j))) = .ok (.val (.fz (.int (i % j)))) := by
  show (if 0 < j then _ else _) = _
  rw [if_pos h]; rfl
theorem div_s (i j : Int) (h : 0 < j ∧ j < 1073741824) : fDiv (.val (.fz (.int i))) (.val (.fz (.int j))) = .ok (.val (.fz (.int (i / j)))) := by
  show (if 0 < j ∧ j < 1073741824 then _ else _) = _
  rw [if_pos h]; rfl
theorem add_s (i j : Int) : fAdd (.val (.fz (.int i))) (.val (.fz (.int j))) = .ok (.val (.fz (.int (i + j)))) := rfl
theorem sub_s (i j : Int) : fSub (.val (.fz (.int i))) (.val (.fz (.int j))) = .ok (.val (.fz (.int (i - j)))) := rfl
theorem int_s (i : Int) : fInt (.val (.fz (.int i))) = .ok (.val (.fz (.int i))) := rfl
theorem lt_s (i j : Int) : fLt (.val (.fz (.int i))) (.val (.fz (.int j))) = .ok (.val (.fz (.bool (decide (i < j))))) := rfl
theorem le_s (i j : Int) : fLe (.val (.fz (.int i))) (.val (.fz (.int j))) = .ok (.val (.fz (.bool (decide (i ≤ j))))) := rfl
theorem gt_s (i j : Int) : fGt (.val (.fz (.int i))) (.val (.fz (.int j))) = .ok (.val (.fz (.bool (decide (j < i))))) := rfl
theorem ge_s (i j : Int) : fGe (.val (.fz (.int i))) (.val (.fz (.int j))) = .ok (.val (.fz (.bool (decide (j ≤ i))))) := rfl
end VL

set_option Elab.async false
set_option linter.all false
set_option maxRecDepth 100000
set_option maxHeartbeats 2000000
/-! VL17: an expression's statement; min, max of two; a row of a def's own things handed out at its end. -/
namespace VL
open PySem PySem.Spec PyProof.Rows L2
def sEx (a : EC) : SC := fun ρ => match a ρ with
  | .ok _ => .next ρ
  | .err x => .err x ρ
  | .stuck => .stuck
def fMin (x y : RV) : Res RV := match x.d, y.d with
  | .int i, .int j => rD (.int (if j < i then j else i))
  | _, _ => .stuck
def fMax (x y : RV) : Res RV := match x.d, y.d with
  | .int i, .int j => rD (.int (if j > i then j else i))
  | _, _ => .stuck
theorem bt_min : bootBuiltins "min" = some (.builtin "min") := by decide +kernel
theorem bt_max : bootBuiltins "max" = some (.builtin "max") := by decide +kernel
section
variable {X : Cx} {a b e : Expr} {ca cb ce : EC} {pos p : Pos}
theorem sok_ex (h : EOk X e ce) (hs : swapsWith e none pos.line X.env = pure false := by rfl) : SOk X (.Expr e pos) (sEx ce) := fun W tk => ps_mono (ps_expr (h W tk) hs) fun D σ H ⟨H0, F0, F, ρ, s, h⟩ => by
  show rdE X.K X.mg ce W σ H fun _ H1 => D.nx σ H1
  unfold sEx at h
  cases e1 : ce ρ with
  | stuck => rw [e1] at h; exact h.elim
  | err x => rw [e1] at h; exact rdE_err s e1 fun cls d H' F' g xo => h cls d σ H' F' (s.step g) xo
  | ok rv => rw [e1] at h; exact rdE_ok s e1 fun v H1 F1 A g o n => h σ H1 F1 (s.step g)
def rMin2 : R2 := fun x y H Q => ∃ i j : Int, [x, y] = [.int i, .int j] ∧ Q (.int (if j < i then j else i)) H
def rMax2 : R2 := fun x y H Q => ∃ i j : Int, [x, y] = [.int i, .int j] ∧ Q (.int (if j > i then j else i)) H
theorem op2_min : Op2 X rMin2 fMin := op2_i (fun i j => .int (if j < i then j else i)) (fun _ _ => true) (fun _ _ => rfl) (fun x y => by unfold fMin; split <;> simp_all) fun i j H Q _ q => ⟨i, j, rfl, q⟩
theorem op2_max : Op2 X rMax2 fMax := op2_i (fun i j => .int (if j > i then j else i)) (fun _ _ => true) (fun _ _ => rfl) (fun x y => by unfold fMax; split <;> simp_all) fun i j H Q _ q => ⟨i, j, rfl, q⟩
theorem eok_min (hm : X.mg "min" = none) (ha : EOk X a ca) (hb : EOk X b cb) (hc : X.calm = true := by rfl) (hg : Gl X "min" := by rfl) (he : starEach [a, b] X.env = (false, eval a X.env) :: starEach [b] X.env := by rfl) (he2 : starEach [b] X.env = (false, eval b X.env) :: starEach [] X.env := by rfl)
    (hpl : (backTo pos (starEach [b] X.env)).any (·.1) = false := by rfl) : EOk X (.Call (.Name "min" p) [a, b] [] pos) (eBin fMin ca cb) :=
  eok_bin (R := rMin2) (fun ta tb h h' => pe_mono (pe_callB (call_min2 hc) hg hm bt_min (pa_cons h (pa_cons h' pa_nil he2) he) (by decide) (by decide) he hpl) fun _ _ _ q => q) op2_min ha hb
theorem eok_max (hm : X.mg "max" = none) (ha : EOk X a ca) (hb : EOk X b cb) (hc : X.calm = true := by rfl) (hg : Gl X "max" := by rfl) (he : starEach [a, b] X.env = (false, eval a X.env) :: starEach [b] X.env := by rfl) (he2 : starEach [b] X.env = (false, eval b X.env) :: starEach [] X.env := by rfl)
    (hpl : (backTo pos (starEach [b] X.env)).any (·.1) = false := by rfl) : EOk X (.Call (.Name "max" p) [a, b] [] pos) (eBin fMax ca cb) :=
  eok_bin (R := rMax2) (fun ta tb h h' => pe_mono (pe_callB (call_max2 hc) hg hm bt_max (pa_cons h (pa_cons h' pa_nil he2) he) (by decide) (by decide) he hpl) fun _ _ _ q => q) op2_max ha hb
end
/-! ### handed out -/
inductive Mv where
  | ev (c : EC)
  | mv (i : Nat)
def evalM : List Mv → Rho → Res (List Ow)
  | [], _ => .ok []
  | .ev c :: r, ρ => (c ρ).bind fun x => match x.ow with
    | some o => (evalM r ρ).bind fun os => .ok (o :: os)
    | none => .stuck
  | .mv i :: r, ρ => match ρ[i]? with
    | some (some (.own ow)) => (evalM r (ρ.set i none)).bind fun os => .ok (ow :: os)
    | _ => .stuck
def sRetM (cs : List Mv) : SC := fun ρ => match evalM cs ρ with
  | .ok os => if os.length ≤ 1000 then .ret (mkTup os) else .stuck
  | .err x => .err x ρ
  | .stuck => .stuck
section
variable {K : Frag} {mg : Str → Option Value} {W : WX} {σ : S} {H H0 F0 F : Hp} {ρ : Rho} {A : Nat → List Addr}
theorem SRA.drop (s : SRA K H0 F0 A σ H F ρ) (i : Nat) : SRA K H0 F0 (fun j => if j = i then [] else A j) σ H F (ρ.set i none) := by
  refine ⟨by simp [s.len], s.gr, fun j => ?_, fun j k hjk a ha hb => ?_⟩
  · by_cases e : j = i
    · subst e
      simp only [if_true]
      by_cases hr : j < ρ.length
      · rw [List.getElem?_set_self hr]; rfl
      · rw [List.getElem?_eq_none (by simp; omega)]; rfl
    · simp only [e, if_false, List.getElem?_set_ne (Ne.symm e)]
      exact s.sl j
  · by_cases e1 : j = i
    · simp [e1] at ha
    · by_cases e2 : k = i
      · simp [e2] at hb
      · simp only [e1, if_false] at ha
        simp only [e2, if_false] at hb
        exact s.ap j k hjk a ha hb
def rdM (K : Frag) (mg : Str → Option Value) (cs : List Mv) (W : WX) : TA := fun σ H Q => ∃ (H0 F0 F : Hp) (ρ : Rho) (A : Nat → List Addr), SRA K H0 F0 A σ H F ρ ∧ match evalM cs ρ with
  | .ok os => ∀ vs H' F' B, Gr H F H' F' → ORs K H' F' vs os B → (∀ a ∈ B, H a = none ∨ ∃ j, a ∈ A j) → Q vs H'
  | .err x => ∀ cls d H' F', Gr H F H' F' → XOk K mg F' H' cls d x → W cls d σ H'
  | .stuck => False
end
section
variable {X : Cx} {e : Expr} {es : List Expr} {cs : List Mv} {c : EC} {pos : Pos}
def MOk (X : Cx) (es : List Expr) (cs : List Mv) : Prop := ∀ W, Takes X W → PA X es (rdM X.K X.mg cs W)
theorem mok_nil : MOk X [] [] := fun W tk => pa_mono pa_nil fun σ H Q ⟨H0, F0, F, ρ, A, s, h⟩ => h [] H F [] (Gr.refl s.gr.fh') .nil fun _ z => by cases z
theorem mok_ev (he : EOk X e c) (hr : MOk X es cs) (hs : starEach (e :: es) X.env = (false, eval e X.env) :: starEach es X.env := by rfl) : MOk X (e :: es) (.ev c :: cs) := fun W tk =>
  pa_mono (pa_cons (he W tk) (hr W tk) hs) fun σ H Q ⟨H0, F0, F, ρ, A, s, h⟩ => by
    show rdE X.K X.mg c W σ H fun x H1 => rdM X.K X.mg cs W σ H1 fun xs H2 => Q (x :: xs) H2
    unfold evalM at h
    cases e1 : c ρ with
    | stuck => rw [e1] at h; exact h.elim
    | err x => rw [e1] at h; exact rdE_err s.sr e1 h
    | ok rx =>
      rw [e1] at h
      simp only [Res.bind] at h
      refine rdE_ok s.sr e1 fun x H1 F1 A1 g1 o1 n1 => ?_
      cases rx with
      | ref _ _ _ => exact h.elim
      | bor _ => exact h.elim
      | val ow =>
        simp only [RV.ow] at h
        refine ⟨H0, F0, F1, ρ, A, s.step g1, ?_⟩
        cases e2 : evalM cs ρ with
        | stuck => rw [e2] at h; exact h.elim
        | err z => rw [e2] at h; exact fun cls d H' F' g => h cls d H' F' (g1.trans g)
        | ok os =>
          rw [e2] at h
          simp only at h
          have o1' : OR X.K H1 F1 x ow A1 := o1
          intro vs H2 F2 B g2 o2 n2
          refine h (x :: vs) H2 F2 (A1 ++ B) (g1.trans g2) (.cons (o1'.gr g2) o2 fun a ha hb => ?_) fun a ha => ?_
          · rcases n2 a hb with q | ⟨j, q⟩
            · exact (o1'.there a ha).1 q
            · exact ((s.sl j).there a q).1 (n1 a ha)
          · rcases List.mem_append.mp ha with z | z
            · exact .inl (n1 a z)
            · rcases n2 a z with q | q
              · exact .inl (g1.hh.none q)
              · exact .inr q
theorem mok_mv (i : Nat) {x : Str} (hr : MOk X es cs) (hN : X.N[i]? = some x := by rfl) (hv : Vis X.env.scope x := by first | exact Or.inl rfl | exact Or.inr (Or.inl rfl) | exact Or.inr (Or.inr rfl)) (hd : (x == ("__debug__" : Str)) = false := by decide)
    (hcd : (x == ("__classdict__" : Str)) = false := by decide) (hs : starEach (.Name x pos :: es) X.env = (false, eval (.Name x pos) X.env) :: starEach es X.env := by rfl) : MOk X (.Name x pos :: es) (.mv i :: cs) := fun W tk =>
  pa_mono (pa_cons (pe_var hN hv hd hcd) (hr W tk) hs) fun σ H Q ⟨H0, F0, F, ρ, A, s, h⟩ => by
    unfold evalM at h
    have hi := s.sl i
    cases e : ρ[i]? with
    | none => rw [e] at h; exact h.elim
    | some o =>
      cases o with
      | none => rw [e] at h; exact h.elim
      | some sl =>
        rw [e] at h hi
        cases sl with
        | bor d => exact h.elim
        | own ow =>
          obtain ⟨v, e1, o1, n1⟩ := hi
          refine ⟨v, e1, H0, F0, F, ρ.set i none, _, s.drop i, ?_⟩
          simp only at h
          cases e2 : evalM cs (ρ.set i none) with
          | stuck => rw [e2] at h; exact h.elim
          | err z => rw [e2] at h; exact h
          | ok os =>
            rw [e2] at h
            simp only [Res.bind] at h
            intro vs H2 F2 B g2 o2 n2
            refine h (v :: vs) H2 F2 (A i ++ B) g2 (.cons (o1.gr g2) o2 fun a ha hb => ?_) fun a ha => ?_
            · rcases n2 a hb with q | ⟨j, q⟩
              · exact (o1.there a ha).1 q
              · by_cases ej : j = i
                · simp [ej] at q
                · simp only [ej, if_false] at q
                  exact s.ap i j (Ne.symm ej) a ha q
            · rcases List.mem_append.mp ha with z | z
              · exact .inr ⟨i, z⟩
              · rcases n2 a z with q | ⟨j, q⟩
                · exact .inl q
                · by_cases ej : j = i
                  · simp [ej] at q
                  · simp only [ej, if_false] at q
                    exact .inr ⟨j, q⟩
theorem sok_retM {x1 : Nat} {p2 : Pos} (h : MOk X es cs) : SOk X (.Return (some (.Tuple es x1 p2)) pos) (sRetM cs) := fun W tk => ps_mono (ps_ret (pe_tup (h W tk))) fun D σ H ⟨H0, F0, F, ρ, s, h⟩ => by
  obtain ⟨A, sa⟩ := s.sra
  show rdM X.K X.mg cs W σ H fun xs H1 => xs.length ≤ sizeLine ∧ ∀ p, H1 p = none → D.rt (.ref p) (upd H1 p (.tup xs))
  refine ⟨H0, F0, F, ρ, A, sa, ?_⟩
  unfold sRetM at h
  cases e1 : evalM cs ρ with
  | stuck => rw [e1] at h; exact h.elim
  | err x => rw [e1] at h; exact fun cls d H' F' g xo => h cls d σ H' F' (s.step g) xo
  | ok os =>
    rw [e1] at h
    simp only at h
    intro vs H1 F1 B g1 o1 n1
    by_cases hc : os.length ≤ 1000
    · simp only [hc, if_true] at h
      refine ⟨by rw [o1.length, sizeLine_eq]; omega, fun p hp => ?_⟩
      obtain ⟨F', C, g, o, n⟩ := fin_tup (s.step g1) o1 hp
      refine h (.ref p) _ F' C (s.gr.trans (g1.trans g)) o fun c hc => ?_
      rcases n c hc with rfl | z
      · exact s.gr.hh.none (g1.hh.none hp)
      · rcases n1 c z with q | ⟨j, q⟩
        · exact s.gr.hh.none q
        · exact ((sa.sl j).there c q).2.2
    · simp only [hc] at h
      exact h.elim
end
end VL

set_option Elab.async false
set_option linter.all false
set_option maxRecDepth 100000
set_option maxHeartbeats 2000000
/-! VL18: more steps of the plain reading. -/
namespace VL
open PySem
/-- a row of ints, in any of its forms -/
structure IsI (x : RV) (L : List Int) : Prop where
  d : x.d = .list (dI L)
  items : x.items = some (oI L)
theorem isI_fz (L : List Int) : IsI (.val (.fz (.list (dI L)))) L := ⟨rfl, by show some ((dI L).map Ow.fz) = _; rw [oI_fz]⟩
theorem isI_ls (L : List Int) : IsI (.val (.ls (oI L))) L := ⟨oI_toD L, rfl⟩
theorem isI_ref (i : Nat) (p : List Nat) (L : List Int) : IsI (.ref i p (.ls (oI L))) L := ⟨oI_toD L, by show (if (oI L).all isFz = true then some (oI L) else none) = _; rw [if_pos (oI_all L)]⟩
theorem cat_I {x y : RV} {L M : List Int} (hx : IsI x L) (hy : IsI y M) (h : L.length + M.length ≤ 16777216) : fAdd x y = .ok (.val (.ls (oI (L ++ M)))) := by
  unfold fAdd
  rw [hx.d, hy.d]
  show catL x y = _
  unfold catL
  rw [hx.items, hy.items]
  show (if (oI L).length + (oI M).length ≤ 16777216 then _ else _) = _
  rw [if_pos (by rw [oI_len, oI_len]; exact h)]
  unfold oI
  rw [List.map_append]
theorem len_I {x : RV} {L : List Int} (hx : IsI x L) : fLen x = .ok (.val (.fz (.int L.length))) := by rw [len_ls hx.d, dI_len]
theorem rev_I {x : RV} {L : List Int} (hx : IsI x L) : fRev x = .ok (.val (.ls (oI L.reverse))) := by
  unfold fRev
  rw [hx.d]
  show (match x.items with | some xs => _ | none => _) = _
  rw [hx.items]
  show Res.ok (RV.val (.ls (oI L).reverse)) = _
  unfold oI
  rw [List.map_reverse]
theorem list_I {x : RV} {L : List Int} (hx : IsI x L) : fList x = .ok (.val (.ls (oI L))) := by
  unfold fList
  rw [hx.items]
theorem in_I {y : RV} {L : List Int} (x : Int) (hy : IsI y L) : fIn (.val (.fz (.int x))) y = .ok (.val (.fz (.bool (decide (x ∈ L))))) := fIn_dI x (by rw [hy.d]; rfl)
theorem notIn_I {y : RV} {L : List Int} (x : Int) (hy : IsI y L) : fNotIn (.val (.fz (.int x))) y = .ok (.val (.fz (.bool (!decide (x ∈ L))))) := fNotIn_dI x (by rw [hy.d]; rfl)
theorem ix_I {L : List Int} {k : Int} {e : Int} (h0 : 0 ≤ k) (h1 : L[k.toNat]? = some e) : fIx (.val (.fz (.list (dI L)))) (.val (.fz (.int k))) = .ok (.val (.fz (.int e))) := fIx_row rfl h0 (by rw [dI_get, h1]; rfl)
theorem row_I {a : EC} {ρ : Rho} {x : RV} {L : List Int} (h : a ρ = .ok x) (hv : x = .val (.fz (.list (dI L))) ∨ x = .val (.ls (oI L))) : iRow a ρ = .ok (((dI L).map slOf).map fun s => [s]) := by
  rcases hv with rfl | rfl
  · exact row_s h rfl
  · rw [← oI_fz] at h
    exact row_ls h
theorem rng2_s {a b : EC} {ρ : Rho} {m n : Int} (h : a ρ = .ok (.val (.fz (.int m)))) (h' : b ρ = .ok (.val (.fz (.int n)))) (h0 : -1000 ≤ m) (h1 : m ≤ 1000) (h2 : -1000 ≤ n) (h3 : n ≤ 1000) : iRng2 a b ρ = .ok (rangeS m n) := by
  have hb : rngOk m = true := by simp only [rngOk, Bool.and_eq_true, decide_eq_true_eq]; omega
  have hc : rngOk n = true := by simp only [rngOk, Bool.and_eq_true, decide_eq_true_eq]; omega
  unfold iRng2
  rw [h]
  show (b ρ).bind _ = _
  rw [h']
  show (if rngOk m = true ∧ rngOk n = true then _ else _) = _
  rw [if_pos ⟨hb, hc⟩]
theorem rangeS_row (m n : Int) : rangeS m n = ((dI (rgI m n)).map slOf).map fun s => [s] := by
  unfold rangeS dI rgI
  rw [List.map_map, List.map_map, List.map_map]
  rfl
/-- a comprehension over a row of ints -/
theorem comp_I {i : Nat} {it : IC} {t : TC} {e : EC} {ρ : Rho} {L : List Int} (p : Int → Bool) (f : Int → Int) (hi : it ρ = .ok (((dI L).map slOf).map fun s => [s])) (hn : L.length ≤ 1000)
    (h : ∀ x ∈ L, t ((ρ.set i none).set i (some (.own (.fz (.int x))))) = .ok (p x) ∧ (p x = true → e ((ρ.set i none).set i (some (.own (.fz (.int x))))) = .ok (.val (.fz (.int (f x)))))) :
    eComp [i] it t e ρ = .ok (.val (.ls (oI ((L.filter p).map f)))) := by
  refine (comp_v hi (by simp [dI_len]; omega) (compL_fpt _ (L.map fun x => (p x, .fz (.int (f x)))) (by simp [dI_len]) ?_)).trans ?_
  · intro k v b o hv ho
    obtain ⟨x, hx, rfl⟩ := row_get hv
    rw [dI_get] at hx
    rw [List.getElem?_map] at ho
    cases en : L[k]? with
    | none => rw [en] at hx; cases hx
    | some n =>
      rw [en] at hx ho
      cases hx; cases ho
      exact h n (List.mem_of_getElem? en)
  · rw [List.filter_map, List.map_map]
    unfold oI
    rw [List.map_map]
    rfl
/-- two ascending rows of the same members -/
theorem asc_ext : ∀ {L M : List Int}, L.Pairwise (· < ·) → M.Pairwise (· < ·) → (∀ x, x ∈ L ↔ x ∈ M) → L = M
  | [], [], _, _, _ => rfl
  | [], m :: M, _, _, h => absurd ((h m).mpr List.mem_cons_self) (by simp)
  | l :: L, [], _, _, h => absurd ((h l).mp List.mem_cons_self) (by simp)
  | l :: L, m :: M, hL, hM, h => by
    have hL' := List.pairwise_cons.mp hL
    have hM' := List.pairwise_cons.mp hM
    have e : l = m := by
      rcases List.mem_cons.mp ((h l).mp List.mem_cons_self) with q | q
      · exact q
      · rcases List.mem_cons.mp ((h m).mpr List.mem_cons_self) with q' | q'
        · exact q'.symm
        · have := hL'.1 m q'
          have := hM'.1 l q
          omega
    subst e
    rw [asc_ext hL'.2 hM'.2 fun x => ?_]
    constructor
    · intro hx
      rcases List.mem_cons.mp ((h x).mp (List.mem_cons_of_mem _ hx)) with q | q
      · subst q
        have := hL'.1 x hx
        omega
      · exact q
    · intro hx
      rcases List.mem_cons.mp ((h x).mpr (List.mem_cons_of_mem _ hx)) with q | q
      · subst q
        have := hM'.1 x hx
        omega
      · exact q
/-- sorting a row without repetitions -/
theorem sortI_lt {L : List Int} (h : L.Nodup) : (sortI L).Pairwise (· < ·) := by
  have hs := sortI_sorted L
  have hn : (sortI L).Nodup := (sortI_perm L).nodup_iff.mpr h
  exact (hs.and hn).imp fun ⟨a, b⟩ => by
    rcases Int.lt_or_eq_of_le a with q | q
    · exact q
    · exact absurd q b
end VL

set_option Elab.async false
set_option linter.all false
set_option maxRecDepth 100000
set_option maxHeartbeats 4000000
/-! VL19: o[i] = e in an own list; name op= e for ints. -/
namespace VL
open PySem PySem.Spec PyProof.Rows L2
def sPut (o i e : EC) : SC := fun ρ => match e ρ with
  | .ok (.val oe) => (match o ρ with
    | .ok (.ref s p (.ls xs)) => (match i ρ with
      | .ok ri => (match ri.d with
        | .int k => (match ixN xs.length k with
          | some j => putAt s p (fun ys => ys.set j oe) ρ
          | none => .stuck)
        | _ => .stuck)
      | .err x => .err x ρ
      | .stuck => .stuck)
    | .err x => .err x ρ
    | _ => .stuck)
  | .err x => .err x ρ
  | _ => .stuck
theorem ORs.setAt {K : Frag} {H F : Hp} {y : V} {oe : Ow} {C : List Addr} (o : OR K H F y oe C) : ∀ {xs : List Ow} {vs : List V} {B : List Addr} (j : Nat), ORs K H F vs xs B → (∀ c ∈ C, c ∉ B) → ∃ B', ORs K H F (vs.set j y) (xs.set j oe) B' ∧ ∀ b ∈ B', b ∈ B ∨ b ∈ C
  | [], _, _, j, .nil, _ => ⟨[], .nil, fun _ z => by cases z⟩
  | x :: xs, v :: vs, _, 0, @ORs.cons _ _ _ _ _ _ _ A B h1 h2 n, hd => ⟨C ++ B, .cons o h2 fun c hc hb => hd c hc (List.mem_append_right _ hb), fun b hb => (List.mem_append.mp hb).elim .inr fun z => .inl (List.mem_append_right _ z)⟩
  | x :: xs, v :: vs, _, j + 1, @ORs.cons _ _ _ _ _ _ _ A B h1 h2 n, hd => by
    obtain ⟨B', h3, h4⟩ := ORs.setAt o j h2 fun c hc hb => hd c hc (List.mem_append_right _ hb)
    refine ⟨A ++ B', .cons h1 h3 fun a ha hb => ?_, fun b hb => ?_⟩
    · rcases h4 a hb with z | z
      · exact n a ha z
      · exact hd a z (List.mem_append_left _ ha)
    · rcases List.mem_append.mp hb with z | z
      · exact .inl (List.mem_append_left _ z)
      · exact (h4 b z).imp (fun z => List.mem_append_right _ z) id
theorem OR.memAt {K : Frag} {H F : Hp} : ∀ (p : List Nat) {ow : Ow} {v : V} {A : List Addr} {xs : List Ow} {l : Addr}, OR K H F v ow A → At H v p (.ref l) → ow.at p = some (.ls xs) → l ∈ A
  | [], ow, v, A, xs, l, o, h, e => by
    cases e
    obtain ⟨a, vs, B, rfl, rfl, _⟩ := o.ls_inv
    cases (show V.ref l = V.ref a from h)
    exact List.mem_cons_self
  | k :: p, .fz _, v, A, xs, l, o, h, e => by simp [Ow.at] at e
  | k :: p, .ls ys, v, A, xs, l, o, h, e => by
    obtain ⟨a, us, w, rfl, hb, hw, at2⟩ := h
    obtain ⟨b, vs, B, ev, rfl, h1, h2, h3, h4⟩ := o.ls_inv
    cases ev
    have eus : vs = us := by
      rcases hb with hb | hb <;> rw [hb] at h1 <;> cases h1
      rfl
    subst eus
    simp only [Ow.at] at e
    cases ey : ys[k]? with
    | none => rw [ey] at e; cases e
    | some y =>
      rw [ey] at e
      obtain ⟨Ak, oy, hAk, _⟩ := h4.setk (H1 := H) (C := []) ey hw
      exact List.mem_cons_of_mem _ (hAk l (OR.memAt p oy at2 e))
  | k :: p, .tp ys, v, A, xs, l, o, h, e => by
    obtain ⟨a, us, w, rfl, hb, hw, at2⟩ := h
    obtain ⟨b, vs, B, ev, rfl, h1, h2, h3, h4⟩ := o.tp_inv
    cases ev
    have eus : vs = us := by
      rcases hb with hb | hb <;> rw [hb] at h1 <;> cases h1
      rfl
    subst eus
    simp only [Ow.at] at e
    cases ey : ys[k]? with
    | none => rw [ey] at e; cases e
    | some y =>
      rw [ey] at e
      obtain ⟨Ak, oy, hAk, _⟩ := h4.setk (H1 := H) (C := []) ey hw
      exact List.mem_cons_of_mem _ (hAk l (OR.memAt p oy at2 e))
section
variable {X : Cx} {o i e : Expr} {co ci ce : EC} {pos pos' : Pos}
theorem put_rd {K : Frag} {mg : Str → Option Value} {W : WX} {D : Ends} {σ : S} {H : Hp} (h : rdS K mg (sPut co ci ce) W D σ H) :
    rdE K mg ce W σ H fun v H1 => rdE K mg co W σ H1 fun x H2 => rdE K mg ci W σ H2 fun y H3 => rSetL x y v H3 fun H4 => D.nx σ H4 := by
  obtain ⟨H0, F0, F, ρ, s, h⟩ := h
  unfold sPut at h
  cases e1 : ce ρ with
  | stuck => rw [e1] at h; exact h.elim
  | err x => rw [e1] at h; exact rdE_err s e1 fun cls d H' F' g xo => h cls d σ H' F' (s.step g) xo
  | ok re =>
    rw [e1] at h
    cases re with
    | ref _ _ _ => exact h.elim
    | bor _ => exact h.elim
    | val oe =>
      simp only at h
      refine rdE_ok s e1 fun v H1 F1 C g1 o1 n1 => ?_
      have s1 := s.step g1
      have o1 : OR K H1 F1 v oe C := o1
      cases e2 : co ρ with
      | stuck => rw [e2] at h; exact h.elim
      | err z => rw [e2] at h; exact rdE_err s1 e2 fun cls d H' F' g xo => h cls d σ H' F' (s1.step g) xo
      | ok ro =>
        rw [e2] at h
        cases ro with
        | val _ => exact h.elim
        | bor _ => exact h.elim
        | ref sl p ow =>
          cases ow with
          | fz _ => exact h.elim
          | tp _ => exact h.elim
          | ls ys =>
            simp only at h
            refine rdE_ok s1 e2 fun x H2 F2 A g2 o2 n2 => ?_
            have s2 := s1.step g2
            obtain ⟨_, ⟨v0, e0, hat⟩, ⟨ow0, eo, ea⟩, B0, ob⟩ := id o2
            obtain ⟨l, vs0, Bl, ev, _, hl, _, _, orl⟩ := ob.ls_inv
            subst ev
            cases e3 : ci ρ with
            | stuck => rw [e3] at h; exact h.elim
            | err z => rw [e3] at h; exact rdE_err s2 e3 fun cls d H' F' g xo => h cls d σ H' F' (s2.step g) xo
            | ok ri =>
              rw [e3] at h
              simp only at h
              cases ed : ri.d with
              | int k =>
                rw [ed] at h
                simp only at h
                cases ej : ixN ys.length k with
                | none => rw [ej] at h; exact h.elim
                | some j =>
                  rw [ej] at h
                  simp only at h
                  refine rdE_ok s2 e3 fun y H3 F3 A3 g3 o3 n3 => ?_
                  have s3 := s2.step g3
                  have py := o3.dp s3
                  rw [ed] at py
                  obtain rfl := rp_int py
                  have hl3 : H3 l = some (.lst vs0) := g3.hh l _ hl
                  refine ⟨l, vs0, k, j, rfl, rfl, hl3, by rw [orl.length]; exact ej, ?_⟩
                  rcases putAt_next (i := sl) (p := p) (f := fun ys => ys.set j oe) (ρ := ρ) with ⟨ρ', hp⟩ | hp
                  · rw [hp] at h
                    obtain ⟨A0, sa0⟩ := s.sra
                    have sa := ((sa0.step g1).step g2).step g3
                    have Cn : ∀ c ∈ C, ∀ j, c ∉ A0 j := fun c hc j hj => ((sa0.sl j).there c hj).1 (n1 c hc)
                    have o1' := (o1.gr g2).gr g3
                    refine h σ _ F3 (put_state (C := C) sa e0 (hat.gr g3.hh) eo ea hl3 hp Cn (fun c hc => s.gr.hh.none (n1 c hc)) fun B oB hB na => ?_)
                    have lB : l ∈ A0 sl := by
                      have q := sa.sl sl
                      rw [eo] at q
                      obtain ⟨v9, e9, o9, _⟩ := q
                      rw [e0] at e9
                      cases e9
                      exact OR.memAt p o9 (hat.gr g3.hh) ea
                    have Cl : ∀ c ∈ C, c ≠ l := fun c hc z => Cn c hc sl (z ▸ lB)
                    have k1 : ORs K (upd H3 l (.lst (vs0.set j v))) F3 vs0 ys B := oB.keep (Sub.refl _) fun c hc => ⟨upd_ne fun z => na (z ▸ hc), (oB.there c hc).2⟩
                    have k2 : OR K (upd H3 l (.lst (vs0.set j v))) F3 v oe C := OR.keep (Sub.refl _) o1' fun c hc => ⟨upd_ne (Cl c hc), (OR.there o1' c hc).2⟩
                    obtain ⟨B', k3, k4⟩ := ORs.setAt k2 j k1 fun c hc hb => Cn c hc sl (hB c hb)
                    refine ⟨B', k3, k4, fun hc => ?_⟩
                    rcases k4 l hc with z | z
                    · exact na z
                    · exact Cl l z rfl
                  · rw [hp] at h; exact h.elim
              | _ => rw [ed] at h; exact h.elim
theorem sok_put (ho : EOk X o co) (hi : EOk X i ci) (he : EOk X e ce) (hs : swapsWithSole [(.Subscript o i pos' : Expr)] e pos.line X.env = pure false := by rfl) (hw : swappedStores [(.Subscript o i pos' : Expr)] e X.env = pure none := by rfl)
    (h1 : (assignEach [(.Subscript o i pos' : Expr)] X.env).map (·.2) = [assign (.Subscript o i pos') X.env] := by rfl)
    (ha : ∀ v, assign (.Subscript o i pos') X.env v = (do
      let ov ← holding [v] (eval o X.env)
      let iv ← holding [v, ov] (eval i X.env)
      standAt pos'
      holding [v, ov, iv] (setItem ov iv v)
      release [v, ov, iv] []) := by intro _; rfl) : SOk X (.Assign [.Subscript o i pos'] e pos) (sPut co ci ce) := fun W tk =>
  ps_mono (ps_asg (he W tk) (pg_sub (ho W tk) (hi W tk) set_list ha) hs hw h1) fun D σ H h => put_rd h
/-- name op= e, ints -/
def sAug (i : Nat) (f : Int → Int → Int) (e : EC) : SC := fun ρ => match ρ[i]? with
  | some (some (.own (.fz (.int a)))) => (match e ρ with
    | .ok re => (match re.d with
      | .int b => .next (ρ.set i (some (.own (.fz (.int (f a b))))))
      | _ => .stuck)
    | .err x => .err x ρ
    | .stuck => .stuck)
  | _ => .stuck
theorem sok_aug {x : Str} {op : Operator} {f : Int → Int → Int} {i : Nat} (hN : X.N.Nodup) (hop : PIp X op (ipI f)) (he : EOk X e ce) (hi : X.N[i]? = some x := by rfl) (hx : Loc X.env.scope x := by first | exact Or.inl rfl | exact Or.inr rfl)
    (hf : X.fn x = true ∨ X.env.scope.names.lookup x = some .local := by first | exact .inl rfl | exact .inr rfl) : SOk X (.AugAssign (.Name x pos') op e pos) (sAug i f ce) := fun W tk =>
  ps_mono (ps_aug hN hi hx (he W tk) hop hf) fun D σ H h => by
    obtain ⟨H0, F0, F, ρ, s, h⟩ := h
    unfold sAug at h
    split at h
    · rename_i a er
      obtain ⟨A0, sa0⟩ := s.sra
      have q := sa0.sl i
      rw [er] at q
      obtain ⟨v, ev, o, _⟩ := q
      have ov := (OR.fz_inv o).2
      obtain rfl := rp_int ov
      refine ⟨_, ev, ?_⟩
      cases e1 : ce ρ with
      | stuck => rw [e1] at h; exact h.elim
      | err z => rw [e1] at h; exact rdE_err s e1 fun cls d H' F' g xo => h cls d σ H' F' (s.step g) xo
      | ok re =>
        rw [e1] at h
        simp only at h
        cases ed : re.d with
        | int b =>
          rw [ed] at h
          simp only at h
          refine rdE_ok s e1 fun y H1 F1 A g1 o1 n1 => ?_
          have py := o1.dp (s.step g1)
          rw [ed] at py
          obtain rfl := rp_int py
          obtain ⟨A', s', _⟩ := (sa0.step g1).set (i := i) (x := .int (f a b)) (sl := .own (.fz (.int (f a b)))) (B := []) ⟨OR.fz (.int _), fun _ z => by cases z⟩ fun _ z => by cases z
          exact ⟨a, b, rfl, rfl, h _ H1 F1 s'.sr⟩
        | _ => rw [ed] at h; exact h.elim
    · exact h.elim
end
end VL

set_option Elab.async false
set_option linter.all false
set_option maxRecDepth 100000
set_option maxHeartbeats 4000000
/-! VL20: o.insert(i, e), o.extend(e) in an own list. -/
namespace VL
open PySem PySem.Spec PyProof.Rows L2
theorem ORs.ins {K : Frag} {H F : Hp} {y : V} {oe : Ow} {C : List Addr} (o : OR K H F y oe C) : ∀ (n : Nat) {xs : List Ow} {vs : List V} {B : List Addr}, ORs K H F vs xs B → (∀ c ∈ C, c ∉ B) →
    ∃ B', ORs K H F (vs.take n ++ [y] ++ vs.drop n) (xs.take n ++ [oe] ++ xs.drop n) B' ∧ ∀ b ∈ B', b ∈ B ∨ b ∈ C
  | 0, xs, vs, B, h, hd => ⟨C ++ B, by simpa using ORs.cons o h hd, fun b hb => (List.mem_append.mp hb).elim .inr .inl⟩
  | n + 1, [], _, _, .nil, _ => ⟨C ++ [], by simpa using ORs.cons o .nil (fun _ _ z => by cases z), fun b hb => .inr (by simpa using hb)⟩
  | n + 1, x :: xs, v :: vs, _, @ORs.cons _ _ _ _ _ _ _ A B h1 h2 nd, hd => by
    obtain ⟨B', h3, h4⟩ := ORs.ins o n h2 fun c hc hb => hd c hc (List.mem_append_right _ hb)
    have nd2 : ∀ a ∈ A, a ∉ B' := fun a ha hb => by
      rcases h4 a hb with z | z
      · exact nd a ha z
      · exact hd a z (List.mem_append_left _ ha)
    have h5 := ORs.cons h1 h3 nd2
    refine ⟨A ++ B', h5, fun b hb => ?_⟩
    · rcases List.mem_append.mp hb with z | z
      · exact .inl (List.mem_append_left _ z)
      · exact (h4 b z).imp (fun z => List.mem_append_right _ z) id
def sIns (o i e : EC) : SC := fun ρ => match o ρ with
  | .ok (.ref s p (.ls xs)) => (match i ρ with
    | .ok ri => (match ri.d with
      | .int k => (match e ρ with
        | .ok (.val oe) => if 0 ≤ k ∧ k < 1000000 ∧ xs.length < 16777216 then putAt s p (fun ys => ys.take k.toNat ++ [oe] ++ ys.drop k.toNat) ρ else .stuck
        | .err x => .err x ρ
        | _ => .stuck)
      | _ => .stuck)
    | .err x => .err x ρ
    | .stuck => .stuck)
  | .err x => .err x ρ
  | _ => .stuck
def sExt (o e : EC) : SC := fun ρ => match o ρ with
  | .ok (.ref s p (.ls xs)) => (match e ρ with
    | .ok (.val (.ls zs)) => if xs.length + zs.length ≤ 16777216 then putAt s p (fun ys => ys ++ zs) ρ else .stuck
    | .err x => .err x ρ
    | _ => .stuck)
  | .err x => .err x ρ
  | _ => .stuck
section
variable {X : Cx} {o i e : Expr} {co ci ce : EC} {p1 pos cpos pos' : Pos}
/-- the list that a slot's place holds is owned -/
theorem at_own {K : Frag} {H0 F0 H F : Hp} {σ : S} {ρ : Rho} {A : Nat → List Addr} {i : Nat} {p : List Nat} {v0 : V} {l : Addr} {ow0 : Ow} {xs : List Ow} (s : SRA K H0 F0 A σ H F ρ) (e0 : σ[i]? = some (some v0)) (hat : At H v0 p (.ref l)) (eo : ρ[i]? = some (some (.own ow0))) (ea : ow0.at p = some (.ls xs)) : l ∈ A i := by
  have q := s.sl i
  rw [eo] at q
  obtain ⟨v9, e9, o9, _⟩ := q
  rw [e0] at e9
  cases e9
  exact OR.memAt p o9 hat ea
theorem ins_rd {K : Frag} {mg : Str → Option Value} {W : WX} {D : Ends} {σ : S} {H : Hp} (h : rdS K mg (sIns co ci ce) W D σ H) :
    rdE K mg co W σ H fun x H1 => tyV K "list" x H1 ∧ rdE K mg ci W σ H1 fun y H2 => rdE K mg ce W σ H2 fun z H3 => ∃ l xs k, x = .ref l ∧ y = .int k ∧ H3 l = some (.lst xs) ∧ xs.length < sizeLine ∧ 0 ≤ k ∧ k < 2 ^ 63 ∧ D.nx σ (upd H3 l (.lst (xs.take k.toNat ++ [z] ++ xs.drop k.toNat))) := by
  obtain ⟨H0, F0, F, ρ, s, h⟩ := h
  unfold sIns at h
  cases e1 : co ρ with
  | stuck => rw [e1] at h; exact h.elim
  | err x => rw [e1] at h; exact rdE_err s e1 fun cls d H' F' g xo => h cls d σ H' F' (s.step g) xo
  | ok ro =>
    rw [e1] at h
    cases ro with
    | val _ => exact h.elim
    | bor _ => exact h.elim
    | ref sl p ow =>
      cases ow with
      | fz _ => exact h.elim
      | tp _ => exact h.elim
      | ls ys =>
        simp only at h
        refine rdE_ok s e1 fun x H1 F1 A g1 o1 n1 => ?_
        have s1 := s.step g1
        obtain ⟨_, ⟨v0, e0, hat⟩, ⟨ow0, eo, ea⟩, B0, ob⟩ := id o1
        obtain ⟨l, vs0, Bl, ev, _, hl, _, _, orl⟩ := ob.ls_inv
        subst ev
        refine ⟨.inl ⟨rfl, _, .inl (.inl hl)⟩, ?_⟩
        cases e2 : ci ρ with
        | stuck => rw [e2] at h; exact h.elim
        | err z => rw [e2] at h; exact rdE_err s1 e2 fun cls d H' F' g xo => h cls d σ H' F' (s1.step g) xo
        | ok ri =>
          rw [e2] at h
          simp only at h
          cases ed : ri.d with
          | int k =>
            rw [ed] at h
            simp only at h
            refine rdE_ok s1 e2 fun y H2 F2 A2 g2 o2 n2 => ?_
            have s2 := s1.step g2
            have py := o2.dp s2
            rw [ed] at py
            obtain rfl := rp_int py
            cases e3 : ce ρ with
            | stuck => rw [e3] at h; exact h.elim
            | err z => rw [e3] at h; exact rdE_err s2 e3 fun cls d H' F' g xo => h cls d σ H' F' (s2.step g) xo
            | ok re =>
              rw [e3] at h
              cases re with
              | ref _ _ _ => exact h.elim
              | bor _ => exact h.elim
              | val oe =>
                simp only at h
                by_cases hc : 0 ≤ k ∧ k < 1000000 ∧ ys.length < 16777216
                case neg => simp only [hc, if_false] at h; exact h.elim
                simp only [hc, and_self, if_true] at h
                refine rdE_ok s2 e3 fun z H3 F3 C g3 o3 n3 => ?_
                have o3 : OR K H3 F3 z oe C := o3
                have hl3 : H3 l = some (.lst vs0) := (g2.hh.trans g3.hh) l _ hl
                refine ⟨l, vs0, k, rfl, rfl, hl3, by rw [orl.length, sizeLine_eq]; exact hc.2.2, hc.1, by omega, ?_⟩
                rcases putAt_next (i := sl) (p := p) (f := fun ys => ys.take k.toNat ++ [oe] ++ ys.drop k.toNat) (ρ := ρ) with ⟨ρ', hp⟩ | hp
                · rw [hp] at h
                  obtain ⟨A0, sa0⟩ := s2.sra
                  have sa := sa0.step g3
                  have Cn : ∀ c ∈ C, ∀ j, c ∉ A0 j := fun c hc j hj => ((sa0.sl j).there c hj).1 (n3 c hc)
                  have hat3 := hat.gr (g2.hh.trans g3.hh)
                  have lA := at_own sa e0 hat3 eo ea
                  refine h σ _ F3 (put_state (C := C) sa e0 hat3 eo ea hl3 hp Cn (fun c hc => s2.gr.hh.none (n3 c hc)) fun B oB hB na => ?_)
                  have Cl : ∀ c ∈ C, c ≠ l := fun c hc z => Cn c hc sl (z ▸ lA)
                  have k1 : ORs K (upd H3 l (.lst (vs0.take k.toNat ++ [z] ++ vs0.drop k.toNat))) F3 vs0 ys B := oB.keep (Sub.refl _) fun c hc => ⟨upd_ne fun z => na (z ▸ hc), (oB.there c hc).2⟩
                  have k2 : OR K (upd H3 l (.lst (vs0.take k.toNat ++ [z] ++ vs0.drop k.toNat))) F3 z oe C := OR.keep (Sub.refl _) o3 fun c hc => ⟨upd_ne (Cl c hc), (OR.there o3 c hc).2⟩
                  obtain ⟨B', k3, k4⟩ := ORs.ins k2 k.toNat k1 fun c hc hb => Cn c hc sl (hB c hb)
                  refine ⟨B', k3, k4, fun hc => ?_⟩
                  rcases k4 l hc with z | z
                  · exact na z
                  · exact Cl l z rfl
                · rw [hp] at h; exact h.elim
          | _ => rw [ed] at h; exact h.elim
theorem sok_ins (ho : EOk X o co) (hi : EOk X i ci) (he : EOk X e ce) (hbase : attributeBase o "insert" X.env (eval o X.env) = eval o X.env := by rfl)
    (hfew : ((backTo cpos (starEach [i, e] X.env)).all (fun x => !x.1) && (backToKw cpos (keywordEach [] X.env)).all (fun x => x.1.isSome)
      && decide (([i, e] : List Expr).length + ([] : List Keyword).length + (if ([] : List Keyword).isEmpty then 0 else 1) < 30)) = true := by rfl)
    (hline : (p1.endLine == cpos.line) = true := by rfl) (hs : starEach [i, e] X.env = (false, eval i X.env) :: starEach [e] X.env := by rfl) (hs2 : starEach [e] X.env = (false, eval e X.env) :: starEach [] X.env := by rfl) (hplain : (backTo cpos (starEach [e] X.env)).any (·.1) = false := by rfl)
    (hsw : swapsWith (.Call (.Attribute o "insert" p1) [i, e] [] cpos) none pos'.line X.env = pure false := by rfl) :
    SOk X (.Expr (.Call (.Attribute o "insert" p1) [i, e] [] cpos) pos') (sIns co ci ce) := fun W tk =>
  ps_mono (ps_expr (pe_bm PySem.F.plainAttrs_list PySem.F.slot_list_insert PySem.F.type_list_insert mt_insert (ho W tk) (pa_cons (hi W tk) (pa_cons (he W tk) pa_nil hs2) hs) hbase hfew hline hs hplain) hsw) fun D σ H h => by
    have q := ins_rd h
    obtain ⟨H0, F0, F, ρ, s, q⟩ := q
    refine ⟨H0, F0, F, ρ, s, ?_⟩
    cases e1 : co ρ with
    | stuck => rw [e1] at q; exact q
    | err x => rw [e1] at q; exact q
    | ok rv =>
      rw [e1] at q
      intro v H' F' A g o n
      obtain ⟨h1, H0', F0', F'', ρ', s', h2⟩ := q v H' F' A g o n
      refine ⟨h1, H0', F0', F'', ρ', s', ?_⟩
      cases e2 : ci ρ' with
      | stuck => rw [e2] at h2; exact h2
      | err x => rw [e2] at h2; exact h2
      | ok rv2 =>
        rw [e2] at h2
        intro v2 H2 F2 A2 g2 o2 n2
        obtain ⟨H0b, F0b, Fb, ρb, sb, h3⟩ := h2 v2 H2 F2 A2 g2 o2 n2
        refine ⟨H0b, F0b, Fb, ρb, sb, ?_⟩
        cases e3 : ce ρb with
        | stuck => rw [e3] at h3; exact h3
        | err x => rw [e3] at h3; exact h3
        | ok rv3 =>
          rw [e3] at h3
          intro v3 H3 F3 A3 g3 o3 n3
          obtain ⟨l, xs, k, ex, ey, h4, h5, h6, h7, h8⟩ := h3 v3 H3 F3 A3 g3 o3 n3
          exact ⟨l, xs, k, v3, ex, by rw [ey], h4, h5, h6, h7, h8⟩
theorem ext_rd {K : Frag} {mg : Str → Option Value} {W : WX} {D : Ends} {σ : S} {H : Hp} (h : rdS K mg (sExt co ce) W D σ H) :
    rdE K mg co W σ H fun x H1 => tyV K "list" x H1 ∧ rdE K mg ce W σ H1 fun y H2 => ∃ l b xs zs, x = .ref l ∧ y = .ref b ∧ H2 l = some (.lst xs) ∧ H2 b = some (.lst zs) ∧ xs.length + zs.length ≤ sizeLine ∧ D.nx σ (upd H2 l (.lst (xs ++ zs))) := by
  obtain ⟨H0, F0, F, ρ, s, h⟩ := h
  unfold sExt at h
  cases e1 : co ρ with
  | stuck => rw [e1] at h; exact h.elim
  | err x => rw [e1] at h; exact rdE_err s e1 fun cls d H' F' g xo => h cls d σ H' F' (s.step g) xo
  | ok ro =>
    rw [e1] at h
    cases ro with
    | val _ => exact h.elim
    | bor _ => exact h.elim
    | ref sl p ow =>
      cases ow with
      | fz _ => exact h.elim
      | tp _ => exact h.elim
      | ls ys =>
        simp only at h
        refine rdE_ok s e1 fun x H1 F1 A g1 o1 n1 => ?_
        have s1 := s.step g1
        obtain ⟨_, ⟨v0, e0, hat⟩, ⟨ow0, eo, ea⟩, B0, ob⟩ := id o1
        obtain ⟨l, vs0, Bl, ev, _, hl, _, _, orl⟩ := ob.ls_inv
        subst ev
        refine ⟨.inl ⟨rfl, _, .inl (.inl hl)⟩, ?_⟩
        cases e2 : ce ρ with
        | stuck => rw [e2] at h; exact h.elim
        | err z => rw [e2] at h; exact rdE_err s1 e2 fun cls d H' F' g xo => h cls d σ H' F' (s1.step g) xo
        | ok re =>
          rw [e2] at h
          cases re with
          | ref _ _ _ => exact h.elim
          | bor _ => exact h.elim
          | val oe =>
            cases oe with
            | fz _ => exact h.elim
            | tp _ => exact h.elim
            | ls zs =>
              simp only at h
              by_cases hc : ys.length + zs.length ≤ 16777216
              case neg => simp only [hc, if_false] at h; exact h.elim
              simp only [hc, if_true] at h
              refine rdE_ok s1 e2 fun y H2 F2 C g2 o2 n2 => ?_
              obtain ⟨b, ws, C', rfl, rfl, hb, fb, nb, oz⟩ := OR.ls_inv (show OR K H2 F2 y (.ls zs) C from o2)
              have hl2 : H2 l = some (.lst vs0) := g2.hh l _ hl
              refine ⟨l, b, vs0, ws, rfl, rfl, hl2, hb, by rw [orl.length, oz.length, sizeLine_eq]; exact hc, ?_⟩
              rcases putAt_next (i := sl) (p := p) (f := fun ys => ys ++ zs) (ρ := ρ) with ⟨ρ', hp⟩ | hp
              · rw [hp] at h
                obtain ⟨A0, sa0⟩ := s1.sra
                have sa := sa0.step g2
                have Cn : ∀ c ∈ C', ∀ j, c ∉ A0 j := fun c hc j hj => ((sa0.sl j).there c hj).1 (n2 c (List.mem_cons_of_mem _ hc))
                have hat2 := hat.gr g2.hh
                have lA := at_own sa e0 hat2 eo ea
                refine h σ _ F2 (put_state (C := C') sa e0 hat2 eo ea hl2 hp Cn (fun c hc => s1.gr.hh.none (n2 c (List.mem_cons_of_mem _ hc))) fun B oB hB na => ?_)
                have Cl : ∀ c ∈ C', c ≠ l := fun c hc z => Cn c hc sl (z ▸ lA)
                have k1 : ORs K (upd H2 l (.lst (vs0 ++ ws))) F2 vs0 ys B := oB.keep (Sub.refl _) fun c hc => ⟨upd_ne fun z => na (z ▸ hc), (oB.there c hc).2⟩
                have k2 : ORs K (upd H2 l (.lst (vs0 ++ ws))) F2 ws zs C' := oz.keep (Sub.refl _) fun c hc => ⟨upd_ne (Cl c hc), (oz.there c hc).2⟩
                refine ⟨B ++ C', k1.append k2 fun c hc hc2 => Cn c hc2 sl (hB c hc), fun c hc => List.mem_append.mp hc, fun hc => ?_⟩
                rcases List.mem_append.mp hc with z | z
                · exact na z
                · exact Cl l z rfl
              · rw [hp] at h; exact h.elim
theorem sok_ext (ho : EOk X o co) (he : EOk X e ce) (hbase : attributeBase o "extend" X.env (eval o X.env) = eval o X.env := by rfl)
    (hfew : ((backTo cpos (starEach [e] X.env)).all (fun x => !x.1) && (backToKw cpos (keywordEach [] X.env)).all (fun x => x.1.isSome)
      && decide (([e] : List Expr).length + ([] : List Keyword).length + (if ([] : List Keyword).isEmpty then 0 else 1) < 30)) = true := by rfl)
    (hline : (p1.endLine == cpos.line) = true := by rfl) (hs : starEach [e] X.env = (false, eval e X.env) :: starEach [] X.env := by rfl) (hplain : (backTo cpos (starEach [] X.env)).any (·.1) = false := by rfl)
    (hsw : swapsWith (.Call (.Attribute o "extend" p1) [e] [] cpos) none pos'.line X.env = pure false := by rfl) :
    SOk X (.Expr (.Call (.Attribute o "extend" p1) [e] [] cpos) pos') (sExt co ce) := fun W tk =>
  ps_mono (ps_expr (pe_bm PySem.F.plainAttrs_list PySem.F.slot_list_extend PySem.F.type_list_extend mt_extend (ho W tk) (pa_cons (he W tk) pa_nil hs) hbase hfew hline hs hplain) hsw) fun D σ H h => by
    obtain ⟨H0, F0, F, ρ, s, q⟩ := ext_rd h
    refine ⟨H0, F0, F, ρ, s, ?_⟩
    cases e1 : co ρ with
    | stuck => rw [e1] at q; exact q
    | err x => rw [e1] at q; exact q
    | ok rv =>
      rw [e1] at q
      intro v H' F' A g o n
      obtain ⟨h1, H0', F0', F'', ρ', s', h2⟩ := q v H' F' A g o n
      refine ⟨h1, H0', F0', F'', ρ', s', ?_⟩
      cases e2 : ce ρ' with
      | stuck => rw [e2] at h2; exact h2
      | err x => rw [e2] at h2; exact h2
      | ok rv2 =>
        rw [e2] at h2
        intro v2 H2 F2 A2 g2 o2 n2
        obtain ⟨l, b, xs, zs, ex, ey, h3, h4, h5, h6⟩ := h2 v2 H2 F2 A2 g2 o2 n2
        exact ⟨l, b, xs, zs, ex, by rw [ey], h3, h4, h5, h6⟩
end
end VL

set_option Elab.async false
set_option linter.all false
set_option maxRecDepth 100000
set_option maxHeartbeats 4000000
/-! VL21: name = a part of an own tree; the tree is given up. A def that calls itself. -/
namespace VL
open PySem PySem.Spec PyProof.Rows L2
def sTake (i : Nat) (a : EC) : SC := fun ρ => match a ρ with
  | .ok (.val ow) => .next (ρ.set i (some (.own ow)))
  | .ok (.bor d) => .next (ρ.set i (some (.bor d)))
  | .ok (.ref s _ ow) => if s = i then .stuck else .next ((ρ.set s none).set i (some (.own ow)))
  | .err x => .err x ρ
  | .stuck => .stuck
theorem OR.partAt {K : Frag} {H F : Hp} : ∀ (p : List Nat) {ow oe : Ow} {v w : V} {A : List Addr}, OR K H F v ow A → At H v p w → ow.at p = some oe → ∃ B, OR K H F w oe B ∧ ∀ b ∈ B, b ∈ A
  | [], ow, oe, v, w, A, o, h, e => by
    cases e
    obtain rfl := (show w = v from h)
    exact ⟨A, o, fun _ z => z⟩
  | k :: p, .fz _, oe, v, w, A, o, h, e => by simp [Ow.at] at e
  | k :: p, .ls ys, oe, v, w, A, o, h, e => by
    obtain ⟨a, us, z, rfl, hb, hw, at2⟩ := h
    obtain ⟨b, vs, B, ev, rfl, h1, h2, h3, h4⟩ := o.ls_inv
    cases ev
    have eus : vs = us := by
      rcases hb with hb | hb <;> rw [hb] at h1 <;> cases h1
      rfl
    subst eus
    simp only [Ow.at] at e
    cases ey : ys[k]? with
    | none => rw [ey] at e; cases e
    | some y =>
      rw [ey] at e
      obtain ⟨Ak, oy, hAk, _⟩ := h4.setk (H1 := H) (C := []) ey hw
      obtain ⟨C, oC, hC⟩ := OR.partAt p oy at2 e
      exact ⟨C, oC, fun b hb => List.mem_cons_of_mem _ (hAk b (hC b hb))⟩
  | k :: p, .tp ys, oe, v, w, A, o, h, e => by
    obtain ⟨a, us, z, rfl, hb, hw, at2⟩ := h
    obtain ⟨b, vs, B, ev, rfl, h1, h2, h3, h4⟩ := o.tp_inv
    cases ev
    have eus : vs = us := by
      rcases hb with hb | hb <;> rw [hb] at h1 <;> cases h1
      rfl
    subst eus
    simp only [Ow.at] at e
    cases ey : ys[k]? with
    | none => rw [ey] at e; cases e
    | some y =>
      rw [ey] at e
      obtain ⟨Ak, oy, hAk, _⟩ := h4.setk (H1 := H) (C := []) ey hw
      obtain ⟨C, oC, hC⟩ := OR.partAt p oy at2 e
      exact ⟨C, oC, fun b hb => List.mem_cons_of_mem _ (hAk b (hC b hb))⟩
section
variable {X : Cx} {e : Expr} {ce : EC} {pos : Pos}
theorem take_rd {K : Frag} {mg : Str → Option Value} {W : WX} {D : Ends} {i : Nat} {σ : S} {H : Hp} (h : rdS K mg (sTake i ce) W D σ H) : rdE K mg ce W σ H fun v H' => D.nx (σ.set i (some v)) H' := by
  obtain ⟨H0, F0, F, ρ, s, h⟩ := h
  unfold sTake at h
  cases e1 : ce ρ with
  | stuck => rw [e1] at h; exact h.elim
  | err x => rw [e1] at h; exact rdE_err s e1 fun cls d H' F' g xo => h cls d σ H' F' (s.step g) xo
  | ok rv =>
    rw [e1] at h
    obtain ⟨A0, sa0⟩ := s.sra
    refine rdE_ok s e1 fun v H1 F1 A g1 o1 n1 => ?_
    have sa := sa0.step g1
    cases rv with
    | val ow =>
      simp only at h
      have o1 : OR K H1 F1 v ow A := o1
      obtain ⟨A', s', _⟩ := sa.set (i := i) (x := v) (sl := .own ow) (B := A) ⟨o1, fun a ha => s.gr.hh.none (n1 a ha)⟩ fun b hb j hj => ((sa0.sl j).there b hj).1 (n1 b hb)
      exact h _ H1 F1 s'.sr
    | bor d =>
      simp only at h
      obtain ⟨eA, r⟩ := o1
      obtain ⟨A', s', _⟩ := sa.set (i := i) (x := v) (sl := .bor d) (B := []) ⟨rfl, r⟩ fun b hb => by cases hb
      exact h _ H1 F1 s'.sr
    | ref sl p ow =>
      simp only at h
      by_cases hc : sl = i
      · simp only [hc, if_true] at h; exact h.elim
      · simp only [hc, if_false] at h
        obtain ⟨eA, ⟨v0, e0, hat⟩, ⟨ow0, eo, ea⟩, _⟩ := id o1
        have q := sa.sl sl
        rw [eo] at q
        obtain ⟨v9, e9, o9, k9⟩ := q
        rw [e0] at e9
        cases e9
        obtain ⟨B, oB, hB⟩ := OR.partAt p o9 hat ea
        obtain ⟨A', s', _⟩ := (sa.drop sl).set (i := i) (x := v) (sl := .own ow) (B := B) ⟨oB, fun b hb => k9 b (hB b hb)⟩ fun b hb j hj => by
          by_cases ej : j = sl
          · simp [ej] at hj
          · simp only [ej, if_false] at hj
            exact sa.ap j sl ej b hj (hB b hb)
        exact h _ H1 F1 s'.sr
theorem tk (i : Nat) {x : Str} {pos p2 : Pos} {ce : EC} (hnd : X.N.Nodup) (h : EOk X e ce) (hN : X.N[i]? = some x := by rfl) (hx : Loc X.env.scope x := by first | exact Or.inl rfl | exact Or.inr rfl) (hs : swapsWith e (some (.Name x p2)) pos.line X.env = pure false := by rfl)
    (hf : X.fn x = true ∨ X.env.scope.names.lookup x = some .local := by first | exact .inl rfl | exact .inr rfl) : SOk X (.Assign [.Name x p2] e pos) (sTake i ce) := fun W tk => ps_mono (ps_set hnd hN hx (h W tk) hs hf) fun D σ H h => take_rd h
end
/-! ### frozen only where it must be -/
def sFrzL (i : Nat) (a : SC) : SC := fun ρ => match a ρ with
  | .stuck => a (ρ.set i (frzSl ρ[i]?))
  | r => r
theorem sok_frzL {X : Cx} {st : Stmt} {a : SC} {i : Nat} (h : SOk X st a) : SOk X st (sFrzL i a) := fun W tk => ps_mono (h W tk) fun D σ H ⟨H0, F0, F, ρ, s, h⟩ => by
  unfold sFrzL at h
  cases e : a ρ with
  | stuck =>
    rw [e] at h
    obtain ⟨F', s'⟩ := s.frzSlot i
    exact ⟨H0, F0, F', _, s', h⟩
  | next _ => rw [e] at h; exact ⟨H0, F0, F, ρ, s, by rw [e]; exact h⟩
  | brk _ => rw [e] at h; exact ⟨H0, F0, F, ρ, s, by rw [e]; exact h⟩
  | cont _ => rw [e] at h; exact ⟨H0, F0, F, ρ, s, by rw [e]; exact h⟩
  | ret _ => rw [e] at h; exact ⟨H0, F0, F, ρ, s, by rw [e]; exact h⟩
  | err _ _ => rw [e] at h; exact ⟨H0, F0, F, ρ, s, by rw [e]; exact h⟩
/-! ### a def that calls itself -/
theorem fok_stuck {P : Program} {w : World} {K : Frag} {mg : Str → Option Value} {base : Heap} {k : Nat} {f : Addr} {fd : FuncData} {ps : List Str} : FOk P w K mg base k f fd ps (fun _ => .stuck) :=
  ⟨fun vs H Q E h => by obtain ⟨_, as, _, hl, hp, _⟩ := h; rw [Paired.length hp, hl], fun A outer s H args us vs Q E hr e0 hb r h => by obtain ⟨_, as, _, hl, hp, h⟩ := h; exact h.elim⟩
end VL

set_option Elab.async false
set_option linter.all false
set_option maxRecDepth 100000
set_option maxHeartbeats 2000000
/-! VL22: list(reversed(x)), x a list. -/
namespace RT
open PySem PySem.Spec PyProof.Rows
section
variable {prog : Program} {w : World} {A : Around} {E : Value → Shared → Prop} {s : Shared}
theorem extend_rev {R : Result → Shared → Prop} {it l S : Addr} {items : Array Value} {res : Value} {c₀ : Nat} (hh : A.in1.handled = none) (hit : s.heap.IsRevIter it l ((items.size : Int) - 1)) (hl : s.heap.IsList l items) (hne : l ≠ it) (hSi : S ≠ it) (hSl : S ≠ l) (hn : items.size ≤ sizeLine)
    (hS : s.heap.get? S = some { cls := .type "list", data := .seq #[] c₀ })
    (hR : ∀ s' acc' c', Moved (S :: [it]) (fun a b => b = a) s s' → s'.heap.get? S = some { cls := .type "list", dict := none, data := .seq acc' c', slots := #[] } → ItemsOf (fun i v => items[items.size - 1 - i]? = some v) acc' items.size → R (.ok (.ret res)) s') :
    wpAny (model prog w) A.in1 (Builtin.List.listExtendWith (.ref S) (.ref it) res)
      (fun fin s' => match fin with | .done f => R (.ok f) s' | .again c' => c'.quiet = true ∧ codeAny (model prog w) A c' R s') (fun e s' => R (.error e) s') s := by
  have W := (Walks.listRev (prog := prog) (w := w) (A := A.in1) hh it l hne items).toS
  have hSf : S ∉ [it, l] := by simp only [List.mem_cons, List.not_mem_nil, or_false, not_or]; exact ⟨hSi, hSl⟩
  have hT : s.TypeIs (.ref it) "list_reverseiterator" := hit.typeIs
  have h1 : Builtin.List.listSameRef (.ref S) (.ref it) = false := by simp [Builtin.List.listSameRef, hSi]
  unfold Builtin.List.listExtendWith
  refine wpAny_bind (wpAny_typeOf hT ?_)
  rw [if_neg (by rw [h1]; decide)]
  refine wpAny_bind (wpAny_pyIter_revIter hit ?_)
  refine wpAny_bind (wpAny_holding ?_)
  unfold Builtin.List.listLengthHint
  refine wpAny_bind (wpAny_specialOf hT nolen_lri ?_)
  show wpAny _ A.in1 (specialOf (Value.ref it) (Str.ofString "__length_hint__") >>= _) _ _ _
  refine wpAny_bind (wpAny_specialOf hT hint_lri ?_)
  generalize hid : ("list_reverseiterator.__length_hint__" : String) = id0
  wp_delta
  rw [show splitId id0 = some ("list_reverseiterator", "__length_hint__") from by subst hid; decide +kernel]
  subst hid
  refine wpAny_bind (wpAny_isInstance (b := true) hT (by rw [isSubtype_type]; kernel_rfl) ?_)
  refine wpAny_pure ?_
  rw [if_neg (by decide)]
  have e0 : ((items.size : Nat) : Int) - 1 - ((0 : Nat) : Int) = (items.size : Int) - 1 := by omega
  exact wpAny_pure ⟨plainId_quiet F.plain_extend_loop _, codeAny_extend_loopS W hn _ hSf _ items.size 0 _ _ _ rfl (Nat.zero_le _) ⟨Nat.zero_le _, by rw [e0]; exact hit, hl⟩ hS (ItemsOf.nil _) fun s' acc' c' hm hS' hacc => hR s' acc' c' hm hS' hacc⟩
theorem list_init_rev {R : Result → Shared → Prop} {it l S : Addr} {items : Array Value} (hh : A.in1.handled = none) (hit : s.heap.IsRevIter it l ((items.size : Int) - 1)) (hl : s.heap.IsList l items) (hne : l ≠ it) (hSi : S ≠ it) (hSl : S ≠ l) (hn : items.size ≤ sizeLine)
    (hS : s.heap.get? S = some { cls := .type "list", data := .seq #[] })
    (hR : ∀ s' acc' c', Moved (S :: [it]) (fun a b => b = a) s s' → s'.heap.get? S = some { cls := .type "list", dict := none, data := .seq acc' c', slots := #[] } → ItemsOf (fun i v => items[items.size - 1 - i]? = some v) acc' items.size → R (.ok (.ret .none)) s') :
    wpAny (model prog w) A.in1 (Builtin.«list.__init__» ⟨[.ref S, .ref it], []⟩)
      (fun fin s' => match fin with | .done f => R (.ok f) s' | .again c' => c'.quiet = true ∧ codeAny (model prog w) A c' R s') (fun e s' => R (.error e) s') s := by
  show wpAny _ A.in1 (do let old ← Builtin.List.listItems (.ref S); Builtin.List.listUpdate (.ref S) (fun _ => #[]); letGo old.toList.reverse; Builtin.List.listExtendWith (.ref S) (.ref it) .none) _ _ s
  refine wpAny_bind ?_
  unfold Builtin.List.listItems
  refine wpAny_bind (wpAny_seqItems hS rfl (wpAny_pure ?_))
  show wpAny _ A.in1 (updateSeq S (fun _ => #[]) >>= fun _ => letGo (#[] : Array Value).toList.reverse >>= fun _ => Builtin.List.listExtendWith (.ref S) (.ref it) .none) _ _ s
  refine wpAny_bind (wpAny_updateSeq hS rfl ?_)
  have hS₂ := Heap.get?_update_self (Obj.mapSeq (fun _ => (#[] : Array Value))) hS rfl
  have oth : ∀ b o, b ≠ S → s.heap.get? b = some o → (s.heap.update S (Obj.mapSeq (fun _ => (#[] : Array Value)))).get? b = some o :=
    fun b o hb e => (Heap.get?_update_other _ _ (Ne.symm hb)).trans e
  refine wpAny_bind (wpAny_letGo ?_)
  refine extend_rev (s := { s with heap := s.heap.update S (Obj.mapSeq (fun _ => (#[] : Array Value))) }) hh (hit.at fun o e => oth _ o (Ne.symm hSi) e) (hl.at fun o e => oth _ o (Ne.symm hSl) e) hne hSi hSl hn hS₂ fun s' acc' c' hm hS' hacc => ?_
  have r0 : Moved (S :: [it]) (fun a b => b = a) s s := Moved.refl fun _ => rfl
  exact hR s' acc' c' (Moved.trans (fun _ _ _ h1 h2 => h2.trans h1) (r0.then_heap (Nat.le_refl _) fun b o hb e => oth b o (fun h => hb (h ▸ List.mem_cons_self)) e) hm) hS' hacc
theorem call_list_rev {it l : Addr} {items : Array Value} {Q : Value → Shared → Prop} (hh : A.handled = none) (hit : s.heap.IsRevIter it l ((items.size : Int) - 1)) (hl : s.heap.IsList l items) (hne : l ≠ it) (hn : items.size ≤ sizeLine)
    (hQ : ∀ s' acc' c', Moved (s.heap.objs.size :: [it]) (fun a b => b = a) { s with heap := s.heap.push { cls := .type "list", data := .seq #[] } } s' →
      s'.heap.get? s.heap.objs.size = some { cls := .type "list", dict := none, data := .seq acc' c', slots := #[] } → ItemsOf (fun i v => items[items.size - 1 - i]? = some v) acc' items.size → Q (.ref s.heap.objs.size) s') :
    wpAny (model prog w) A (call (.type "list") [.ref it]) Q E s := by
  obtain ⟨oi, hoi, _⟩ := id hit
  obtain ⟨ol, hol, _⟩ := id hl
  have hSi : s.heap.objs.size ≠ it := Nat.ne_of_gt (Heap.lt_size hoi)
  have hSl : s.heap.objs.size ≠ l := Nat.ne_of_gt (Heap.lt_size hol)
  refine callType_codes (Q₁ := fun obj s₁ => obj = .ref s.heap.objs.size ∧ s₁ = { s with heap := s.heap.push { cls := .type "list", data := .seq #[] } }) F.called_list (F.typeCall_list_1 _) F.entry_list_init
    (code_list_new _ ⟨rfl, rfl⟩) fun obj s₁ h₁ => ?_
  obtain ⟨rfl, rfl⟩ := h₁
  have hS : (s.heap.push { cls := .type "list", data := .seq #[] }).get? s.heap.objs.size = some { cls := .type "list", data := .seq #[] } := Heap.get?_push_size _ rfl
  refine ⟨⟨_, hS, rfl⟩, F.args_list_init_2 _ _, ?_⟩
  refine list_init_rev (A := A.in1) (s := { s with heap := s.heap.push { cls := .type "list", data := .seq #[] } }) hh (hit.at fun o e => Heap.get?_push_of_some _ e) (hl.push _) hne hSi hSl hn hS fun s' acc' c' hm hS' hacc => ?_
  exact ⟨rfl, hQ s' acc' c' hm hS' hacc⟩
end
end RT
namespace VL
open PySem PySem.Spec PyProof.Rows L2
def tListRev (K : PySem.W.Frag) (te : TE) : TE := fun σ H Q => te σ H fun v H1 => ∃ (a : Addr) (xs : List V), v = .ref a ∧ SqL K H1 a xs ∧ ∀ q, H1 q = none → Q (.ref q) (upd H1 q (.lst xs.reverse))
section
variable {X : Cx}
theorem pe_listRev {e : Expr} {te : TE} {p p2 pos pos2 : Pos} (hc : X.calm = true) (hg : Gl X "list") (hm : X.mg "list" = none) (hg2 : Gl X "reversed") (hm2 : X.mg "reversed" = none) (he : PE X e te)
    (hs : starEach [e] X.env = (false, eval e X.env) :: starEach [] X.env := by rfl)
    (hs2 : starEach [.Call (.Name "reversed" p2) [e] [] pos2] X.env = (false, eval (.Call (.Name "reversed" p2) [e] [] pos2) X.env) :: starEach [] X.env := by rfl) :
    PE X (.Call (.Name "list" p) [.Call (.Name "reversed" p2) [e] [] pos2] [] pos) (tListRev X.K te) := by
  refine ⟨fun pins s σ H Q I h => ?_⟩
  refine Call_ (ld_blt I hg hm boot_list (PyProof.Rows.callWith_type1 (args_cons (Call_ (ld_blt I hg2 hm2 PyProof.Rows.boot_reversed (PyProof.Rows.callWith_type1 (args_cons (thn (he.run pins s σ H _ I h) fun u s1 ⟨v, H1, I1, r1, q1⟩ => args_nil ?_) hs) hs rfl))) hs2) hs2 rfl))
  obtain ⟨a, xs, ev, hq, q⟩ := q1
  subst ev
  obtain rfl : u = Value.ref a := r1
  obtain ⟨its, rv, p', hz⟩ := I1.list hq
  refine call_reversed_list p'.isList (args_nil ?_)
  have k0 : ∀ b o, s1.heap.get? b = some o → (s1.heap.push (revObj a ((its.toArray.size : Int) - 1))).get? b = some o := fun b o e => Heap.get?_push_of_some _ e
  have I2 : Inv X pins σ H1 { s1 with heap := s1.heap.push (revObj a ((its.toArray.size : Int) - 1)) } := I1.kept (t' := s1.toks) k0
  obtain ⟨f0, f1, f2, f3, f4, f5⟩ := I1.fpOk (H' := H1) (b := s1.heap.objs.size) (Nat.le_refl _) (I1.hok.fresh (Nat.le_refl _))
  have hl := p'.isList
  obtain ⟨ol, hol, _⟩ := id hl
  have hne : a ≠ s1.heap.objs.size := Nat.ne_of_lt (Heap.lt_size hol)
  have hn : its.toArray.size ≤ sizeLine := by rw [List.size_toArray, ← rv.length]; exact hz
  refine RT.call_list_rev (s := { s1 with heap := s1.heap.push (revObj a ((its.toArray.size : Int) - 1)) }) (I1.ok.hd hc) ⟨_, Heap.get?_push_size _ rfl, rfl, rfl⟩ (hl.push _) hne hn fun s' acc c' hm' hS hi => ?_
  have kp : ∀ b o, b ≠ s1.heap.objs.size → (s1.heap.push (revObj a ((its.toArray.size : Int) - 1))).get? b = some o → s'.heap.get? b = some o := fun b o hb e => hm'.heap b o (fun hmem => by
    rcases List.mem_cons.mp hmem with e' | hmem
    · exact absurd (Heap.lt_size e) (by rw [e']; exact Nat.lt_irrefl _)
    · exact hb (List.mem_singleton.mp hmem)) (Heap.get?_push_of_some _ e)
  have es : s' = { s1 with heap := s'.heap, toks := s'.toks } := by rw [Moved.eq_with hm']
  rw [es]
  have J := I2.laid (h' := (s1.heap.push (revObj a ((its.toArray.size : Int) - 1))).push { cls := .type "list", dict := none, data := .seq acc c', slots := #[] }) (a := (s1.heap.push (revObj a ((its.toArray.size : Int) - 1))).objs.size) (o := .lst xs.reverse) (t' := s1.toks) (fun c o e => Heap.get?_push_of_some _ e) (Nat.le_refl _)
    (show ObjOk X.prog X.w _ _ _ (.lst xs.reverse) from ⟨by rw [List.length_reverse]; exact hz, acc.toList, c', RT.vals_rev rv hi, by rw [Array.toArray_toList]; exact Heap.get?_push_size _ rfl⟩)
  have hlt : s1.heap.objs.size < (s1.heap.push (revObj a ((its.toArray.size : Int) - 1))).objs.size := Heap.lt_size (Heap.get?_push_size s1.heap (o := revObj a ((its.toArray.size : Int) - 1)) rfl)
  have K := J.turned (t' := s'.toks) (h' := s'.heap) (it := s1.heap.objs.size) (fun b o hb e => by
    by_cases hbS : b = (s1.heap.push (revObj a ((its.toArray.size : Int) - 1))).objs.size
    · subst hbS
      rw [Heap.get?_push_size _ rfl] at e
      cases e
      exact hS
    · exact kp b o hb (by rw [Heap.get?_push_ne _ _ _ hbS] at e; exact e)) (by rw [upd_ne (Nat.ne_of_lt hlt)]; exact f0) f1 f3 f4 f5
  exact ⟨.ref _, _, K, rfl, q _ (I1.hok.fresh (Nat.le_of_lt hlt))⟩
theorem op1_lrev : Op1 X (fun x H Q => ∃ a xs, x = .ref a ∧ SqL X.K H a xs ∧ ∀ p, H p = none → Q (.ref p) (upd H p (.lst xs.reverse))) fRev := op1_rev
theorem eok_listRev {a : Expr} {ca : EC} {p p2 pos pos2 : Pos} (hm : X.mg "list" = none) (hm2 : X.mg "reversed" = none) (ha : EOk X a ca) (hc : X.calm = true := by rfl) (hg : Gl X "list" := by rfl) (hg2 : Gl X "reversed" := by rfl)
    (hs : starEach [a] X.env = (false, eval a X.env) :: starEach [] X.env := by rfl)
    (hs2 : starEach [(.Call (.Name "reversed" p2) [a] [] pos2 : Expr)] X.env = (false, eval (.Call (.Name "reversed" p2) [a] [] pos2) X.env) :: starEach [] X.env := by rfl) :
    EOk X (.Call (.Name "list" p) [.Call (.Name "reversed" p2) [a] [] pos2] [] pos) (eUn fRev ca) :=
  eok_un (fun te h => pe_listRev hc hg hm hg2 hm2 h hs hs2) op1_lrev ha
end
end VL

set_option Elab.async false
set_option linter.all false
set_option maxRecDepth 100000
set_option maxHeartbeats 4000000
/-! VE1: super().__init__(text) in an error class that stands (by another own class) over ValueError. -/
namespace PySem
namespace VEX
open ESX
/-- ValueError.__init__, bound -/
abbrev wrapV (x : Addr) : Obj := { cls := .type "method-wrapper", dict := none, data := .fields #[.builtin "ValueError.__init__", .ref x], slots := #[] }
theorem ty_vi : typeOf (.builtin "ValueError.__init__") = pure (.type "wrapper_descriptor") := by
  show builtinType _ = _
  rw [builtinType_eq_fast]; kernel_rfl
theorem nacV : (kfb_private% "nameAndClass") (Value.builtin "ValueError.__init__") = (pure (("__init__" : Str), Value.type "ValueError") : Sem (Str × Value)) := by kernel_rfl
section
open PySem.W
variable {prog : Program} {w : World} {M : Model} {A : Around} {E : Value → Shared → Prop}
variable {h : Heap} {g : Array GenState} {d : Drawn} {t : Nat} {os : OsState}
theorem run_wdV {x C : Addr} {P : Fin → Shared → Prop} (hin : W.Looks M h (isInstance (.ref x) (.type "ValueError")) true)
    (hq : P (.done (.ret (.ref h.objs.size))) ⟨h.push (wrapV x), g, d, t, os⟩) :
    wpAny M A (Builtin.«wrapper_descriptor.__get__» ⟨[.builtin "ValueError.__init__", .ref x, .ref C], []⟩) P E ⟨h, g, d, t, os⟩ := by
  unfold Builtin.«wrapper_descriptor.__get__»
  refine wpAny_bind (wpAny_of_eq (a := (.builtin "ValueError.__init__", some (.ref x), some (.ref C))) (by first | rfl | kernel_rfl) ?_)
  show wpAny M A ((kfb_private% "checkInstance") (.builtin "ValueError.__init__") (.ref x) >>= fun _ => newFields "method-wrapper" [.builtin "ValueError.__init__", .ref x] >>= fun r => ret r) P E _
  refine wpAny_bind ?_
  show wpAny M A ((kfb_private% "nameAndClass") (.builtin "ValueError.__init__") >>= _) _ E _
  refine wpAny_bind (wpAny_of_eq nacV ?_)
  show wpAny M A (isInstance (.ref x) (.type "ValueError") >>= _) _ E _
  exact wpAny_bind (hin.at (KFB.if_not rfl (wpAny_pure (wpAny_bind (wpAny_newObj_type (wpAny_pure hq))))))
/-- the super object at so: of the class D, for x, whose class is C -/
abbrev supO (D x C : Addr) : Obj := { cls := .type "super", dict := none, data := .fields #[.ref D, .ref x, .ref C], slots := #[] }
theorem super_gaV {so D x C : Addr} {l₀ l : List Value} {K : Frag} {name : Str} {tk : Tok} {Q : Fin → Shared → Prop}
    (hso : h.get? so = some (supO D x C)) (hno : W.Looks (model prog w) h (opaqueClassAbove (.ref C)) none)
    (hC : W.Looks (model prog w) h (mroOf (.ref C)) l₀) (hl : (l₀.dropWhile (· != .ref D)).drop 1 = l) (X : K.In h)
    (hf : alongIn K name l = some (some (.builtin "ValueError.__init__"))) (hxC : x ≠ C) (hn : (name == ("__class__" : Str)) = false)
    (hin : W.Looks (model prog w) h (isInstance (.ref x) (.type "ValueError")) true) (hq : Q (.done (.ret (.ref h.objs.size))) ⟨h.push (wrapV x), g, d, t, os⟩) :
    wpAny (model prog w) A (Builtin.«super.__getattribute__» ⟨[.ref so, .str name tk], []⟩) Q E ⟨h, g, d, t, os⟩ := by
  have hlk := slot_wd.lookup
  have hTf := ty_vi
  have hne : (Value.ref x == Value.ref C) = false := by simp [hxC]
  have hTi : Shared.TypeIs ⟨h, g, d, t, os⟩ (.builtin "ValueError.__init__") "wrapper_descriptor" := ty_vi
  have hdt : (supO D x C).data = .fields #[.ref D, .ref x, .ref C] := rfl
  have f0 : (#[.ref D, .ref x, .ref C] : Array Value)[0]? = some (.ref D) := rfl
  have f1 : (#[.ref D, .ref x, .ref C] : Array Value)[1]? = some (.ref x) := rfl
  have f2 : (#[.ref D, .ref x, .ref C] : Array Value)[2]? = some (.ref C) := rfl
  unfold Builtin.«super.__getattribute__»
  repeat (first
    | (with_reducible refine wpAny_field hso hdt f0 ?_) | (with_reducible refine wpAny_field hso hdt f1 ?_)
    | (with_reducible refine wpAny_field hso hdt f2 ?_)
    | (with_reducible refine ks_wpAny_notOpaque hno ?_) | (with_reducible refine Looks.at hC ?_; rw [hl])
    | (refine ks_forIn_along X (fun _ _ => rfl) rfl ?_ hf) | (with_reducible refine wpAny_call_entry slot_wd hTi entry_wd ?_ (args_wd _ _ _))
    | (with_reducible refine run_wdV hin ?_) | (with_reducible refine ⟨_, rfl, ?_⟩)
    | (simp only [hn, hne, Bool.or_false, Bool.false_eq_true, if_false]) | wp_step | dsimp only)
  all_goals exact hq
theorem getMethod_supV {so D x C : Addr} {l₀ l : List Value} {K : Frag} {name : Str} {pl : Sem Bool} {Q : Value × List Value → Shared → Prop}
    (hso : h.get? so = some (supO D x C)) (hno : W.Looks (model prog w) h (opaqueClassAbove (.ref C)) none)
    (hC : W.Looks (model prog w) h (mroOf (.ref C)) l₀) (hl : (l₀.dropWhile (· != .ref D)).drop 1 = l) (X : K.In h)
    (hf : alongIn K name l = some (some (.builtin "ValueError.__init__"))) (hxC : x ≠ C) (hn : (name == ("__class__" : Str)) = false)
    (hin : W.Looks (model prog w) h (isInstance (.ref x) (.type "ValueError")) true) (hq : Q (.ref h.objs.size, []) ⟨h.push (wrapV x), g, d, t + 1, os⟩) :
    wpAny (model prog w) A (getMethod (.ref so) name pl) Q E ⟨h, g, d, t, os⟩ := by
  have slotH := F.ks_slot_super_ga
  have hT : ∀ t', (⟨h, g, d, t', os⟩ : Shared).TypeIs (.ref so) "super" := fun _ => ⟨_, hso, rfl⟩
  unfold getMethod
  refine wpAny_bind (wpAny_specialOf (hT _) slotH.lookup ?_)
  show wpAny _ _ (if (Manifest.canonical "super.__getattribute__" != "object.__getattribute__") = true then _ else _) _ _ _
  rw [if_pos F.ks_canon_super_ga]
  unfold getAttr getAttrBy
  refine wpAny_bind (wpAny_bind (wpAny_mkText (wpAny_holding (wpAny_bind (wpAny_typeOf (hT _) (wpAny_bind (wpAny_of_eq slotH.lookup ?_)))))))
  show wpAny _ _ (getAttrByItsOwn (.ref so) (.str name t) (.type "super") (.builtin "super.__getattribute__") true false) _ _ _
  unfold getAttrByItsOwn hookBefore callGetattribute boundAndCalled
  refine wpAny_bind (wpAny_of_eq (show (if onTheHeap (.type "super") then typeLookup (.type "super") "__getattr__" else pure none) = pure none from rfl) ?_)
  refine wpAny_bind (wpAny_attempt (wpAny_holding ?_))
  show wpAny _ _ (bindSpecial (.builtin "super.__getattribute__") (.ref so) >>= _) _ _ _
  refine wpAny_bind (wpAny_of_eq (slotH.bind _) (wpAny_mono (Q := fun v s' => v = .ref h.objs.size ∧ s' = ⟨h.push (wrapV x), g, d, t + 1, os⟩) (E := fun _ _ => False)
    (wpAny_call_entry slotH (hT _) F.ks_entry_super_ga (super_gaV hso hno hC hl X hf hxC hn hin ⟨_, rfl, rfl, rfl⟩) (F.ks_gaArgs_super _ _)) (fun v s' hv => ?_) fun _ _ z => z.elim))
  obtain ⟨rfl, rfl⟩ := hv
  exact wpAny_pure (wpAny_pure hq)
end
section
open PySem.W PySem.Calls PyProof.Rows
variable {prog : Program} {w : World} {M : Model} {A : Around} {E : Value → Shared → Prop} {s : Shared}
theorem callWith_wrapV {pos : Pos} {u x : Addr} {first : List Value} {args : List (Bool × Sem Value)} {Q : Value → Shared → Prop} (hplain : args.any (·.1) = false)
    (h : wpAny M A (evalArgs (.ref u) true args []) (fun a s₁ => s₁.heap.get? u = some (wrapV x) ∧ wpAny M A (call (.ref u) (first ++ a.pos) a.kw) Q E s₁) E s) :
    wpAny M A (callWith pos (.ref u) first args []) Q E s := by
  unfold callWith
  refine wpAny_bind (wpAny_holding (wpAny_mono h (fun a s₁ ⟨ho, hcall⟩ => wpAny_bind (wpAny_standAt ?_)) fun _ _ x => x))
  simp only [hplain, List.any_nil, Bool.or_false]
  refine wpAny_bind (m := keeperOf (.ref u)) ?_
  unfold keeperOf
  refine wpAny_bind (wpAny_load ho ?_)
  have m1 : (Value.type "method-wrapper" != Value.type "method") = true := by decide
  have m2 : (Value.type "method-wrapper" == Value.type "builtin_function_or_method" || Value.type "method-wrapper" == Value.type "method-wrapper") = true := by decide
  simp only [wrapV, m1, m2, if_true]
  refine wpAny_pure (wpAny_bind (wpAny_mono hcall (fun r s₂ hr => wpAny_bind (wpAny_holding (wpAny_point (wpAny_pure hr)))) fun _ _ x => x))
end
section
variable {prog : Program} {w : World} {A : Around} {E : Value → Shared → Prop} {h : Heap} {g : Array GenState} {d : Drawn} {t : Nat} {os : OsState}
variable {nm q : Str} {C N : Addr} {bs bm : List Value} {hdct : Bool} {sn : List Str} {sub : List Value} {ab : Bool} {col : Option Bool} {dd : Option Addr} {k0 k1 k2 k3 k5 : Option Value}
/-- the wrapper called: its instance's args are set -/
theorem call_wrapV {u e t0 : Addr} {rest : List Value} {Q : Value → Shared → Prop}
    (hC : h.get? C = some (excClassObj nm q C N bs bm hdct sn sub ab col dd k0 k1 k2 k3 k5 "ValueError.__new__")) (he : h.get? e = some (HandSPX.excO C t0)) (hu : h.get? u = some (wrapV e)) (hrest : rest.length ≤ sizeLine)
    (hq : ∀ h' t1, (∀ b o, b ≠ e → h.get? b = some o → h'.get? b = some o) → h'.get? e = some (HandSPX.excO C t1) → Q .none ⟨h', g, d, t, os⟩) :
    wpAny (model prog w) A (call (.ref u) rest) Q E ⟨h, g, d, t, os⟩ := by
  refine wpAny_call (codeAny_of_tree ?_)
  show wpAny _ A.in1 (callAny (.ref u) ⟨rest, []⟩) _ _ _
  simp only [callAny]
  refine wpAny_bind (wpAny_load hu ?_)
  have m1 : (Value.type "method-wrapper" == Value.type "method" || Value.type "method-wrapper" == Value.type "builtin_function_or_method" || Value.type "method-wrapper" == Value.type "method-wrapper") = true := by decide
  simp only [wrapV, m1, if_true]
  refine W.KFB.if_so (by decide) ?_
  refine wpAny_bind (ESX.check_bound F.excBase_ValueError hC he rfl ?_)
  refine wpAny_bind (wpAny_pure (wpAny_pure ⟨Code.quiet_builtin _ (by decide +kernel), codeAny_builtin F.excBase_ValueError.initEntry ?_⟩))
  rw [Around.under_plainId F.excBase_ValueError.init.plain _]
  wp_walk
  refine hq _ h.objs.size (fun b o hb ho => (Heap.get?_update_other _ _ (Ne.symm hb)).trans (Heap.get?_push_of_some _ ho)) ?_
  exact (Heap.get?_update_self _ (Heap.get?_push_of_some _ he) rfl).trans rfl
end
end VEX
end PySem

set_option Elab.async false
set_option linter.all false
set_option maxRecDepth 100000
set_option maxHeartbeats 4000000
/-! VE2: try with several clauses «except C as n». -/
namespace VL
open PySem PySem.Spec PyProof.Rows L2
/-- the end of a suite takes its name away -/
def gone (i : Nat) (D : Ends) : Ends := { nx := fun σ H => D.nx (σ.set i none) H, rt := D.rt, bk := fun σ H => D.bk (σ.set i none) H, ct := fun σ H => D.ct (σ.set i none) H }
abbrev Cl := Value × Nat × (Addr → Value → Option Addr → TS)
/-- what the clauses wish of an exception of the body, one after the other -/
def wCls (K : Frag) (Wout : WX) (D : Ends) : List Cl → WX
  | [] => Wout
  | (c, i, ts) :: r => fun cls d σ H => ∃ b, PySem.W.exmOne K cls c = some b ∧ (b = true → ∀ a, H a = none → ts a cls d (gone i D) (σ.set i (some (.ref a))) H) ∧ (b = false → wCls K Wout D r cls d σ H)
inductive ClsOk (X : Cx) : List ExceptHandler → List Cl → Prop
  | nil : ClsOk X [] []
  | cons {x n : Str} {c : Value} {i : Nat} {ts : Addr → Value → Option Addr → TS} {b₀ : Stmt} {suite : List Stmt} {np pos' : Pos} {hds : List ExceptHandler} {l : List Cl} (hi : X.N[i]? = some n) (hln : X.env.kindOf n = some .local) (hc : Names X x c)
      (hsu : ∀ (a : Addr) (oe : Obj) (cls : Value) (d : Option Addr) (pn : List (Addr × Obj)), Zc cls d oe → (∃ vs, oe.data = .fields vs) → PSs (X.suite a ((a, oe) :: pn)) (b₀ :: suite) (ts a cls d)) (r : ClsOk X hds l) :
      ClsOk X (.ExceptHandler (some (.Name x np)) (some n) (b₀ :: suite) pos' :: hds) ((c, i, ts) :: l)
section
variable {X : Cx} {body : List Stmt} {h₀ : ExceptHandler} {hds : List ExceptHandler} {l : List Cl} {pos : Pos} {tb : WX → TS} {Wout : WX}
theorem ps_try_cls (hs : X.stack = X.env :: X.outer) (hf : X.env.frame = some X.env.locals) (hN : X.N.Nodup) (tk : Takes X Wout)
    (hb : ∀ (W : WX) (pn : List (Addr × Obj)) (xe : Value → Shared → Prop), Takes (X.tr pn xe) W → PassesOwn (model X.prog X.w) X.A X.env xe → PSs (X.tr pn xe) body (tb W)) (hh : ClsOk X (h₀ :: hds) l) :
    PS X (.Try body (h₀ :: hds) [] [] pos) (fun D σ H => tb (wCls X.K Wout D l) D σ H) := by
  refine ⟨fun pins s σ H D I h => wpAny_Try_except ?_⟩
  have ok := I.ok
  have hfr : X.A.frames = some (X.env :: X.outer) := by
    rw [ok.frames, hs]
  let xe' : Value → Shared → Prop := fun e s₁ => wpAny (model X.prog X.w) X.A (noteFrame e X.env) (fun _ s₂ => wpAny (model X.prog X.w) X.A (setFlight e none) (fun _ s₃ => wpAny (model X.prog X.w) X.A (handleBy e X.env (h₀ :: hds)) (SP X pins D) X.xe s₃) X.xe s₂) X.xe s₁
  refine wpAny_mono ((hb (wCls X.K Wout D l) (X.pn ++ pins) xe' (fun u s' xx => ?_) PassesOwn.looking).run [] s σ H D (I.toTry _) h) (fun f s1 hsp => ?_) (fun e s1 he => he)
  · obtain ⟨a, B, sI, pins', σ', H', cls, d, rfl, J', nb, up, sky, na, os, ag, w⟩ := xx
    have J : Inv X pins σ' H' sI := J'.ofTry ok
    rw [hs] at sky
    show wpAny (model X.prog X.w) X.A (noteFrame (.ref a) X.env) _ _ _
    refine Sky.land Zc.steady hfr hf sky fun h3 fl3 up3 => ?_
    have J3 : Inv X pins σ' H' { s' with heap := h3 } := J.landed nb fl3.1 (up.trans up3) os ag
    obtain ⟨oe3, vs3, he3, hz3, hd3⟩ := fl3.there
    have nfr : a ∉ frs (X.env :: X.outer) := fun hm => by
      obtain ⟨_, o', e', hnf⟩ := fl3.2.2.1.mem hm
      rw [he3] at e'
      cases e'
      exact hnf _ hd3
    have nL : a ≠ X.env.locals := fun z => nfr (List.mem_filterMap.mpr ⟨X.env, by simp, by rw [hf, z]⟩)
    have nF : a ∉ X.fs := fun hm => nfr (by
      obtain ⟨e, he, q⟩ := List.mem_filterMap.mp hm
      exact List.mem_filterMap.mpr ⟨e, List.mem_cons_of_mem _ he, q⟩)
    have S3 := J3.suite he3 hd3 na nL nF
    suffices go : ∀ {hds' : List ExceptHandler} {l' : List Cl}, ClsOk X hds' l' → wCls X.K Wout D l' cls d σ' H' → wpAny (model X.prog X.w) X.A (handleBy (.ref a) X.env hds') (SP X pins D) X.xe { s' with heap := h3 } from go hh w
    intro hds' l' hk
    induction hk with
    | nil =>
      intro w
      refine wpAny_handleBy_nil ?_
      obtain ⟨_, _, _, oe, vs, T, oT, ts', he, hz, hd, h1, hr⟩ := id fl3
      unfold PySem.passOn
      have fin : wpAny (model X.prog X.w) X.A (setFlight (.ref a) X.env.frame) (fun _ s4 => wpAny (model X.prog X.w) X.A (throw (.ref a) : Sem Flow) (SP X pins D) X.xe s4) X.xe { s' with heap := h3 } := by
        rw [hf]
        exact HandSPX.setFlight_upZ fl3 fun h4 hh4 up4 => wpAny_throw (tk _ _ ⟨a, B, sI, pins, σ', H', cls, d, rfl, J, nb, (up.trans up3).trans up4, .inr (.inr (by rw [hs]; exact hh4)), na, os, ag, w⟩)
      refine wpAny_bind (wpAny_field he hd h1 ?_)
      rw [if_neg (show ¬ ((Value.ref T == Value.none) = true) by simp)]
      first | exact wpAny_bind (wpAny_pure (wpAny_bind fin)) | exact wpAny_bind fin
    | @cons x n c i ts b₀ suite np pos' hds2 l2 hi hln hc hsu r ih =>
      rintro ⟨b, hb1, hyes, hno⟩
      refine wpAny_handleBy_cons (codeAny_handlers_test ?_) (by intro q; cases q)
      have LT : PySem.W.Looks (model X.prog X.w) h3 (typeOf (.ref a)) cls := fun A Q E s k q => wpAny_typeOf_ref (k _ _ he3) (by
        rw [hz3.1]; exact q)
      have LM := PySem.W.exm_one (M := model X.prog X.w) (J3.kIn) LT hb1
      have test : ∀ {Q E : Value → Shared → Prop}, Q c { s' with heap := h3 } → wpAny (model X.prog X.w) (X.A.mark (some (.ref a))) (eval (.Name x np) X.env) Q E { s' with heap := h3 } := fun {Q E} q => by
        obtain ⟨hg, hdbg, hm | ⟨hm, hv, hnn⟩⟩ := hc
        · exact ld_glob (X := X.suite a ((a, oe3) :: (X.pn ++ pins))) S3 hg hm q hdbg
        · exact ld_blt (X := X.suite a ((a, oe3) :: (X.pn ++ pins))) S3 hg hm hv q hnn hdbg
      refine test (LM.here ?_)
      cases b with
      | false => exact ih (hno rfl)
      | true =>
        refine codeAny_handlers_suite_as (HandSPX.lands_againZ fl3 fun h4 fl4 up4 => ?_)
        have J4 : Inv X pins σ' H' { s' with heap := h4 } := J.landed nb fl4.1 ((up.trans up3).trans up4) os ag
        obtain ⟨oe4, vs4, he4, hz4, hd4⟩ := fl4.there
        have S4 := J4.suite he4 hd4 na nL nF
        refine store_ok (X := X.suite a ((a, oe4) :: (X.pn ++ pins))) (v := .ref a) S4 hN hi (.inl hln) rfl (fun s5 S5 => ?_) (.inr hln)
        refine wpAny_mono ((hsu a oe4 cls d (X.pn ++ pins) hz4 ⟨_, hd4⟩).run [] s5 _ H' _ S5 (hyes rfl a na)) (fun f s6 hsp => ?_) (fun _ _ z => z.elim)
        have fini : ∀ {σ6 : S} {H6 : Hp} {Q : Shared → Prop}, Inv (X.suite a ((a, oe4) :: (X.pn ++ pins))) [] σ6 H6 s6 → (∀ s7, Inv X pins (σ6.set i none) H6 s7 → Q s7) →
            wpAny (model X.prog X.w) X.A (do bindName X.env n .none; unbindBehindTheSuite X.env n pos') (fun _ s7 => Q s7) X.xe s6 := fun S6 hq => gone_ok (S6.unsuite ok) hN hi hln hq
        cases f with
        | ret u => obtain ⟨v6, σ6, H6, S6, r6, q6⟩ := hsp; exact fini S6 fun s7 J7 => ⟨_, _, _, J7, r6, q6⟩
        | _ => obtain ⟨σ6, H6, S6, q6⟩ := hsp; exact fini S6 fun s7 J7 => ⟨_, _, J7, q6⟩
  · cases f with
    | next => obtain ⟨σ', H', J', q⟩ := hsp; exact wpAny_execs_nil ⟨σ', H', J'.ofTry ok, q⟩
    | ret u => obtain ⟨v, σ', H', J', r, q⟩ := hsp; exact ⟨v, σ', H', J'.ofTry ok, r, q⟩
    | _ => obtain ⟨σ', H', J', q⟩ := hsp; exact ⟨σ', H', J'.ofTry ok, q⟩
end
end VL

set_option Elab.async false
set_option linter.all false
set_option maxRecDepth 100000
set_option maxHeartbeats 4000000
/-! VE3: in a suite: isinstance(e, C) for a caught error that has fields. -/
namespace VL
open PySem PySem.Spec PyProof.Rows L2
/-- isinstance(e, c); e: the caught exception at a, of the class D, its dict at dd -/
def rIsD (K : Frag) (D a dd : Addr) : List V → Hp → VK → Prop := fun xs H Q => ∃ (c : V) (cv : Value) (b : Bool) (fs : List (Str × V)), xs = [.ref a, c] ∧ H dd = some (.xd fs) ∧ (∀ u, RelV c u → u = cv) ∧ PySem.W.kitOne K (.ref D) cv = some b ∧ Q (.bl b) H
theorem call_isD {X : Cx} {a D dd : Addr} {oe : Obj} {pn : List (Addr × Obj)} (C : ExcC X.K D) (hz : Zc (.ref D) (some dd) oe) (hf : ∃ vs, oe.data = .fields vs) : CallR (X.suite a ((a, oe) :: pn)) (.builtin "isinstance") (rIsD X.K D a dd) := by
  rintro pins s σ H xs us Q I r ⟨c, cv, b, fs, rfl, ed, hcv, e, q⟩
  match us, r with
  | [u1, u2], .cons rx (.cons rt .nil) =>
    obtain rfl : u1 = Value.ref a := rx
    obtain rfl := hcv _ rt
    have hget := (I.pin (a, oe) (List.mem_append_left _ List.mem_cons_self)).1
    obtain ⟨vs, hv⟩ := hf
    have hx : ObjOk X.prog X.w H s.heap dd (.xd fs) := I.hok dd _ ed
    obtain ⟨mA, hns, _⟩ := hx
    obtain ⟨od, ho, _⟩ := lookIn_ns hns
    have J : PySem.W.InstAt s.heap a oe D (some od) := ⟨hget, hz.1, by unfold PySem.W.notCls; rw [hv] <;> rfl, by rw [hz.2]; exact ho⟩
    have hcl : (PySem.W.clsIn X.K D).isSome = true := by
      obtain ⟨cd, hc, _⟩ := PySem.W.any_some C.hd
      rw [hc]; rfl
    exact PySem.W.kia_one (PySem.W.kitx_exc hcl C.hg C.hk C.hs C.ha C.hn C.ht C.hm) I.kIn J e (fun z => nomatch z) fun tk => ⟨.bl b, H, I.kept (t' := tk) fun _ _ z => z, rfl, q⟩
end VL

set_option Elab.async false
set_option linter.all false
set_option maxRecDepth 100000
set_option maxHeartbeats 4000000
/-! VE4: what a suite «except C as e» answers, when it answers by a row of plain values told of e. -/
namespace VL
open PySem PySem.Spec PyProof.Rows L2
/-- slot i holds the caught exception a; its dict, at dd, holds fs -/
def Hst (a dd : Addr) (i : Nat) (fs : List (Str × V)) (σ : S) (H : Hp) : Prop := σ[i]? = some (some (.ref a)) ∧ H dd = some (.xd fs)
/-- there e is v, and nothing else happens -/
def HE (X : Cx) (a dd : Addr) (i : Nat) (fs : List (Str × V)) (e : Expr) (v : V) : Prop := PE X e fun σ H Q => Hst a dd i fs σ H ∧ Q v H
def HA (X : Cx) (a dd : Addr) (i : Nat) (fs : List (Str × V)) (es : List Expr) (vs : List V) : Prop := PA X es fun σ H Q => Hst a dd i fs σ H ∧ Q vs H
section
variable {X : Cx} {a dd : Addr} {i : Nat} {fs : List (Str × V)} {e b : Expr} {es rest : List Expr} {v u : V} {vs : List V} {pos : Pos}
theorem he_k (h : PE X e (tC v)) : HE X a dd i fs e v := pe_mono h fun _ _ _ q => q.2
theorem he_var {n : Str} (hN : X.N[i]? = some n) (hv : Vis X.env.scope n) (hd : (n == ("__debug__" : Str)) = false := by decide) (hcd : (n == ("__classdict__" : Str)) = false := by decide) : HE X a dd i fs (.Name n pos) (.ref a) := pe_mono (pe_var hN hv hd hcd) fun _ _ _ q => ⟨_, q.1.1, q.2⟩
theorem he_not {c : Bool} (h : HE X a dd i fs e (.bl c)) : HE X a dd i fs (.UnaryOp .Not e pos) (.bl (!c)) := pe_mono (pe_not h) fun _ _ _ q => ⟨q.1, c, rfl, q.2⟩
theorem he_one {op} (h : HE X a dd i fs e v) : HE X a dd i fs (.BoolOp op [e] pos) v := pe_one h
theorem he_and {c c' : Bool} (h : HE X a dd i fs e (.bl c)) (h' : HE X a dd i fs (.BoolOp .And (b :: rest) pos) (.bl c')) : HE X a dd i fs (.BoolOp .And (e :: b :: rest) pos) (.bl (c && c')) := pe_mono (pe_and h h') fun σ H Q q => by
  refine ⟨q.1, c, rfl, ?_⟩
  cases c with
  | false => simpa using q.2
  | true => exact ⟨q.1, by simpa using q.2⟩
theorem ha_nil : HA X a dd i fs [] [] := pa_mono pa_nil fun _ _ _ q => q.2
theorem ha_cons (h : HE X a dd i fs e v) (r : HA X a dd i fs es vs) (hs : starEach (e :: es) X.env = (false, eval e X.env) :: starEach es X.env := by rfl) : HA X a dd i fs (e :: es) (v :: vs) := pa_mono (pa_cons h r hs) fun _ _ _ q => ⟨q.1, q.1, q.2⟩
/-- return (e, ..) -/
theorem hs_ret {x1 : Nat} {p2 : Pos} (h : HA X a dd i fs es vs) (hl : vs.length ≤ 1000) : PS X (.Return (some (.Tuple es x1 p2)) pos) fun D σ H => Hst a dd i fs σ H ∧ ∀ p, H p = none → D.rt (.ref p) (upd H p (.tup vs)) :=
  ps_mono (ps_ret (pe_tup h)) fun D σ H q => ⟨q.1, by rw [sizeLine_eq]; omega, q.2⟩
end
section
variable {X : Cx} {a dd C : Addr} {oe : Obj} {pn : List (Addr × Obj)} {i : Nat} {fs : List (Str × V)} {e b : Expr} {pos p : Pos}
/-- e.f -/
theorem he_fld {n : Str} {v : V} (T : XfC X.K C) (hno : PySem.W.findIn X.K (.ref C) n = some none) (hz : Zc (.ref C) (some dd) oe) (hf : ∃ vs, oe.data = .fields vs) (he : HE (X.suite a ((a, oe) :: pn)) a dd i fs e (.ref a)) (hl : fs.lookup n = some v)
    (hb : attributeBase e n X.env (eval e X.env) = eval e X.env := by rfl) : HE (X.suite a ((a, oe) :: pn)) a dd i fs (.Attribute e n pos) v :=
  pe_mono (pe_xf T hno hz hf he hb) fun _ _ _ q => ⟨q.1, rfl, rfl, dd, fs, v, rfl, q.1.2, hl, q.2⟩
/-- isinstance(e, c) -/
theorem he_isD {cv : V} {cu : Value} {k : Bool} (T : ExcC X.K C) (hz : Zc (.ref C) (some dd) oe) (hf : ∃ vs, oe.data = .fields vs) (hm : X.mg "isinstance" = none) (he : HE (X.suite a ((a, oe) :: pn)) a dd i fs e (.ref a)) (hc : PE (X.suite a ((a, oe) :: pn)) b (tC cv)) (hu : ∀ u, RelV cv u → u = cu)
    (hk : PySem.W.kitOne X.K (.ref C) cu = some k) (hg : Gl X "isinstance" := by rfl) (hs : starEach [e, b] X.env = (false, eval e X.env) :: starEach [b] X.env := by rfl) (hs2 : starEach [b] X.env = (false, eval b X.env) :: starEach [] X.env := by rfl)
    (hpl : (backTo pos (starEach [b] X.env)).any (·.1) = false := by rfl) : HE (X.suite a ((a, oe) :: pn)) a dd i fs (.Call (.Name "isinstance" p) [e, b] [] pos) (.bl k) :=
  pe_mono (pe_callB (X := X.suite a ((a, oe) :: pn)) (call_isD T hz hf) hg hm bt_isinstance (pa_cons he (pa_cons hc pa_nil hs2) hs) (by decide) (by decide) hs hpl) fun σ H Q q => ⟨q.1, cv, cu, k, fs, rfl, q.1.2, hu, hk, q.2⟩
end
end VL

set_option Elab.async false
set_option linter.all false
set_option maxRecDepth 100000
set_option maxHeartbeats 4000000
/-! VE5: try .. except C as e: return (..), as a combinator. -/
namespace VL
open PySem PySem.Spec PyProof.Rows L2
/-- a clause: its class, its name's slot, what it returns -/
structure HCl where
  cls : Str
  slot : Nat
  ret : Exn → Option (List D)
def hRun (sub : Str → Str → Option Bool) : List HCl → Exn → SC
  | [], x, ρ => .err x ρ
  | c :: r, x, ρ => match sub x.cls c.cls with
    | some true => match c.ret x with
      | some ds => if ds.all scal = true ∧ ds.length ≤ 1000 ∧ x.fs ≠ [] ∧ c.slot < ρ.length then .ret (.fz (.tuple ds)) else .stuck
      | none => .stuck
    | some false => hRun sub r x ρ
    | none => .stuck
def sTry (sub : Str → Str → Option Bool) (b : SC) (cl : List HCl) : SC := fun ρ => match b ρ with
  | .err x ρ' => hRun sub cl x ρ'
  | r => r
def FsR (fs : List (Str × V)) (gs : List (Str × D)) : Prop := ∀ f d, gs.lookup f = some d → scal d = true → fs.lookup f = some (vOf d)
theorem FsOk.fsR {K : Frag} {F : Hp} : ∀ {fs : List (Str × V)} {gs : List (Str × D)}, FsOk K F fs gs → FsR fs gs
  | [], _, .nil, _, _, h, _ => by cases h
  | p :: fs, q :: gs, .cons ⟨h1, h2⟩ r, f, d, h, s => by
    obtain ⟨n, v⟩ := p
    obtain ⟨m, g⟩ := q
    cases h1
    simp only [List.lookup_cons] at h ⊢
    cases e : f == n with
    | true =>
      rw [e] at h
      cases h
      have h3 : v = vOf d := Rp.scal_eq h2 s
      rw [h3]
    | false =>
      rw [e] at h
      exact FsOk.fsR r f d h s
/-- the suite returns what the clause says, for every exception that may come there -/
def tsOf (K : Frag) (mg : Str → Option Value) (sub : Str → Str → Option Bool) (c : HCl) (a : Addr) (cls : Value) (d : Option Addr) : TS := fun D σ H => ∃ (C dd : Addr) (fs : List (Str × V)) (x : Exn) (ds : List PyData),
  cls = .ref C ∧ mg x.cls = some (.ref C) ∧ d = some dd ∧ FsR fs x.fs ∧ sub x.cls c.cls = some true ∧ c.ret x = some ds ∧ ds.all scal = true ∧ ds.length ≤ 1000 ∧ Hst a dd c.slot fs σ H ∧ ∀ p, H p = none → D.rt (.ref p) (upd H p (.tup (ds.map vOf)))
def HClOk (X : Cx) (sub : Str → Str → Option Bool) (c : HCl) (suite : List Stmt) : Prop := ∀ (a dd C : Addr) (oe : Obj) (pn : List (Addr × Obj)) (x : Exn) (fs : List (Str × V)) (ds : List D), X.mg x.cls = some (.ref C) → Zc (.ref C) (some dd) oe → (∃ vs, oe.data = .fields vs) → FsR fs x.fs →
  sub x.cls c.cls = some true → c.ret x = some ds → ds.all scal = true → ds.length ≤ 1000 → PSs (X.suite a ((a, oe) :: pn)) suite fun D σ H => Hst a dd c.slot fs σ H ∧ ∀ p, H p = none → D.rt (.ref p) (upd H p (.tup (ds.map vOf)))
theorem hcl_ts {X : Cx} {sub : Str → Str → Option Bool} {c : HCl} {suite : List Stmt} (h : HClOk X sub c suite) (a : Addr) (oe : Obj) (cls : Value) (d : Option Addr) (pn : List (Addr × Obj)) (hz : Zc cls d oe) (hf : ∃ vs, oe.data = .fields vs) :
    PSs (X.suite a ((a, oe) :: pn)) suite (tsOf X.K X.mg sub c a cls d) := by
  refine ⟨fun pins s σ H D I q => ?_⟩
  obtain ⟨C, dd, fs, x, ds, rfl, q1, rfl, q2, q3, q4, q5, q6, q7⟩ := q
  exact (h a dd C oe pn x fs ds q1 hz hf q2 q3 q4 q5 q6).run pins s σ H D I q7
inductive HClsOk (X : Cx) (sub : Str → Str → Option Bool) : List ExceptHandler → List HCl → List Cl → Prop
  | nil : HClsOk X sub [] [] []
  | cons {x n : Str} {Cc : Addr} {c : HCl} {b₀ : Stmt} {suite : List Stmt} {np pos' : Pos} {hds : List ExceptHandler} {cl : List HCl} {l : List Cl} (hi : X.N[c.slot]? = some n) (hln : X.env.kindOf n = some .local) (hc : Names X x (.ref Cc))
      (hx : ∀ xc C k, sub xc c.cls = some k → X.mg xc = some (.ref C) → PySem.W.exmOne X.K (.ref C) (.ref Cc) = some k) (hsu : HClOk X sub c (b₀ :: suite)) (r : HClsOk X sub hds cl l) :
      HClsOk X sub (.ExceptHandler (some (.Name x np)) (some n) (b₀ :: suite) pos' :: hds) (c :: cl) ((.ref Cc, c.slot, tsOf X.K X.mg sub c) :: l)
theorem HClsOk.clsOk {X : Cx} {sub : Str → Str → Option Bool} : ∀ {hds : List ExceptHandler} {cl : List HCl} {l : List Cl}, HClsOk X sub hds cl l → ClsOk X hds l
  | _, _, _, .nil => .nil
  | _, _, _, .cons hi hln hc hx hsu r => .cons hi hln hc (fun a oe cls d pn hz hf => hcl_ts hsu a oe cls d pn hz hf) r.clsOk
section
variable {X : Cx} {sub : Str → Str → Option Bool} {W : WX} {D : Ends} {H0 F0 : Hp}
theorem hRun_ok {x : Exn} {cls : Value} {d : Option Addr} {σ : S} {H F : Hp} {ρ : Rho} (s : SR X.K H0 F0 σ H F ρ) (xo : XOk X.K X.mg F H cls d x) : ∀ {hds : List ExceptHandler} {cl : List HCl} {l : List Cl}, HClsOk X sub hds cl l → GoodS X.K X.mg H0 F0 W D (hRun sub cl x ρ) → wCls X.K W D l cls d σ H
  | _, _, _, .nil, g => g cls d σ H F s xo
  | _, c :: cl, _, .cons (Cc := Cc) hi hln hc hx hsu r, g => by
    obtain ⟨C, m1, rfl, fsx⟩ := id xo
    unfold hRun at g
    cases es : sub x.cls c.cls with
    | none => rw [es] at g; exact g.elim
    | some k =>
      rw [es] at g
      refine ⟨k, hx _ _ _ es m1, fun hk a ha => ?_, fun hk => ?_⟩
      · subst hk
        simp only at g
        cases er : c.ret x with
        | none => rw [er] at g; exact g.elim
        | some ds =>
          rw [er] at g
          simp only at g
          by_cases hcnd : ds.all scal = true ∧ ds.length ≤ 1000 ∧ x.fs ≠ [] ∧ c.slot < ρ.length
          · rw [if_pos hcnd] at g
            rcases fsx with z | ⟨dd, fs, rfl, hdd, hfs⟩
            · exact absurd z hcnd.2.2.1
            · refine ⟨C, dd, fs, x, ds, rfl, m1, rfl, hfs.fsR, es, er, hcnd.1, hcnd.2.1, ⟨?_, hdd⟩, fun p hp => ?_⟩
              · exact List.getElem?_set_self (by have := s.len; have := hcnd.2.2.2; omega)
              · have o : ORs X.K H F (ds.map vOf) (ds.map Ow.fz) [] := ORs.ofDp (RpAll.scal F hcnd.1)
                obtain ⟨F', C', g', oo, nn⟩ := fin_tup s o hp
                have mk : mkTup (ds.map Ow.fz) = .fz (.tuple ds) := by
                  unfold mkTup
                  rw [if_pos (by rw [List.all_map, List.all_eq_true]; intro _ _; rfl), toDs_fz]
                rw [mk] at oo
                refine g (.ref p) _ F' C' (s.gr.trans g') oo fun c hc => ?_
                rcases nn c hc with rfl | z
                · exact s.gr.hh.none hp
                · cases z
          · rw [if_neg hcnd] at g; exact g.elim
      · subst hk
        exact hRun_ok s xo r g
theorem sok_try {body : List Stmt} {b : SC} {h₀ : ExceptHandler} {hds : List ExceptHandler} {cl : List HCl} {l : List Cl} {pos : Pos} (hs : X.stack = X.env :: X.outer) (hf : X.env.frame = some X.env.locals) (hN : X.N.Nodup)
    (hb : ∀ (pn : List (Addr × Obj)) (xe : Value → Shared → Prop), PassesOwn (model X.prog X.w) X.A X.env xe → BOk (X.tr pn xe) body b) (hh : HClsOk X sub (h₀ :: hds) cl l) : SOk X (.Try body (h₀ :: hds) [] [] pos) (sTry sub b cl) := fun W tk =>
  ps_mono (ps_try_cls (tb := fun W' => rdS X.K X.mg b W') (Wout := W) hs hf hN tk (fun W' pn xe tk' hp => hb pn xe hp W' tk') hh.clsOk) fun D σ H ⟨H0, F0, F, ρ, s, h⟩ => by
    refine ⟨H0, F0, F, ρ, s, ?_⟩
    unfold sTry at h
    cases e : b ρ with
    | err x ρ' =>
      rw [e] at h
      exact fun cls d σ' H' F' s' xo => hRun_ok s' xo hh h
    | _ => rw [e] at h; exact h
end
end VL

set_option Elab.async false
set_option linter.all false
set_option maxRecDepth 100000
set_option maxHeartbeats 4000000
/-! VE6: raise C(e), where C's instances hold their one argument as a field. -/
namespace VL
open PySem PySem.Spec PyProof.Rows L2
def sRaise (x f : Str) (a : EC) : SC := fun ρ => match a ρ with
  | .ok rv => if scal rv.d = true then .err ⟨x, [(f, rv.d)]⟩ ρ else .stuck
  | .err z => .err z ρ
  | .stuck => .stuck
/-- what is wanted of the making of such an error (the call C(e)) -/
def Raiser (X : Cx) (x f : Str) (C : Addr) : Prop := ∃ R : V → Hp → XK → Prop, (∀ v H1 Q, (∀ dd, H1 dd = none → Q (.ref C) (some dd) (upd H1 dd (.xd [(f, v)]))) → R v H1 Q) ∧
  ∀ (e : Expr) (ta : TE) (p pos : Pos), PE X e ta → starEach [e] X.env = (false, eval e X.env) :: starEach [] X.env → (backTo pos (starEach [] X.env)).any (·.1) = false → PMk X (.Call (.Name x p) [e] [] pos) fun σ H Q => ta σ H fun v H1 => R v H1 Q
theorem sok_raise {X : Cx} {x f : Str} {C : Addr} {e : Expr} {ce : EC} {p pos pos' : Pos} (R : Raiser X x f C) (hm : X.mg x = some (.ref C)) (h : EOk X e ce) (hc : X.calm = true := by rfl) (he : starEach [e] X.env = (false, eval e X.env) :: starEach [] X.env := by rfl)
    (hpl : (backTo pos (starEach [] X.env)).any (·.1) = false := by rfl) : SOk X (.Raise (some (.Call (.Name x p) [e] [] pos)) none pos') (sRaise x f ce) := fun W tk => by
  obtain ⟨M, hM, R⟩ := R
  exact ps_mono (ps_raise hc tk (R e _ p pos (h W tk) he hpl)) fun D σ H ⟨H0, F0, F, ρ, s, h⟩ => by
    show rdE X.K X.mg ce W σ H fun v H1 => M v H1 fun cls d H' => W cls d σ H'
    unfold sRaise at h
    cases e1 : ce ρ with
    | stuck => rw [e1] at h; exact h.elim
    | err z => rw [e1] at h; exact rdE_err s e1 fun cls d H' F' g xo => h cls d σ H' F' (s.step g) xo
    | ok rv =>
      rw [e1] at h
      simp only at h
      refine rdE_ok s e1 fun v H1 F1 A g o n => hM v H1 _ fun dd hd => ?_
      by_cases hs : scal rv.d = true
      · rw [if_pos hs] at h
        have s1 := s.step g
        have pv := o.dp s1
        have ev := pv.scal_eq hs
        refine h (.ref C) (some dd) σ _ F1 (s1.step (Gr.laid s1.sub hd)) ⟨C, hm, rfl, .inr ⟨dd, [(f, v)], rfl, upd_same, .cons ⟨rfl, ?_⟩ .nil⟩⟩
        rw [ev]
        exact Rp.scal F1 hs
      · rw [if_neg hs] at h; exact h.elim
end VL

set_option Elab.async false
set_option linter.all false
set_option maxRecDepth 100000
set_option maxHeartbeats 4000000
/-! VE7: the making of an error, from the promise of its __init__. -/
namespace VL
open PySem PySem.Spec PyProof.Rows L2
/-- __init__(self, v): self's dict becomes {f: v} -/
def spI (C : Addr) (f : Str) : Sp := fun vs H Q _ => ∃ (a : Addr) (v : V), vs = [.ref a, v] ∧ H a = some (exo a C none) ∧ ∀ dx, H dx = none → dx ≠ a → Q .non (upd (upd H dx (exd dx [(f, v)])) a (exo a C (some dx)))
theorem raiser_of {X : Cx} {CX : CXT} {x f : Str} {C fI : Addr} {k : Nat} {fd : FuncData} {ps : List Str} (T : OexC X.K C) (iC : PySem.W.findIn X.K (.ref C) "__init__" = some (some (.ref fI))) (tI : PySem.W.typeIn X.K (.ref fI) = some (.type "function"))
    (F1 : FnOk X.prog X.w X.K X.mg X.base CX k fI fd ps (spI C f)) (hr : Room (k + 1) X.A) (hb : Binds X.K fd ps []) (hx : Passes CX X (fun _ _ _ => False)) (hg : Gl X x) (hm : X.mg x = some (.ref C)) (hdb : (x == ("__debug__" : Str)) = false := by decide) : Raiser X x f C := by
  refine ⟨fun v H1 Q => ([v] : List V).length ≤ 1000 ∧ ∀ a, H1 a = none → spI C f (.ref a :: ([v] ++ [])) (upd H1 a (exo a C none))
    (fun v H2 => v = .non ∧ ∃ (d : Addr) (fs : List (Str × V)), H2 a = some (exo a C (some d)) ∧ H2 d = some (exd d fs) ∧ H1 d = none ∧ Q (.ref C) (some d) (upd (del H2 a) d (.xd fs))) (fun _ _ _ => False), fun v H1 Q hv => ?_, fun e ta p pos he hs hpl => pmk_oex (pos := pos) (p := p) T iC tI F1 hr hb .nil hx hg hm (pa_cons he pa_nil hs) hdb hs hpl⟩
  refine ⟨by simp, fun a ha => ⟨a, v, rfl, upd_same, fun dx hdx hne => ?_⟩⟩
  have hd1 : H1 dx = none := by rw [upd_ne hne] at hdx; exact hdx
  refine ⟨rfl, dx, [(f, v)], upd_same, (upd_ne hne).trans upd_same, hd1, ?_⟩
  have e2 : upd (del (upd (upd (upd H1 a (exo a C none)) dx (exd dx [(f, v)])) a (exo a C (some dx))) a) dx (.xd [(f, v)]) = upd H1 dx (.xd [(f, v)]) := by
    funext b
    by_cases h1 : b = dx
    · subst h1; rw [upd_same, upd_same]
    · rw [upd_ne h1, upd_ne h1]
      by_cases h2 : b = a
      · subst h2; rw [del_same, ha]
      · rw [del_ne h2, upd_ne h2, upd_ne h1, upd_ne h2]
  rw [e2]
  exact hv dx hd1
end VL

set_option Elab.async false
set_option linter.all false
set_option maxRecDepth 100000
set_option maxHeartbeats 4000000
/-! VE8: an __init__ that says super().__init__(text) (it closes over __class__) and then sets fields: walked by hand. -/
namespace VL
open PySem PySem.Spec PyProof.Rows L2
/-- the context of such an __init__ -/
def cxI (P : Program) (w : World) (K : Frag) (mg : Str → Option Value) (base : Heap) (N : List Str) (qual : Str) (scope : Scope) (f : Addr) (cd : Value) (cc : Addr) (A : Around) (outer : List Env) (s : Shared) (H : Hp) : Cx where
  prog := P
  w := w
  K := K
  mg := mg
  base := base
  A := A.deeper (PySem.W.ksEnv qual scope s.heap.objs.size f cd cc)
  N := N
  s_0 := s
  H_0 := H
  env := PySem.W.ksEnv qual scope s.heap.objs.size f cd cc
  outer := outer
  stack := PySem.W.ksEnv qual scope s.heap.objs.size f cd cc :: outer
  ex := []
  calm := true
  fn := fun _ => false
  pn := []
  xe := fun _ _ => False
structure InScope (ps : List Str) (sc : Scope) : Prop where
  kind : sc.kind = .function
  co : sc.isCoroutine = false
  gen : sc.isGenerator = false
  nd : ps.Nodup
  ks : sc.names.lookup ("super" : Str) = some .globalImplicit
  kc : sc.names.lookup ("__class__" : Str) = some .free
  par : ∀ x ∈ ps, sc.names.lookup x = some .local
  nocell : ∀ y ∈ sc.names, y.2 ≠ .cell
  free : ∀ y ∈ sc.names, y.2 = .free → y.1 = ("__class__" : Str)
theorem lookup_notin {x : Str} : ∀ {l : List (Str × Value)}, x ∉ l.map Prod.fst → l.lookup x = none
  | [], _ => rfl
  | (n, v) :: r, h => by
    have h1 : x ≠ n := fun e => h (by rw [e]; exact List.mem_cons_self)
    have e : (x == n) = false := by simpa using h1
    rw [List.lookup_cons, e]
    exact lookup_notin fun z => h (List.mem_cons_of_mem _ z)
theorem lookup_rev {x : Str} {u : Value} : ∀ {ps : List Str} {us : List Value} {i : Nat}, ps.Nodup → ps[i]? = some x → us[i]? = some u → (ps.zip us).reverse.lookup x = some u
  | [], _, _, _, h, _ => by simp at h
  | _ :: _, [], _, _, _, h => by simp at h
  | p :: ps, v :: us, 0, nd, h1, h2 => by
    simp at h1 h2; subst h1; subst h2
    rw [List.zip_cons_cons, List.reverse_cons, List.lookup_append]
    have : (ps.zip us).reverse.lookup p = none := lookup_notin fun z => by
      rw [List.map_reverse, List.mem_reverse, List.mem_map] at z
      obtain ⟨⟨a, b⟩, hm, e⟩ := z
      cases e
      exact (List.nodup_cons.mp nd).1 (List.of_mem_zip hm).1
    rw [this]
    simp
  | p :: ps, v :: us, i + 1, nd, h1, h2 => by
    rw [List.zip_cons_cons, List.reverse_cons, List.lookup_append, lookup_rev (i := i) (List.nodup_cons.mp nd).2 (by simpa using h1) (by simpa using h2)]
    rfl
section
variable {P : Program} {w : World} {K : Frag} {mg : Str → Option Value} {base : Heap} {ps : List Str} {qual : Str} {scope : Scope} {f cc C : Addr} {cd : Value} {A : Around} {outer : List Env} {s : Shared} {H : Hp}
theorem inv_startI {us : List Value} {vs : List V} {cl : Value} {cld : Option Addr} {csl : Array (Option Value)} {h1 : Heap} {tk : Nat} (S : InScope ps scope) (hd : A.handled = none) (e0 : Env0 P w K mg base A outer s H)
    (hcell : K.lookup cc = some ⟨cl, cld, .cell (some (.ref C)), csl⟩) (hl : vs.length = ps.length) (r : Vals vs us) (hns : h1.Ns s.heap.objs.size (fun x => (ps.zip us).reverse.lookup x)) (hk : ∀ b o, s.heap.get? b = some o → h1.get? b = some o) :
    Inv (cxI P w K mg base ps qual scope f cd cc A outer s H) [] (vs.map some) H { s with heap := h1, toks := tk } := by
  have noA : ∀ b : Addr, b ∉ (cxI P w K mg base ps qual scope f cd cc A outer s H).ex := fun b z => absurd (show b ∈ ([] : List Addr) from z) (by simp)
  have bc : base.get? cc = some ⟨cl, cld, .cell (some (.ref C)), csl⟩ := e0.mod.kin _ _ hcell
  have sc := (e0.bs _ _ bc).1
  have cell : ∀ (y : Str) (c : Addr), (cxI P w K mg base ps qual scope f cd cc A outer s H).env.cells.lookup y = some c → y = ("__class__" : Str) ∧ c = cc := fun y c e => by
    have e : ([("__class__", cc)] : List (Str × Addr)).lookup y = some c := e
    rw [List.lookup_cons] at e
    split at e
    · rename_i q
      cases e
      exact ⟨by simpa using q, rfl⟩
    · cases e
  refine ⟨⟨e0.mod, S.kind, rfl, rfl, Nat.le_refl _, fun y z c h1 h2 => (cell y c h1).1.trans (cell z c h2).1.symm, fun y hy => ?_, fun y c h _ => absurd h Bool.false_ne_true, fun _ => hd, Around.frames_deeper e0.frames, .inr ⟨rfl, rfl⟩, fun b z => absurd z (noA b), e0.bs, e0.bsz, fun b _ _ => noA b, fun b z => absurd z (noA b), e0.funs, e0.frf⟩,
    rfl, e0.bare, Un.kept hk, ⟨_, hns, fun i y v h1 h2 h3 => ?_⟩, fun y c h => ?_, e0.hok.fresh (Nat.le_refl _), fun y c h => ?_, fun p hp => absurd (show p ∈ ([] : List (Addr × Obj)) from hp) (by simp), e0.hok.kept hk, ?_⟩
  · have hy : scope.names.lookup y = some .cell ∨ scope.names.lookup y = some .free := hy
    rcases hy with hy | hy
    · exact absurd rfl (S.nocell _ (PySem.mem_of_lookup hy))
    · have e := S.free _ (PySem.mem_of_lookup hy) rfl
      have e : y = "__class__" := e
      subst e
      exact ⟨cc, rfl⟩
  · have h1 : ps[i]? = some y := h1
    have h2' : vs[i]? = some v := by
      rw [List.getElem?_map] at h2
      cases e : vs[i]? with
      | none => rw [e] at h2; cases h2
      | some a => rw [e] at h2; cases h2; rfl
    obtain ⟨u, hu, rv⟩ := r.get h2'
    exact ⟨u, rv, .inl ⟨S.par y (List.mem_of_getElem? h1), lookup_rev S.nd h1 hu⟩⟩
  · obtain ⟨rfl, rfl⟩ := cell y c h
    exact ⟨_, _, hk _ _ sc, rfl⟩
  · obtain ⟨rfl, rfl⟩ := cell y c h
    exact (e0.bs _ _ bc).2
  · show (vs.map some).length = ps.length
    rw [List.length_map]; exact hl
end
/-- what the written part says of such an __init__: f, of the class C -/
structure IniC (P : Program) (K : Frag) (C f : Addr) (fd : FuncData) (qual : Str) (st : Stmt) : Prop where
  ex : ∃ (oc : Value) (od : Option Addr) (kV doc pm ct : Value) (an : Option Addr) (cda cc : Addr) (osl : Array (Option Value)) (ccl : Value) (cdd : Option Addr) (vs : Array Value) (ccs : Array (Option Value)) (file : Str) (tf : Tok) (cl : Value) (cld : Option Addr) (csl : Array (Option Value)),
    fd = PySem.W.ksFn "__init__" qual (defArgs st) (defBody st) (defScope st) .none kV doc pm an (.ref cda) ct cc ∧ K.lookup f = some ⟨oc, od, .func fd, osl⟩ ∧ PySem.W.codeIn K (.ref cda) qual = true ∧
    K.lookup cda = some ⟨ccl, cdd, .fields vs, ccs⟩ ∧ vs[2]? = some (.str file tf) ∧ ((P.main.file : Str) == file) = true ∧ K.lookup cc = some ⟨cl, cld, .cell (some (.ref C)), csl⟩
  op : PySem.W.nsIn K PySem.cStatics "thirdparty.any" = some none
  ms : PySem.W.ks_superIn K C C "__init__" = some (some (.builtin "ValueError.__init__"))
  top : (P.main.scope.names.lookup ("super" : Str)).isSome = false
/-- how the call super().__init__(text) is run there: by rfl for a text at hand -/
def SupEv (qual : Str) (scope : Scope) (txt : Str) (j : Nat) (p0 p1 p2 p3 p4 : Pos) : Prop := ∀ (L f : Addr) (cd : Value) (cc : Addr), ∃ pl : Sem Bool, eval (.Call (.Attribute (.Call (.Name "super" p0) [] [] p1) "__init__" p2) [.Constant (.str txt) j p3] [] p4) (PySem.W.ksEnv qual scope L f cd cc) = (do
  let ov ← attributeBase (.Call (.Name "super" p0) [] [] p1) "__init__" (PySem.W.ksEnv qual scope L f cd cc) (eval (.Call (.Name "super" p0) [] [] p1) (PySem.W.ksEnv qual scope L f cd cc))
  standAt p2.atName
  let (f', first) ← holding [ov] (getMethod ov "__init__" pl)
  callWith p4 f' first (backTo p4 (starEach [.Constant (.str txt) j p3] (PySem.W.ksEnv qual scope L f cd cc))) [])
section
open PySem.W
variable {P : Program} {w : World} {K : Frag} {mg : Str → Option Value} {base : Heap} {ps : List Str} {qual : Str} {params : Arguments} {body : List Stmt} {scope : Scope} {f cc C cda : Addr} {A : Around} {outer : List Env} {s s1 : Shared} {H H1 : Hp} {σ : L2.St} {pins : List (Addr × Obj)}
theorem super_step {a : Addr} {ar : Arg} {oc ccl cl kV doc pm ct : Value} {od an cdd cld : Option Addr} {osl ccs csl : Array (Option Value)} {vs : Array Value} {file : Str} {tf : Tok} {txt : Str} {j : Nat} {p0 p1 p2 p3 p4 p5 : Pos} {E : Value → Shared → Prop}
    (hev : SupEv qual scope txt j p0 p1 p2 p3 p4) (S : InScope ps scope) (T : OexC K C) (hmg : mg "super" = none) (hlk : K.lookup f = some ⟨oc, od, .func (ksFn "__init__" qual params body scope .none kV doc pm an (.ref cda) ct cc), osl⟩) (hp : (params.posonlyargs ++ params.args).head? = some ar) (hps : ps[0]? = some ar.arg)
    (hcode : K.lookup cda = some ⟨ccl, cdd, .fields vs, ccs⟩) (hvs : vs[2]? = some (.str file tf)) (hfile : ((P.main.file : Str) == file) = true) (hcell : K.lookup cc = some ⟨cl, cld, .cell (some (.ref C)), csl⟩) (hop : nsIn K cStatics "thirdparty.any" = some none)
    (hms : ks_superIn K C C "__init__" = some (some (.builtin "ValueError.__init__"))) (htop : (P.main.scope.names.lookup ("super" : Str)).isSome = false)
    (I : Inv (cxI P w K mg base ps qual scope f (.ref cda) cc A outer s H) pins σ H1 s1) (ea : H1 a = some (exo a C none)) (hσ : σ[0]? = some (some (.ref a))) :
    _root_.PySem.wpAt (model P w) (A.deeper (ksEnv qual scope s.heap.objs.size f (.ref cda) cc)) (.func body (ksEnv qual scope s.heap.objs.size f (.ref cda) cc))
      (exec (.Expr (.Call (.Attribute (.Call (.Name "super" p0) [] [] p1) "__init__" p2) [.Constant (.str txt) j p3] [] p4) p5) (ksEnv qual scope s.heap.objs.size f (.ref cda) cc))
      (fun fl s' => fl = .next ∧ Inv (cxI P w K mg base ps qual scope f (.ref cda) cc A outer s H) pins σ H1 s') E s1 := by
  obtain ⟨nm, q, N, bs, bm, sn, sub, ab, col, dd, k0, k1, k2, k3, k5, hC, hbm⟩ := T.cls
  obtain ⟨t1, ho⟩ := exo_at I.hok ea
  have hcl : clsIn K C = some { name := nm, bases := bs, mro := .ref C :: bm, ns := N, qualname := q, hasDict := true, slotNames := sn, subclasses := sub, abstract := ab, collection := col, hasDel := false } := by unfold clsIn; rw [hC] <;> rfl
  have hsub : mroIn K C (.ref C) = some true := by
    unfold mroIn
    rw [hcl, Option.bind_some, if_neg (by simp), List.contains_cons]
    simp
  have hve : mroIn K C (.type "ValueError") = some true := by
    unfold mroIn
    have h1 : (Value.ref C :: bm).contains (.type "ValueError") = true := (PySem.HandSPX.refsVE_contains "ValueError" (Value.ref C :: bm) (show PySem.HandSPX.refsVE (.ref C :: bm) = true from hbm)).trans (by decide +kernel)
    rw [hcl, Option.bind_some, if_neg (by simp)]
    exact congrArg some h1
  obtain ⟨h, g, d, t, os⟩ := s1
  have X : K.In h := I.kIn
  have KC := X _ _ hC
  obtain ⟨mb, hb1, hb2⟩ := I.mod.blt
  obtain ⟨m, hm1, hm2⟩ := id I.loc
  have hself : m ar.arg = some (.ref a) := by
    obtain ⟨u, ru, lk⟩ := hm2 0 ar.arg (.ref a) hps hσ (.inl (S.par _ (List.mem_of_getElem? hps)))
    obtain rfl : u = Value.ref a := ru
    rcases lk with ⟨_, e⟩ | ⟨k, _⟩
    · exact e
    · have e : scope.names.lookup ar.arg = some .cell ∨ scope.names.lookup ar.arg = some .free := k
      rw [S.par _ (List.mem_of_getElem? hps)] at e
      rcases e with e | e <;> cases e
  have Ia : InstAt h a { cls := .ref C, dict := none, data := .fields #[.ref t1, .none, .none, .none, .bool false, .none] } C none := ⟨ho, rfl, rfl, trivial⟩
  have hne : a ≠ C := ks_ne X Ia hcl
  refine ks_wpAt_Expr_any ?_ (hi := I.quiet)
  obtain ⟨pl, he⟩ := hev s.heap.objs.size f (.ref cda) cc
  refine ks_wpAt_MethodCall (pl := pl) ?_ (he := he)
  refine ks_wpAt_super_base (env := ksEnv qual scope s.heap.objs.size f (.ref cda) cc) S.ks S.kc (by decide) rfl (X _ _ hlk) rfl hp rfl (X _ _ hcode) rfl hvs hfile htop ?_
  refine ks_loadName_global S.kind S.ks (PySem.Calls.loadGlobal_builtin (env := ksEnv qual scope s.heap.objs.size f (.ref cda) cc) (I.mod.glob.keeps I.bk) hmg (hb1.keeps I.bk) ((hb2 _ (by decide +kernel)).trans (by first | rfl | kernel_rfl)) ⟨rfl, ?_⟩)
  refine wpAny_loadName_free S.kind S.kc rfl ⟨_, X _ _ hcell, rfl⟩ ?_
  refine wpAny_loadName_local S.kind (S.par _ (List.mem_of_getElem? hps)) hm1 hself ?_
  refine ks_wpAny_isType_cls KC rfl ⟨rfl, ?_⟩
  refine ks_wpAny_call_super KC rfl ho rfl (fun c e => by cases e) (looks_mroIn X hsub) (fun h2 e2 k2 => ?_)
  have X2 : K.In h2 := X.keeps k2
  have Ia2 : InstAt h2 a { cls := .ref C, dict := none, data := .fields #[.ref t1, .none, .none, .none, .bool false, .none] } C none := ⟨k2 _ _ ho, rfl, rfl, trivial⟩
  have hm3 : alongIn K "__init__" (((Value.ref C :: bm).dropWhile (· != .ref C)).drop 1) = some (some (.builtin "ValueError.__init__")) := by
    unfold ks_superIn at hms
    rw [hcl, Option.bind_some] at hms
    exact hms
  refine PySem.VEX.getMethod_supV (l₀ := .ref C :: bm) e2 (looks_opaque X2 hop) (fun A Q E s k q => wpAny_bind ((looks_clsIn X2 hcl) A _ E s k (wpAny_pure q))) rfl X2 hm3 hne (by decide) (Ia2.type.andThen (looks_mroIn X2 hve)) ?_
  let h3 := h2.push (PySem.VEX.wrapV a)
  have k3 : ∀ b o, h2.get? b = some o → h3.get? b = some o := fun b o e => Heap.get?_push_of_some _ e
  have hu3 : h3.get? h2.objs.size = some (PySem.VEX.wrapV a) := Heap.get?_push_at rfl rfl
  show wpAny _ _ (callWith p4 (.ref h2.objs.size) [] (backTo p4 (starEach [.Constant (.str txt) j p3] _)) []) _ _ _
  have hst : backTo p4 (starEach [(.Constant (.str txt) j p3 : Expr)] (ksEnv qual scope s.heap.objs.size f (.ref cda) cc)) = [(false, eval (.Constant (.str txt) j p3) (ksEnv qual scope s.heap.objs.size f (.ref cda) cc))] := rfl
  rw [hst]
  refine PySem.VEX.callWith_wrapV rfl (PySem.Calls.evalArgs_plain (PySem.Calls.spliced_cons (PySem.Calls.Constant_str (PySem.Calls.spliced_nil ⟨hu3, ?_⟩))))
  refine PySem.VEX.call_wrapV (k3 _ _ (k2 _ _ KC)) (k3 _ _ (k2 _ _ ho)) hu3 (by show 1 ≤ sizeLine; rw [sizeLine_eq]; decide) fun h4 t4 k4 e4 => ?_
  refine ⟨rfl, ?_⟩
  have J := I.write (h' := h4) (t' := t + 1 + 1) (x := a) (e := a) (o := exo a C none) (by rw [ea]; exact True.intro) (.inl rfl) (fun b o hb q => k4 b o hb (k3 _ _ (k2 _ _ q))) ⟨_, e4⟩ (exo_ok e4)
  have eu : upd H1 a (exo a C none) = H1 := by
    funext b
    by_cases hb : b = a
    · rw [hb, upd_same, ea]
    · rw [upd_ne hb]
  rw [eu] at J
  exact J
end
end VL

set_option Elab.async false
set_option linter.all false
set_option maxRecDepth 100000
set_option maxHeartbeats 4000000
/-! VE9: the promise of such an __init__ (one parameter, two); the classes of errors, ready to be raised. -/
namespace VL
open PySem PySem.Spec PyProof.Rows L2
section
open PySem.W
variable {P : Program} {w : World} {K : Frag} {mg : Str → Option Value} {base : Heap} {ps : List Str} {qual : Str} {st : Stmt} {f C : Addr} {fd : FuncData}
theorem fnok_init {sp : Sp} {self : Str} {rest : List Stmt} {txt : Str} {j : Nat} {p0 p1 p2 p3 p4 p5 : Pos} {k : Nat} (hev : SupEv qual (defScope st) txt j p0 p1 p2 p3 p4) (S : InScope ps (defScope st)) (T : OexC K C) (F : IniC P K C f fd qual st) (hmg : mg "super" = none)
    (hbody : defBody st = .Expr (.Call (.Attribute (.Call (.Name "super" p0) [] [] p1) "__init__" p2) [.Constant (.str txt) j p3] [] p4) p5 :: rest) (hp : ((defArgs st).posonlyargs ++ (defArgs st).args).head?.map (·.arg) = some self) (hps : ps[0]? = some self)
    (len : ∀ vs H Q E, sp vs H Q E → vs.length = ps.length) (hsp : ∀ vs H Q E, sp vs H Q E → ∃ a, vs[0]? = some (.ref a) ∧ H a = some (exo a C none))
    (hrest : ∀ (X : Cx) (vs : List V) (H : Hp) (Q : VK) (E : XK), X.K = K → X.N = ps → X.env.scope = defScope st → sp vs H Q E → ∃ t, PSs X rest t ∧ t { nx := fun _ H' => Q .non H', rt := Q } (vs.map some) H) :
    FnOk P w K mg base CX0 k f fd ps sp := by
  obtain ⟨oc, od, kV, doc, pm, ct, an, cda, cc, osl, ccl, cdd, vsc, ccs, file, tf, cl, cld, csl, rfl, lk, hcd, hcode, hvs, hfile, hcell⟩ := F.ex
  refine ⟨len, fun A outer s H args us vs Q E hr e0 hb r hs => ?_⟩
  have hl := len _ _ _ _ hs
  obtain ⟨a, h0, ea⟩ := hsp _ _ _ _ hs
  have KX : K.In s.heap := e0.mod.kin.keeps fun b o e => (e0.bs b o e).1
  have lim : s.heap.NoLimit := e0.mod.nolimit.keeps fun b o e => (e0.bs b o e).1
  cases ha : ((defArgs st).posonlyargs ++ (defArgs st).args).head? with
  | none => rw [ha] at hp; cases hp
  | some ar =>
    rw [ha] at hp
    obtain rfl : ar.arg = self := Option.some.inj hp
    refine ks_codeAny_call_defAt (fd := ksFn "__init__" qual (defArgs st) (defBody st) (defScope st) .none kV doc pm an (.ref cda) ct cc) (body := defBody st) (binds := ps.zip us) hr.depth (KX _ _ lk) rfl lim (codeRec_of KX hcd) rfl hb S.nocell
      (fun y hy => S.par _ (List.of_mem_zip (show (y.1, y.2) ∈ ps.zip us from hy)).1) (fun h₀ hns hk => ?_) S.co S.gen S.kind
    have I := inv_startI (P := P) (w := w) (mg := mg) (base := base) (qual := qual) (f := f) (cd := .ref cda) (A := A) (outer := outer) (C := C) (h1 := h₀) (tk := s.toks + (ps.zip us).length) S hr.hd e0 hcell hl r hns hk
    obtain ⟨t, ht, q⟩ := hrest (cxI P w K mg base ps qual (defScope st) f (.ref cda) cc A outer s H) vs H Q E rfl rfl rfl hs
    have key : _root_.PySem.wpAt (model P w) (A.deeper (ksEnv qual (defScope st) s.heap.objs.size f (.ref cda) cc)) (.func (defBody st) (ksEnv qual (defScope st) s.heap.objs.size f (.ref cda) cc)) (execs (defBody st) (ksEnv qual (defScope st) s.heap.objs.size f (.ref cda) cc))
        (SP (cxI P w K mg base ps qual (defScope st) f (.ref cda) cc A outer s H) [] { nx := fun _ H' => Q .non H', rt := Q }) (fun _ _ => False) { s with heap := h₀, toks := s.toks + (ps.zip us).length } := by
      have hb2 : execs (defBody st) (ksEnv qual (defScope st) s.heap.objs.size f (.ref cda) cc) = execs (.Expr (.Call (.Attribute (.Call (.Name "super" p0) [] [] p1) "__init__" p2) [.Constant (.str txt) j p3] [] p4) p5 :: rest) (ksEnv qual (defScope st) s.heap.objs.size f (.ref cda) cc) := by rw [hbody]
      rw [hb2]
      refine ks_wpAt_execs_cons (ks_wpAt_mono (super_step (ps := ps) hev S T hmg lk ha hps hcode hvs hfile hcell F.op F.ms F.top I ea (by rw [List.getElem?_map, h0]; rfl)) (fun fl s' hj => ?_) fun _ _ x => x)
      obtain ⟨rfl, J⟩ := hj
      exact PySem.wpAt_of_wpAny (ht.run [] s' _ H _ J q)
    refine ks_wpAt_mono key (fun fl s' hs => ?_) fun _ _ x => x.elim
    have fin : ∀ {σ' : L2.St} {H' : Hp} {v : V} {u : Value}, Inv (cxI P w K mg base ps qual (defScope st) f (.ref cda) cc A outer s H) [] σ' H' s' → RelV v u → Q v H' → CE outer P w H s Q u s' :=
      fun {σ' H' v u} J rv q => ⟨v, H', J.os, J.bare, J.base, J.hok, rv, q⟩
    cases fl with
    | ret u =>
      obtain ⟨v, σ', H', J, rv, q⟩ := hs
      exact fin J rv q
    | next =>
      obtain ⟨σ', H', J, q⟩ := hs
      exact fin (v := V.non) (u := Value.none) J rfl q
    | brk =>
      obtain ⟨_, _, _, q⟩ := hs
      exact False.elim q
    | cont =>
      obtain ⟨_, _, _, q⟩ := hs
      exact False.elim q
/-- one parameter: self.fld = v -/
theorem fnok_init1 {self v fld txt : Str} {j k : Nat} {p0 p1 p2 p3 p4 p5 q1 q2 q3 q4 : Pos} (hev : SupEv qual (defScope st) txt j p0 p1 p2 p3 p4) (S : InScope [self, v] (defScope st)) (T : OexC K C) (F : IniC P K C f fd qual st) (hmg : mg "super" = none) (hno : findIn K (.ref C) fld = some none)
    (hbody : defBody st = [.Expr (.Call (.Attribute (.Call (.Name "super" p0) [] [] p1) "__init__" p2) [.Constant (.str txt) j p3] [] p4) p5, .Assign [.Attribute (.Name self q1) fld q2] (.Name v q3) q4])
    (hp : ((defArgs st).posonlyargs ++ (defArgs st).args).head?.map (·.arg) = some self) (hd1 : (self == ("__debug__" : Str)) = false := by decide) (hd2 : (self == ("__classdict__" : Str)) = false := by decide) (hd3 : (v == ("__debug__" : Str)) = false := by decide) (hd4 : (v == ("__classdict__" : Str)) = false := by decide) :
    FnOk P w K mg base CX0 k f fd [self, v] (spI C fld) :=
  fnok_init hev S T F hmg hbody hp rfl (fun vs H Q E ⟨a, u, e, _⟩ => by rw [e]; rfl) (fun vs H Q E ⟨a, u, e, h, _⟩ => ⟨a, by rw [e]; rfl, h⟩) fun X vs H Q E e1 e2 e3 ⟨a, u, e, h, q⟩ => by
    subst e1; subst e
    exact ⟨_, pss_one (ps_ost (pe_var (i := 0) (by rw [e2]; rfl) (.inl (by rw [e3]; exact S.par _ (by simp))) hd1 hd2) (pe_var (i := 1) (by rw [e2]; rfl) (.inl (by rw [e3]; exact S.par _ (by simp))) hd3 hd4)), u, rfl, .ref a, rfl, a, C, rfl, T, hno, .inl ⟨h, q⟩⟩
end
/-- a class of errors, ready to be raised: C(e), e kept as the field fld -/
def Rz (P : Program) (w : World) (K : Frag) (mg : Str → Option Value) (base : Heap) (x fld : Str) : Prop := ∃ (C fI : Addr) (fd : FuncData) (ps : List Str), OexC K C ∧ PySem.W.findIn K (.ref C) "__init__" = some (some (.ref fI)) ∧ PySem.W.typeIn K (.ref fI) = some (.type "function") ∧
  FnOk P w K mg base CX0 0 fI fd ps (spI C fld) ∧ Binds K fd ps [] ∧ mg x = some (.ref C)
theorem Rz.raise {X : Cx} {x fld : Str} {k : Nat} {e : Expr} {ce : EC} {p pos pos' : Pos} (R : Rz X.prog X.w X.K X.mg X.base x fld) (hr : Room k X.A) (h : EOk X e ce) (hk : 1 ≤ k := by decide) (hg : Gl X x := by rfl) (hdb : (x == ("__debug__" : Str)) = false := by decide) (hc : X.calm = true := by rfl)
    (he : starEach [e] X.env = (false, eval e X.env) :: starEach [] X.env := by rfl) (hpl : (backTo pos (starEach [] X.env)).any (·.1) = false := by rfl) : SOk X (.Raise (some (.Call (.Name x p) [e] [] pos)) none pos') (sRaise x fld ce) := by
  obtain ⟨C, fI, fd, ps, T, iC, tI, F, hb, hm⟩ := R
  exact sok_raise (raiser_of T iC tI F (hr.mono hk) hb pass0 hg hm hdb) hm h hc he hpl
end VL

set_option Elab.async false
set_option linter.all false
set_option maxRecDepth 100000
set_option maxHeartbeats 4000000
/-! VE10: the clauses of a try: what they tell of the caught exception, as a small language; try as a combinator. -/
namespace VL
open PySem PySem.Spec PyProof.Rows L2
/-- in a clause: the plain values of some slots -/
abbrev Tau := List (Nat × D)
def Hs2 (a dd : Addr) (i : Nat) (fs : List (Str × V)) (τ : Tau) (σ : S) (H : Hp) : Prop := Hst a dd i fs σ H ∧ ∀ j d, (j, d) ∈ τ → σ[j]? = some (some (vOf d))
abbrev HC := Exn → Tau → Option D
def tHC (a dd : Addr) (i : Nat) (fs : List (Str × V)) (x : Exn) (c : HC) : TE := fun σ H Q => ∃ τ d, c x τ = some d ∧ scal d = true ∧ Hs2 a dd i fs τ σ H ∧ ∀ H', Sub H H' → Q (vOf d) H'
theorem Hs2.sub {a dd : Addr} {i : Nat} {fs : List (Str × V)} {τ : Tau} {σ : S} {H H' : Hp} (h : Hs2 a dd i fs τ σ H) (k : Sub H H') : Hs2 a dd i fs τ σ H' := ⟨⟨h.1.1, k _ _ h.1.2⟩, h.2⟩
structure HCx (X : Cx) (a dd C : Addr) (oe : Obj) (x : Exn) (fs : List (Str × V)) : Prop where
  m : X.mg x.cls = some (.ref C)
  z : Zc (.ref C) (some dd) oe
  f : ∃ vs, oe.data = .fields vs
  r : FsR fs x.fs
def HEOk (X : Cx) (i : Nat) (e : Expr) (c : HC) : Prop := ∀ (a dd C : Addr) (oe : Obj) (pn : List (Addr × Obj)) (x : Exn) (fs : List (Str × V)), HCx X a dd C oe x fs → PE (X.suite a ((a, oe) :: pn)) e (tHC a dd i fs x c)
/-- a class by its name: an own one, a built-in one -/
def NameU (mg : Str → Option Value) (y : Str) (u : Value) : Prop := mg y = some u ∨ (mg y = none ∧ bootBuiltins y = some u ∧ y ≠ "__name__")
/-- what the written part says of the classes of errors -/
structure ErrF (K : Frag) (mg : Str → Option Value) (cls ys flds : List Str) (sub : Str → Str → Option Bool) : Prop where
  ex : ∀ x ∈ cls, ∀ C, mg x = some (.ref C) → ExcC K C ∧ XfC K C ∧ ∀ f ∈ flds, PySem.W.findIn K (.ref C) f = some none
  nm : ∀ y ∈ ys, ∃ v u, NameU mg y u ∧ ClsV v u
  is : ∀ x y b, sub x y = some b → x ∈ cls ∧ y ∈ ys ∧ ∀ C v u, mg x = some (.ref C) → NameU mg y u → ClsV v u → PySem.W.kitOne K (.ref C) u = some b ∧ PySem.W.exmOne K (.ref C) u = some b
theorem clsV_rel {v : V} {u : Value} (h : ClsV v u) : RelV v u := by
  cases h <;> rfl
theorem NameU.one {mg : Str → Option Value} {y : Str} {u u' : Value} (h : NameU mg y u) (h' : NameU mg y u') : u = u' := by
  rcases h with h | ⟨h, k, _⟩ <;> rcases h' with h' | ⟨h', k', _⟩
  · exact Option.some.inj (h.symm.trans h')
  · rw [h] at h'; cases h'
  · rw [h] at h'; cases h'
  · exact Option.some.inj (k.symm.trans k')
section
variable {X : Cx} {i : Nat} {e b : Expr} {es rest : List Expr} {pos p p1 p2 : Pos} {c c' : HC} {d : D}
theorem pe_name {a : Addr} {pn : List (Addr × Obj)} {y : Str} {u : Value} {v : V} (hn : NameU X.mg y u) (hv : ClsV v u) (hg : Gl X y) (hdb : (y == ("__debug__" : Str)) = false) : PE (X.suite a pn) (.Name y p) (tC v) := by
  rcases hn with h | ⟨h1, h2, h3⟩
  · exact pe_glob (X := X.suite a pn) hg h (clsV_rel hv) hdb
  · exact pe_bltn (X := X.suite a pn) hg h1 h2 (clsV_rel hv) h3 hdb
theorem heok_k (h : ∀ a pn, PE (X.suite a pn) e (tC (vOf d))) : HEOk X i e (fun _ _ => some d) := fun a dd C oe pn x fs hx => pe_mono (h a _) fun σ H Q ⟨τ, d', e1, _, _, q⟩ => by
  cases e1; exact q H (Sub.refl H)
theorem heok_int {n : Int} {j} : HEOk X i (.Constant (.int n) j pos) (fun _ _ => some (.int n)) := heok_k fun _ _ => pe_int
theorem heok_str {n : Str} {j} : HEOk X i (.Constant (.str n) j pos) (fun _ _ => some (.str n)) := heok_k fun _ _ => pe_str
theorem heok_bool {n : Bool} {j} : HEOk X i (.Constant (.bool n) j pos) (fun _ _ => some (.bool n)) := heok_k fun _ _ => pe_bl
theorem heok_none {j} : HEOk X i (.Constant .none j pos) (fun _ _ => some .none) := heok_k fun _ _ => pe_non
def hVar (j : Nat) : HC := fun _ τ => τ.lookup j
theorem lookup_mem {j : Nat} {d : D} : ∀ {τ : Tau}, τ.lookup j = some d → (j, d) ∈ τ
  | [], h => by cases h
  | (k, g) :: r, h => by
    rw [List.lookup_cons] at h
    split at h
    · rename_i e
      cases h
      have : j = k := by simpa using e
      rw [this]; exact List.mem_cons_self
    · exact List.mem_cons_of_mem _ (lookup_mem h)
theorem heok_var {n : Str} (j : Nat) (hN : X.N[j]? = some n := by rfl) (hv : Vis X.env.scope n := by first | exact Or.inl rfl | exact Or.inr (Or.inl rfl) | exact Or.inr (Or.inr rfl)) (hd : (n == ("__debug__" : Str)) = false := by decide) (hcd : (n == ("__classdict__" : Str)) = false := by decide) : HEOk X i (.Name n pos) (hVar j) :=
  fun a dd C oe pn x fs hx => pe_mono (pe_var (X := X.suite a ((a, oe) :: pn)) (i := j) hN hv hd hcd) fun σ H Q ⟨τ, d', e1, _, h2, q⟩ => ⟨_, h2.2 j d' (lookup_mem e1), q H (Sub.refl H)⟩
def hNot (c : HC) : HC := fun x τ => match c x τ with
  | some (.bool b) => some (.bool (!b))
  | _ => none
theorem heok_not (h : HEOk X i e c) : HEOk X i (.UnaryOp .Not e pos) (hNot c) := fun a dd C oe pn x fs hx => pe_mono (pe_not (h a dd C oe pn x fs hx)) fun σ H Q ⟨τ, d', e1, s1, h2, q⟩ => by
  unfold hNot at e1
  split at e1
  · rename_i b eb
    cases e1
    exact ⟨τ, .bool b, eb, rfl, h2, fun H' k => ⟨b, rfl, q H' k⟩⟩
  · cases e1
def hAnd (c c' : HC) : HC := fun x τ => match c x τ with
  | some (.bool true) => c' x τ
  | some (.bool false) => some (.bool false)
  | _ => none
def hOr (c c' : HC) : HC := fun x τ => match c x τ with
  | some (.bool true) => some (.bool true)
  | some (.bool false) => c' x τ
  | _ => none
theorem heok_one {op} (h : HEOk X i e c) : HEOk X i (.BoolOp op [e] pos) c := fun a dd C oe pn x fs hx => pe_one (h a dd C oe pn x fs hx)
theorem heok_and (h : HEOk X i e c) (h' : HEOk X i (.BoolOp .And (b :: rest) pos) c') : HEOk X i (.BoolOp .And (e :: b :: rest) pos) (hAnd c c') := fun a dd C oe pn x fs hx => pe_mono (pe_and (h a dd C oe pn x fs hx) (h' a dd C oe pn x fs hx)) fun σ H Q ⟨τ, d', e1, s1, h2, q⟩ => by
  unfold hAnd at e1
  split at e1
  · rename_i eb
    exact ⟨τ, .bool true, eb, rfl, h2, fun H' k => ⟨true, rfl, by rw [if_pos rfl]; exact ⟨τ, d', e1, s1, h2.sub k, fun H2 k2 => q H2 (k.trans k2)⟩⟩⟩
  · rename_i eb
    cases e1
    exact ⟨τ, .bool false, eb, rfl, h2, fun H' k => ⟨false, rfl, by rw [if_neg Bool.false_ne_true]; exact q H' k⟩⟩
  · cases e1
theorem heok_or (h : HEOk X i e c) (h' : HEOk X i (.BoolOp .Or (b :: rest) pos) c') : HEOk X i (.BoolOp .Or (e :: b :: rest) pos) (hOr c c') := fun a dd C oe pn x fs hx => pe_mono (pe_or (h a dd C oe pn x fs hx) (h' a dd C oe pn x fs hx)) fun σ H Q ⟨τ, d', e1, s1, h2, q⟩ => by
  unfold hOr at e1
  split at e1
  · rename_i eb
    cases e1
    exact ⟨τ, .bool true, eb, rfl, h2, fun H' k => ⟨true, rfl, by rw [if_pos rfl]; exact q H' k⟩⟩
  · rename_i eb
    exact ⟨τ, .bool false, eb, rfl, h2, fun H' k => ⟨false, rfl, by rw [if_neg Bool.false_ne_true]; exact ⟨τ, d', e1, s1, h2.sub k, fun H2 k2 => q H2 (k.trans k2)⟩⟩⟩
  · cases e1
variable {cls ys flds : List Str} {sub : Str → Str → Option Bool}
/-- e.f -/
def hFld (cls : List Str) (f : Str) : HC := fun x _ => if x.cls ∈ cls then x.fs.lookup f else none
theorem heok_fld {n f : Str} (G : ErrF X.K X.mg cls ys flds sub) (hf : f ∈ flds) (hN : X.N[i]? = some n := by rfl) (hv : Vis X.env.scope n := by first | exact Or.inl rfl | exact Or.inr (Or.inl rfl) | exact Or.inr (Or.inr rfl)) (hd : (n == ("__debug__" : Str)) = false := by decide) (hcd : (n == ("__classdict__" : Str)) = false := by decide)
    (hb : attributeBase (.Name n p) f X.env (eval (.Name n p) X.env) = eval (.Name n p) X.env := by rfl) : HEOk X i (.Attribute (.Name n p) f pos) (hFld cls f) := fun a dd C oe pn x fs hx => by
  by_cases hc : x.cls ∈ cls
  · obtain ⟨_, T, g⟩ := G.ex x.cls hc C hx.m
    exact pe_mono (pe_xf T (g f hf) hx.z hx.f (pe_var (X := X.suite a ((a, oe) :: pn)) (i := i) hN hv hd hcd) hb) fun σ H Q ⟨τ, d', e1, s1, h2, q⟩ => by
      unfold hFld at e1
      rw [if_pos hc] at e1
      exact ⟨_, h2.1.1, rfl, rfl, dd, fs, vOf d', rfl, h2.1.2, hx.r f d' e1 s1, q H (Sub.refl H)⟩
  · refine ⟨fun pins s σ H Q I ⟨τ, d', e1, _⟩ => ?_⟩
    unfold hFld at e1
    rw [if_neg hc] at e1
    cases e1
/-- isinstance(e, C) -/
def hIs (sub : Str → Str → Option Bool) (y : Str) : HC := fun x _ => (sub x.cls y).map PyData.bool
theorem heok_is {n y : Str} (G : ErrF X.K X.mg cls ys flds sub) (hm : X.mg "isinstance" = none) (hN : X.N[i]? = some n := by rfl) (hv : Vis X.env.scope n := by first | exact Or.inl rfl | exact Or.inr (Or.inl rfl) | exact Or.inr (Or.inr rfl)) (hd : (n == ("__debug__" : Str)) = false := by decide)
    (hcd : (n == ("__classdict__" : Str)) = false := by decide) (hgy : Gl X y := by rfl) (hdy : (y == ("__debug__" : Str)) = false := by decide) (hg : Gl X "isinstance" := by rfl)
    (hs : starEach [(.Name n p1 : Expr), .Name y p2] X.env = (false, eval (.Name n p1) X.env) :: starEach [.Name y p2] X.env := by rfl) (hs2 : starEach [(.Name y p2 : Expr)] X.env = (false, eval (.Name y p2) X.env) :: starEach [] X.env := by rfl)
    (hpl : (backTo pos (starEach [(.Name y p2 : Expr)] X.env)).any (·.1) = false := by rfl) : HEOk X i (.Call (.Name "isinstance" p) [.Name n p1, .Name y p2] [] pos) (hIs sub y) := fun a dd C oe pn x fs hx => by
  cases es : sub x.cls y with
  | none =>
    refine ⟨fun pins s σ H Q I ⟨τ, d', e1, _⟩ => ?_⟩
    unfold hIs at e1
    rw [es] at e1
    cases e1
  | some k =>
    obtain ⟨hc, hy, hk⟩ := G.is x.cls y k es
    obtain ⟨v, u, hu, hvu⟩ := G.nm y hy
    obtain ⟨T, _, _⟩ := G.ex x.cls hc C hx.m
    refine pe_mono (pe_callB (X := X.suite a ((a, oe) :: pn)) (call_isD T hx.z hx.f) hg hm bt_isinstance (pa_cons (pe_var (X := X.suite a ((a, oe) :: pn)) (i := i) hN hv hd hcd) (pa_cons (pe_name hu hvu hgy hdy) pa_nil hs2) hs) (by decide) (by decide) hs hpl) fun σ H Q ⟨τ, d', e1, s1, h2, q⟩ => ?_
    unfold hIs at e1
    rw [es] at e1
    cases e1
    exact ⟨_, h2.1.1, v, u, k, fs, rfl, h2.1.2, fun w r => hvu.eq r, (hk C v u hx.m hu hvu).1, q H (Sub.refl H)⟩
/-- isinstance(e, (C, ..)) -/
def rIsDT (K : Frag) (D a dd : Addr) : List V → Hp → VK → Prop := fun xs H Q => ∃ (tp : Addr) (cs : List V) (us : List Value) (b : Bool) (fs : List (Str × V)), xs = [.ref a, .ref tp] ∧ H tp = some (.tup cs) ∧ Paired ClsV cs us ∧ H dd = some (.xd fs) ∧ PySem.W.kitAny K (.ref D) us = some b ∧ Q (.bl b) H
theorem call_isDT {a D dd : Addr} {oe : Obj} {pn : List (Addr × Obj)} (C : ExcC X.K D) (hz : Zc (.ref D) (some dd) oe) (hf : ∃ vs, oe.data = .fields vs) : CallR (X.suite a ((a, oe) :: pn)) (.builtin "isinstance") (rIsDT X.K D a dd) := by
  rintro pins s σ H xs us Q I r ⟨tp, cs, ws, b, fs, rfl, hT, k, ed, e, q⟩
  match us, r with
  | [u1, u2], .cons rx (.cons rt .nil) =>
    obtain rfl : u1 = Value.ref a := rx
    obtain rfl : u2 = Value.ref tp := rt
    have hget := (I.pin (a, oe) (List.mem_append_left _ List.mem_cons_self)).1
    obtain ⟨vs, hv⟩ := hf
    have hx : ObjOk X.prog X.w H s.heap dd (.xd fs) := I.hok dd _ ed
    obtain ⟨mA, hns, _⟩ := hx
    obtain ⟨od, ho, _⟩ := lookIn_ns hns
    have J : PySem.W.InstAt s.heap a oe D (some od) := ⟨hget, hz.1, by unfold PySem.W.notCls; rw [hv] <;> rfl, by rw [hz.2]; exact ho⟩
    have hcl : (PySem.W.clsIn X.K D).isSome = true := by
      obtain ⟨cd, hc, _⟩ := PySem.W.any_some C.hd
      rw [hc]; rfl
    obtain ⟨_, its, rv, o, h1, h2, n, h3⟩ := (show ObjOk X.prog X.w H s.heap tp (.tup cs) from I.hok tp _ hT)
    have e3 := ClsV.all k rv
    subst e3
    obtain ⟨oc, od', dt, sl⟩ := o
    simp only at h2 h3
    subst h2 h3
    exact PySem.W.kia_tup (PySem.W.kitx_exc hcl C.hg C.hk C.hs C.ha C.hn C.ht C.hm) I.kIn J h1 e (fun z => nomatch z) fun tk => ⟨.bl b, H, I.kept (t' := tk) fun _ _ z => z, rfl, q⟩
def isAny (sub : Str → Str → Option Bool) (x : Str) : List Str → Option Bool
  | [] => some false
  | y :: r => match sub x y with
    | some true => some true
    | some false => isAny sub x r
    | none => none
def hIsT (sub : Str → Str → Option Bool) (l : List Str) : HC := fun x _ => (isAny sub x.cls l).map PyData.bool
/-- a row of class names, laid as a tuple -/
inductive Nms (X : Cx) (ys : List Str) : List Expr → List Str → Prop
  | nil : Nms X ys [] []
  | cons {y : Str} {p : Pos} {es : List Expr} {l : List Str} (hy : y ∈ ys) (hg : Gl X y) (hd : (y == ("__debug__" : Str)) = false) (hs : starEach ((.Name y p : Expr) :: es) X.env = (false, eval (.Name y p) X.env) :: starEach es X.env) (r : Nms X ys es l) : Nms X ys (.Name y p :: es) (y :: l)
theorem nms_ok {a : Addr} {pn : List (Addr × Obj)} (G : ErrF X.K X.mg cls ys flds sub) : ∀ {es : List Expr} {l : List Str}, Nms X ys es l → ∃ cs us, Paired ClsV cs us ∧ cs.length = l.length ∧ PA (X.suite a pn) es (fun σ H Q => Q cs H) ∧
    ∀ (xc : Str) (C : Addr) (k : Bool), X.mg xc = some (.ref C) → isAny sub xc l = some k → PySem.W.kitAny X.K (.ref C) us = some k
  | _, _, .nil => ⟨[], [], .nil, rfl, pa_mono pa_nil fun _ _ _ q => q, fun xc C k hm h => h⟩
  | _, _, .cons (y := y) hy hg hd hs r => by
    obtain ⟨cs, us, hp, hl, hpa, hk⟩ := nms_ok (a := a) (pn := pn) G r
    obtain ⟨v, u, hu, hvu⟩ := G.nm y hy
    refine ⟨v :: cs, u :: us, .cons hvu hp, by simp [hl], pa_mono (pa_cons (pe_name hu hvu hg hd) hpa hs) fun σ H Q q => q, fun xc C k hm h => ?_⟩
    unfold isAny at h
    unfold PySem.W.kitAny
    cases e1 : sub xc y with
    | none => rw [e1] at h; cases h
    | some b =>
      obtain ⟨_, _, hk1⟩ := G.is xc y b e1
      rw [(hk1 C v u hm hu hvu).1]
      rw [e1] at h
      cases b with
      | true => exact h
      | false => exact hk xc C k hm h
theorem heok_isT {n : Str} {l : List Str} {x1 : Nat} {p3 : Pos} (G : ErrF X.K X.mg cls ys flds sub) (hl : Nms X ys es l) (hll : l.length ≤ 1000) (hcl : ∀ (xc : Str) (k : Bool), isAny sub xc l = some k → xc ∈ cls) (hm : X.mg "isinstance" = none) (hN : X.N[i]? = some n := by rfl) (hv : Vis X.env.scope n := by first | exact Or.inl rfl | exact Or.inr (Or.inl rfl) | exact Or.inr (Or.inr rfl)) (hd : (n == ("__debug__" : Str)) = false := by decide)
    (hcd : (n == ("__classdict__" : Str)) = false := by decide) (hg : Gl X "isinstance" := by rfl)
    (hs : starEach [(.Name n p1 : Expr), .Tuple es x1 p3] X.env = (false, eval (.Name n p1) X.env) :: starEach [.Tuple es x1 p3] X.env := by rfl) (hs2 : starEach [(.Tuple es x1 p3 : Expr)] X.env = (false, eval (.Tuple es x1 p3) X.env) :: starEach [] X.env := by rfl)
    (hpl : (backTo pos (starEach [(.Tuple es x1 p3 : Expr)] X.env)).any (·.1) = false := by rfl) : HEOk X i (.Call (.Name "isinstance" p) [.Name n p1, .Tuple es x1 p3] [] pos) (hIsT sub l) := fun a dd C oe pn x fs hx => by
  cases es : isAny sub x.cls l with
  | none =>
    refine ⟨fun pins s σ H Q I ⟨τ, d', e1, _⟩ => ?_⟩
    unfold hIsT at e1
    rw [es] at e1
    cases e1
  | some k =>
    obtain ⟨T, _, _⟩ := G.ex x.cls (hcl _ _ es) C hx.m
    obtain ⟨cs, us, hp, hle, hpa, hk⟩ := nms_ok (a := a) (pn := (a, oe) :: pn) G hl
    refine pe_mono (pe_callB (X := X.suite a ((a, oe) :: pn)) (call_isDT T hx.z hx.f) hg hm bt_isinstance (pa_cons (pe_var (X := X.suite a ((a, oe) :: pn)) (i := i) hN hv hd hcd) (pa_cons (pe_tup hpa) pa_nil hs2) hs) (by decide) (by decide) hs hpl) fun σ H Q ⟨τ, d', e1, s1, h2, q⟩ => ?_
    unfold hIsT at e1
    rw [es] at e1
    cases e1
    refine ⟨_, h2.1.1, by rw [sizeLine_eq]; omega, fun p hp' => ⟨p, cs, us, k, fs, rfl, upd_same, hp, ?_, hk x.cls C k hx.m es, ?_⟩⟩
    · rw [upd_ne (ne_of_none h2.1.2 hp')]
      exact h2.1.2
    · exact q _ fun b o e => by rw [upd_ne (ne_of_none e hp')]; exact e
end
end VL

set_option Elab.async false
set_option linter.all false
set_option maxRecDepth 100000
set_option maxHeartbeats 4000000
/-! VE11: what a clause does: return a plain value or a row of plain values, set a name to such a row; try as a combinator. -/
namespace VL
open PySem PySem.Spec PyProof.Rows L2
inductive HAct where
  | ret (d : D)
  | set (j : Nat) (d : D)
abbrev HSC := Exn → Tau → Option HAct
def rowD : D → Option (List D)
  | .tuple ds => some ds
  | _ => none
def tAct (act : HAct) (D : Ends) (σ : S) (H : Hp) : Prop := match act with
  | .ret d => (scal d = true ∧ ∀ H', Sub H H' → D.rt (vOf d) H') ∨ ∃ ds, d = .tuple ds ∧ ds.all scal = true ∧ ds.length ≤ 1000 ∧ ∀ p H', Sub H H' → H' p = none → D.rt (.ref p) (upd H' p (.tup (ds.map vOf)))
  | .set j d => ∃ ds, d = .tuple ds ∧ ds.all scal = true ∧ ds.length ≤ 1000 ∧ ∀ p H', Sub H H' → H' p = none → D.nx (σ.set j (some (.ref p))) (upd H' p (.tup (ds.map vOf)))
def tHS (a dd : Addr) (i : Nat) (fs : List (Str × V)) (x : Exn) (n : Nat) (c : HSC) : TS := fun D σ H => n ≤ σ.length ∧ ∃ τ act, c x τ = some act ∧ Hs2 a dd i fs τ σ H ∧ tAct act D σ H
def HSOk (X : Cx) (i : Nat) (suite : List Stmt) (c : HSC) : Prop := ∀ (a dd C : Addr) (oe : Obj) (pn : List (Addr × Obj)) (x : Exn) (fs : List (Str × V)), HCx X a dd C oe x fs → PSs (X.suite a ((a, oe) :: pn)) suite (tHS a dd i fs x X.N.length c)
def evalH : List HC → Exn → Tau → Option (List D)
  | [], _, _ => some []
  | c :: cs, x, τ => match c x τ with
    | some d => if scal d = true then (evalH cs x τ).map (d :: ·) else none
    | none => none
theorem evalH_all : ∀ {cs : List HC} {x : Exn} {τ : Tau} {ds : List D}, evalH cs x τ = some ds → ds.all scal = true ∧ ds.length = cs.length
  | [], _, _, _, h => by cases h; exact ⟨rfl, rfl⟩
  | c :: cs, x, τ, ds, h => by
    unfold evalH at h
    split at h
    · rename_i d e
      split at h
      · rename_i hs
        cases e2 : evalH cs x τ with
        | none => rw [e2] at h; cases h
        | some r =>
          rw [e2] at h
          cases h
          obtain ⟨h1, h2⟩ := evalH_all e2
          exact ⟨by simp [hs, h1], by simp [h2]⟩
      · cases h
    · cases h
def tHA (a dd : Addr) (i : Nat) (fs : List (Str × V)) (x : Exn) (cs : List HC) : TA := fun σ H Q => ∃ τ ds, evalH cs x τ = some ds ∧ Hs2 a dd i fs τ σ H ∧ ∀ H', Sub H H' → Q (ds.map vOf) H'
def HAOk (X : Cx) (i : Nat) (es : List Expr) (cs : List HC) : Prop := ∀ (a dd C : Addr) (oe : Obj) (pn : List (Addr × Obj)) (x : Exn) (fs : List (Str × V)), HCx X a dd C oe x fs → PA (X.suite a ((a, oe) :: pn)) es (tHA a dd i fs x cs)
section
variable {X : Cx} {i j : Nat} {e : Expr} {es : List Expr} {rest : List Stmt} {pos p p1 p2 p3 : Pos} {c : HC} {cs : List HC} {r : HSC} {x1 : Nat}
theorem haok_nil : HAOk X i [] [] := fun a dd C oe pn x fs hx => pa_mono pa_nil fun σ H Q ⟨τ, ds, e1, h2, q⟩ => by
  cases e1; exact q H (Sub.refl H)
theorem haok_cons (h : HEOk X i e c) (r : HAOk X i es cs) (hs : starEach (e :: es) X.env = (false, eval e X.env) :: starEach es X.env := by rfl) : HAOk X i (e :: es) (c :: cs) := fun a dd C oe pn x fs hx =>
  pa_mono (pa_cons (h a dd C oe pn x fs hx) (r a dd C oe pn x fs hx) hs) fun σ H Q ⟨τ, ds, e1, h2, q⟩ => by
    unfold evalH at e1
    split at e1
    · rename_i d e2
      split at e1
      · rename_i s1
        cases e3 : evalH cs x τ with
        | none => rw [e3] at e1; cases e1
        | some rr =>
          rw [e3] at e1
          cases e1
          exact ⟨τ, d, e2, s1, h2, fun H1 k1 => ⟨τ, rr, e3, h2.sub k1, fun H2 k2 => q H2 (k1.trans k2)⟩⟩
      · cases e1
    · cases e1
def hsRetT (cs : List HC) : HSC := fun x τ => (evalH cs x τ).map fun ds => .ret (.tuple ds)
def hsRet (c : HC) : HSC := fun x τ => match c x τ with
  | some d => if scal d = true then some (.ret d) else none
  | none => none
def hsSetT (j : Nat) (cs : List HC) : HSC := fun x τ => (evalH cs x τ).map fun ds => .set j (.tuple ds)
def hsLet (i j : Nat) (c : HC) (r : HSC) : HSC := fun x τ => match c x τ with
  | some d => if scal d = true ∧ j ≠ i then (match r x [(j, d)] with
    | some (.ret d') => some (.ret d')
    | _ => none) else none
  | none => none
theorem hs_retT (h : HAOk X i es cs) (hl : cs.length ≤ 1000) : HSOk X i [.Return (some (.Tuple es x1 p2)) pos] (hsRetT cs) := fun a dd C oe pn x fs hx =>
  pss_mono (pss_one (ps_ret (pe_tup (h a dd C oe pn x fs hx)))) fun D σ H ⟨hn, τ, act, e1, h2, q⟩ => by
    unfold hsRetT at e1
    cases e2 : evalH cs x τ with
    | none => rw [e2] at e1; cases e1
    | some ds =>
      rw [e2] at e1
      cases e1
      have hz := (evalH_all e2).2
      rcases q with ⟨s1, _⟩ | ⟨ds', e3, _, _, q⟩
      · cases s1
      · cases e3
        exact ⟨τ, ds, e2, h2, fun H' k => ⟨by rw [List.length_map, sizeLine_eq]; omega, fun p hp => q p H' k hp⟩⟩
theorem hs_ret1 (h : HEOk X i e c) : HSOk X i [.Return (some e) pos] (hsRet c) := fun a dd C oe pn x fs hx =>
  pss_mono (pss_one (ps_ret (h a dd C oe pn x fs hx))) fun D σ H ⟨hn, τ, act, e1, h2, q⟩ => by
    unfold hsRet at e1
    split at e1
    · rename_i d e2
      split at e1
      · rename_i s1
        cases e1
        rcases q with ⟨_, q⟩ | ⟨ds', e3, _, _, q⟩
        · exact ⟨τ, d, e2, s1, h2, q⟩
        · subst e3; cases s1
      · cases e1
    · cases e1
theorem hs_setT {y : Str} (hnd : X.N.Nodup) (h : HAOk X i es cs) (hl : cs.length ≤ 1000) (hN : X.N[j]? = some y := by rfl) (hx : Loc X.env.scope y := by first | exact Or.inl rfl | exact Or.inr rfl) (hs : swapsWith (.Tuple es x1 p3) (some (.Name y p2)) pos.line X.env = pure false := by rfl)
    (hf : X.fn y = true ∨ X.env.scope.names.lookup y = some .local := by first | exact .inl rfl | exact .inr rfl) : HSOk X i [.Assign [.Name y p2] (.Tuple es x1 p3) pos] (hsSetT j cs) := fun a dd C oe pn x fs hx' =>
  pss_mono (pss_one (ps_set (X := X.suite a ((a, oe) :: pn)) hnd hN hx (pe_tup (h a dd C oe pn x fs hx')) hs hf)) fun D σ H ⟨hn, τ, act, e1, h2, q⟩ => by
    unfold hsSetT at e1
    cases e2 : evalH cs x τ with
    | none => rw [e2] at e1; cases e1
    | some ds =>
      rw [e2] at e1
      cases e1
      have hz := (evalH_all e2).2
      obtain ⟨ds', e3, _, _, q⟩ := q
      cases e3
      exact ⟨τ, ds, e2, h2, fun H' k => ⟨by rw [List.length_map, sizeLine_eq]; omega, fun p hp => q p H' k hp⟩⟩
theorem hs_let {y : Str} (j : Nat) (hnd : X.N.Nodup) (h : HEOk X i e c) (hr : HSOk X i rest r) (hN : X.N[j]? = some y := by rfl) (hx : Loc X.env.scope y := by first | exact Or.inl rfl | exact Or.inr rfl) (hs : swapsWith e (some (.Name y p2)) pos.line X.env = pure false := by rfl)
    (hf : X.fn y = true ∨ X.env.scope.names.lookup y = some .local := by first | exact .inl rfl | exact .inr rfl) : HSOk X i (.Assign [.Name y p2] e pos :: rest) (hsLet i j c r) := fun a dd C oe pn x fs hx' =>
  pss_mono (pss_cons (ps_set (X := X.suite a ((a, oe) :: pn)) hnd hN hx (h a dd C oe pn x fs hx') hs hf) (hr a dd C oe pn x fs hx')) fun D σ H ⟨hn, τ, act, e1, h2, q⟩ => by
    have hj : j < σ.length := Nat.lt_of_lt_of_le (List.getElem?_eq_some_iff.mp hN).1 hn
    unfold hsLet at e1
    split at e1
    · rename_i d e2
      split at e1
      · rename_i s1
        split at e1
        · rename_i d' e3
          cases e1
          refine ⟨τ, d, e2, s1.1, h2, fun H' k => ⟨by rw [List.length_set]; exact hn, [(j, d)], .ret d', e3, ⟨⟨?_, k _ _ h2.1.2⟩, fun j' d2 hm => ?_⟩, ?_⟩⟩
          · rw [List.getElem?_set_ne s1.2]; exact h2.1.1
          · simp at hm
            obtain ⟨rfl, rfl⟩ := hm
            exact List.getElem?_set_self hj
          · rcases q with ⟨s2, q⟩ | ⟨ds, e4, s2, s3, q⟩
            · exact .inl ⟨s2, fun H2 k2 => q H2 (k.trans k2)⟩
            · exact .inr ⟨ds, e4, s2, s3, fun p H2 k2 hp => q p H2 (k.trans k2) hp⟩
        · cases e1
      · cases e1
    · cases e1
end
/-! ### try -/
structure HCl2 where
  cls : Str
  slot : Nat
  act : HSC
def okTup (d : D) : Bool := match d with
  | .tuple ds => ds.all scal && decide (ds.length ≤ 1000)
  | _ => false
def hRun2 (sub : Str → Str → Option Bool) : List HCl2 → Exn → SC
  | [], x, ρ => .err x ρ
  | c :: r, x, ρ => match sub x.cls c.cls with
    | some true => if x.fs ≠ [] ∧ c.slot < ρ.length then (match c.act x [] with
      | some (.ret d) => if scal d = true ∨ okTup d = true then .ret (.fz d) else .stuck
      | some (.set j d) => if okTup d = true then .next ((ρ.set j (some (.own (.fz d)))).set c.slot none) else .stuck
      | none => .stuck) else .stuck
    | some false => hRun2 sub r x ρ
    | none => .stuck
def sTry2 (sub : Str → Str → Option Bool) (b : SC) (cl : List HCl2) : SC := fun ρ => match b ρ with
  | .err x ρ' => hRun2 sub cl x ρ'
  | r => r
def tsOf2 (K : Frag) (mg : Str → Option Value) (sub : Str → Str → Option Bool) (c : HCl2) (a : Addr) (cls : Value) (d : Option Addr) : TS := fun D σ H => ∃ (C dd : Addr) (fs : List (Str × V)) (x : Exn) (act : HAct),
  cls = .ref C ∧ mg x.cls = some (.ref C) ∧ d = some dd ∧ FsR fs x.fs ∧ c.act x [] = some act ∧ Hst a dd c.slot fs σ H ∧ tAct act D σ H
theorem hcl_ts2 {X : Cx} {sub : Str → Str → Option Bool} {c : HCl2} {suite : List Stmt} (h : HSOk X c.slot suite c.act) (a : Addr) (oe : Obj) (cls : Value) (d : Option Addr) (pn : List (Addr × Obj)) (hz : Zc cls d oe) (hf : ∃ vs, oe.data = .fields vs) :
    PSs (X.suite a ((a, oe) :: pn)) suite (tsOf2 X.K X.mg sub c a cls d) := by
  refine ⟨fun pins s σ H D I q => ?_⟩
  obtain ⟨C, dd, fs, x, act, rfl, q1, rfl, q2, q3, q4, q5⟩ := q
  exact (h a dd C oe pn x fs ⟨q1, hz, hf, q2⟩).run pins s σ H D I ⟨Nat.le_of_eq I.len.symm, [], act, q3, ⟨q4, fun _ _ z => by cases z⟩, q5⟩
inductive HClsOk2 (X : Cx) (sub : Str → Str → Option Bool) : List ExceptHandler → List HCl2 → List Cl → Prop
  | nil : HClsOk2 X sub [] [] []
  | cons {x n : Str} {u : Value} {c : HCl2} {b₀ : Stmt} {suite : List Stmt} {np pos' : Pos} {hds : List ExceptHandler} {cl : List HCl2} {l : List Cl} (hi : X.N[c.slot]? = some n) (hln : X.env.kindOf n = some .local) (hc : Names X x u)
      (hx : ∀ xc C k, sub xc c.cls = some k → X.mg xc = some (.ref C) → PySem.W.exmOne X.K (.ref C) u = some k) (hsu : HSOk X c.slot (b₀ :: suite) c.act) (r : HClsOk2 X sub hds cl l) :
      HClsOk2 X sub (.ExceptHandler (some (.Name x np)) (some n) (b₀ :: suite) pos' :: hds) (c :: cl) ((u, c.slot, tsOf2 X.K X.mg sub c) :: l)
theorem HClsOk2.clsOk {X : Cx} {sub : Str → Str → Option Bool} : ∀ {hds : List ExceptHandler} {cl : List HCl2} {l : List Cl}, HClsOk2 X sub hds cl l → ClsOk X hds l
  | _, _, _, .nil => .nil
  | _, _, _, .cons hi hln hc hx hsu r => .cons hi hln hc (fun a oe cls d pn hz hf => hcl_ts2 hsu a oe cls d pn hz hf) r.clsOk
/-- clauses, those whose classes stand in ErrF -/
inductive HCs (X : Cx) (sub : Str → Str → Option Bool) : List ExceptHandler → List HCl2 → Prop
  | nil : HCs X sub [] []
  | cons {n : Str} {c : HCl2} {b₀ : Stmt} {suite : List Stmt} {np pos' : Pos} {hds : List ExceptHandler} {cl : List HCl2} (hi : X.N[c.slot]? = some n) (hln : X.env.kindOf n = some .local) (hg : Gl X c.cls) (hdb : (c.cls == ("__debug__" : Str)) = false)
      (hsu : HSOk X c.slot (b₀ :: suite) c.act) (r : HCs X sub hds cl) : HCs X sub (.ExceptHandler (some (.Name c.cls np)) (some n) (b₀ :: suite) pos' :: hds) (c :: cl)
theorem HCs.ok2 {X : Cx} {sub : Str → Str → Option Bool} {cls ys flds : List Str} (G : ErrF X.K X.mg cls ys flds sub) : ∀ {hds : List ExceptHandler} {cl : List HCl2}, HCs X sub hds cl → (∀ c ∈ cl, c.cls ∈ ys) → ∃ l, HClsOk2 X sub hds cl l
  | _, _, .nil, _ => ⟨_, .nil⟩
  | _, _, .cons (c := c) hi hln hg hdb hsu r, hy => by
    obtain ⟨l, hl⟩ := HCs.ok2 G r fun c hc => hy c (List.mem_cons_of_mem _ hc)
    obtain ⟨v, u, hu, hv⟩ := G.nm c.cls (hy c List.mem_cons_self)
    exact ⟨_, .cons (u := u) hi hln ⟨hg, hdb, hu⟩ (fun xc C k hs hm => ((G.is xc c.cls k hs).2.2 C v u hm hu hv).2) hsu hl⟩
section
variable {X : Cx} {sub : Str → Str → Option Bool} {W : WX} {D : Ends} {H0 F0 : Hp}
theorem fz_tup {K : Frag} {H F : Hp} {ds : List PyData} {p : Addr} (hs : ds.all scal = true) (hf : Sub F H) (hp : H p = none) : ∃ F', Gr H F (upd H p (.tup (ds.map vOf))) F' ∧ OR K (upd H p (.tup (ds.map vOf))) F' (.ref p) (.fz (.tuple ds)) [] := by
  have g : Gr H F (upd H p (.tup (ds.map vOf))) F := Gr.laid hf hp
  have fp := hf.none hp
  have g2 := g.frozen (A := [p]) (fun a h => by simp at h; subst h; exact hp) (fun a h => by simp at h; subst h; exact fp)
  exact ⟨_, g2, OR.fz (.tup (.of (by rw [frz_in (by simp)]; exact upd_same)) (RpAll.scal _ hs))⟩
theorem hRun2_ok {x : Exn} {cls : Value} {d : Option Addr} {σ : S} {H F : Hp} {ρ : Rho} (s : SR X.K H0 F0 σ H F ρ) (xo : XOk X.K X.mg F H cls d x) : ∀ {hds : List ExceptHandler} {cl : List HCl2} {l : List Cl}, HClsOk2 X sub hds cl l → GoodS X.K X.mg H0 F0 W D (hRun2 sub cl x ρ) → wCls X.K W D l cls d σ H
  | _, _, _, .nil, g => g cls d σ H F s xo
  | _, c :: cl, _, .cons hi hln hc hx hsu r, g => by
    obtain ⟨C, m1, rfl, fsx⟩ := id xo
    unfold hRun2 at g
    cases es : sub x.cls c.cls with
    | none => rw [es] at g; exact g.elim
    | some k =>
      rw [es] at g
      refine ⟨k, hx _ _ _ es m1, fun hk a ha => ?_, fun hk => ?_⟩
      · subst hk
        simp only at g
        by_cases hcnd : x.fs ≠ [] ∧ c.slot < ρ.length
        · rw [if_pos hcnd] at g
          rcases fsx with z | ⟨dd, fs, rfl, hdd, hfs⟩
          · exact absurd z hcnd.1
          · have hst : Hst a dd c.slot fs (σ.set c.slot (some (.ref a))) H := ⟨List.getElem?_set_self (by have := s.len; have := hcnd.2; omega), hdd⟩
            have grow : ∀ {H' : Hp}, Sub H H' → Gr H F H' F := fun {H'} k => ⟨k, Sub.refl _, fun _ h => .inl h, s.sub.trans k⟩
            cases er : c.act x [] with
            | none => rw [er] at g; exact g.elim
            | some act =>
              rw [er] at g
              cases act with
              | ret d' =>
                simp only at g
                by_cases ho : scal d' = true ∨ okTup d' = true
                · rw [if_pos ho] at g
                  refine ⟨C, dd, fs, x, .ret d', rfl, m1, rfl, hfs.fsR, er, hst, ?_⟩
                  by_cases hsc : scal d' = true
                  · exact .inl ⟨hsc, fun H' k => g (vOf d') H' F [] (s.gr.trans (grow k)) (OR.fz (Rp.scal F hsc)) fun _ z => by cases z⟩
                  · have ht : okTup d' = true := ho.resolve_left hsc
                    cases d' with
                    | tuple ds =>
                      have ht : (ds.all scal && decide (ds.length ≤ 1000)) = true := ht
                      rw [Bool.and_eq_true, decide_eq_true_eq] at ht
                      refine .inr ⟨ds, rfl, ht.1, ht.2, fun p H' k hp => ?_⟩
                      obtain ⟨F', g', oo⟩ := fz_tup (K := X.K) (F := F) ht.1 (s.sub.trans k) hp
                      exact g (.ref p) _ F' [] ((s.gr.trans (grow k)).trans g') oo fun _ z => by cases z
                    | _ => cases ht
                · rw [if_neg ho] at g; exact g.elim
              | set j d' =>
                simp only at g
                by_cases ht : okTup d' = true
                · rw [if_pos ht] at g
                  refine ⟨C, dd, fs, x, .set j d', rfl, m1, rfl, hfs.fsR, er, hst, ?_⟩
                  cases d' with
                  | tuple ds =>
                    have ht : (ds.all scal && decide (ds.length ≤ 1000)) = true := ht
                    rw [Bool.and_eq_true, decide_eq_true_eq] at ht
                    refine ⟨ds, rfl, ht.1, ht.2, fun p H' k hp => ?_⟩
                    obtain ⟨F', g', oo⟩ := fz_tup (K := X.K) (F := F) ht.1 (s.sub.trans k) hp
                    obtain ⟨A0, sa0⟩ := (s.step ((grow k).trans g')).sra
                    obtain ⟨A1, sa1, _⟩ := sa0.wipe1 c.slot
                    obtain ⟨A2, sa2, _⟩ := sa1.set (i := j) (x := .ref p) (sl := .own (.fz (.tuple ds))) (B := []) ⟨oo, fun _ z => by cases z⟩ fun _ z => by cases z
                    obtain ⟨A3, sa3, _⟩ := sa2.wipe1 c.slot
                    have e1 : ∀ {α : Type} (l : List (Option α)) (v : Option α), ((l.set c.slot none).set j v).set c.slot none = (l.set j v).set c.slot none := fun l v => by
                      by_cases hj : j = c.slot
                      · subst hj; simp
                      · rw [List.set_comm _ _ (Ne.symm hj)]; simp
                    have e2 : ((σ.set c.slot (some (.ref a))).set j (some (.ref p))).set c.slot none = (σ.set j (some (.ref p))).set c.slot none := by
                      by_cases hj : j = c.slot
                      · subst hj; simp
                      · rw [List.set_comm _ _ (Ne.symm hj)]; simp
                    show D.nx (((σ.set c.slot (some (.ref a))).set j (some (.ref p))).set c.slot none) _
                    rw [e2]
                    have s3 := sa3.sr
                    rw [e1, e1] at s3
                    exact g _ _ _ s3
                  | _ => cases ht
                · rw [if_neg ht] at g; exact g.elim
        · rw [if_neg hcnd] at g; exact g.elim
      · subst hk
        exact hRun2_ok s xo r g
theorem sok_try2 {cls ys flds : List Str} {body : List Stmt} {b : SC} {h₀ : ExceptHandler} {hds : List ExceptHandler} {cl : List HCl2} {pos : Pos} (G : ErrF X.K X.mg cls ys flds sub) (hs : X.stack = X.env :: X.outer) (hf : X.env.frame = some X.env.locals) (hN : X.N.Nodup)
    (hb : ∀ (pn : List (Addr × Obj)) (xe : Value → Shared → Prop), PassesOwn (model X.prog X.w) X.A X.env xe → BOk (X.tr pn xe) body b) (hh : HCs X sub (h₀ :: hds) cl) (hy : ∀ c ∈ cl, c.cls ∈ ys) : SOk X (.Try body (h₀ :: hds) [] [] pos) (sTry2 sub b cl) := fun W tk => by
  obtain ⟨l, hl⟩ := hh.ok2 G hy
  exact ps_mono (ps_try_cls (tb := fun W' => rdS X.K X.mg b W') (Wout := W) hs hf hN tk (fun W' pn xe tk' hp => hb pn xe hp W' tk') hl.clsOk) fun D σ H ⟨H0, F0, F, ρ, s, h⟩ => by
    refine ⟨H0, F0, F, ρ, s, ?_⟩
    unfold sTry2 at h
    cases e : b ρ with
    | err x ρ' =>
      rw [e] at h
      exact fun cls d σ' H' F' s' xo => hRun2_ok s' xo hl h
    | _ => rw [e] at h; exact h
end
end VL

set_option Elab.async false
set_option linter.all false
set_option maxRecDepth 100000
set_option maxHeartbeats 4000000
/-! VE12: a def called within a clause (it raises nothing, walks no loop). -/
namespace VL
open PySem PySem.Spec PyProof.Rows L2
structure FnW (P : Program) (w : World) (K : Frag) (mg : Str → Option Value) (base : Heap) (k : Nat) (f : Addr) (fd : FuncData) (ps : List Str) (sp : Sp) : Prop where
  len : ∀ vs H Q E, sp vs H Q E → vs.length = ps.length
  run : ∀ (A : Around) (outer : List Env) (s : Shared) (H : Hp) (args : Args) (us : List Value) (vs : List V) (Q : VK) (E : XK), L2H.RoomH k A → Env0 P w K mg base A outer s H →
    BindsTo s fd args (ps.zip us) → Vals vs us → sp vs H Q E → codeAny (model P w) A (.call (.ref f) args) (CR (L2.CX P w) outer P w H s Q E) s
/-- the context of such a def's body -/
def cxW (P : Program) (w : World) (K : Frag) (mg : Str → Option Value) (base : Heap) (N : List Str) (qual : Str) (scope : Scope) (f : Addr) (cd : Value) (A : Around) (outer : List Env) (s : Shared) (H : Hp) (E : XK) : Cx :=
  { cxOf (L2.CX P w) P w K mg base N qual scope f cd A outer s H E with calm := false }
section
variable {P : Program} {w : World} {K : Frag} {mg : Str → Option Value} {base : Heap}
theorem inv_cool {N : List Str} {qual : Str} {scope : Scope} {f : Addr} {cd : Value} {A A0 : Around} {outer : List Env} {s s1 : Shared} {H : Hp} {E : XK} {σ : S}
    (I : Inv (cxOf (L2.CX P w) P w K mg base N qual scope f cd A0 outer s H E) [] σ H s1) (hf : A.frames = some outer) : Inv (cxW P w K mg base N qual scope f cd A outer s H E) [] σ H s1 :=
  have k := I.ok
  ⟨⟨k.mod, k.kind, k.glob, k.blt, k.above, k.inj, k.has, k.cab, fun z => absurd (show false = true from z) Bool.false_ne_true, Around.frames_deeper hf, .inr ⟨rfl, rfl⟩, k.exf, k.bs, k.bsz, k.noex, k.exfs, k.funs, k.frf⟩, I.os, I.bare, I.base, I.loc, I.cell, I.free, I.freeC, I.pin, I.hok, I.len⟩
theorem fnw_of {k : Nat} {f : Addr} {fd : FuncData} {x qual : Str} {st : Stmt} {N ps : List Str} {sp : Sp} (F : Fun K x qual st f fd) (S : FnScope N ps (defScope st)) (len : ∀ vs H Q E, sp vs H Q E → vs.length = ps.length)
    (hbody : ∀ (cdv : Value) (A : Around) (outer : List Env) (s : Shared) (H : Hp) (vs : List V) (Q : VK) (E : XK), sp vs H Q E →
      ∃ t, PSs (cxW P w K mg base N qual (defScope st) f cdv A outer s H E) (defBody st) t ∧ t { nx := fun _ H' => Q .non H', rt := Q } (L2.start N vs) H) : FnW P w K mg base (k + 1) f fd ps sp := by
  obtain ⟨oc, od, kV, doc, pm, an, cdv, ct, osl, rfl, lk, hcd⟩ := F.ex
  refine ⟨len, fun A outer s H args us vs Q E hr e0 hb r hs => ?_⟩
  have KX : K.In s.heap := e0.mod.kin.keeps fun b o e => (e0.bs b o e).1
  have lim := e0.mod.nolimit.keeps fun b o e => (e0.bs b o e).1
  refine codeAny_call_function hr.depth (KX _ _ lk) rfl S.co S.gen rfl (PySem.W.codeRec_of KX hcd) (hb _ _ _ _ (wpAny_newFunctionEnv_cells S.kind (fun ⟨n, v⟩ hy => ?_) fun env he s1 x => ?_))
  · exact (S.par n (List.of_mem_zip hy).1).imp id fun q => ⟨q, PySem.W.cellsFrom_some _ _ _ (.inl q)⟩
  · subst he
    refine ⟨lim.keeps x.toInCall.keep, codeAny_func ?_⟩
    obtain ⟨t, ht, hq⟩ := hbody cdv A outer s H vs Q E hs
    have e1 : Env0 P w K mg base { A with handled := none } outer s H := ⟨e0.frames, e0.mod, e0.bs, e0.bsz, e0.funs, e0.frf, e0.hok, e0.bare⟩
    have I := inv_cool (A := A) (inv_start (CX := L2.CX P w) (E := E) (qual := qual) (f := f) (cd := cdv) S rfl e1 (len _ _ _ _ hs) r x) e0.frames
    refine wpAny_mono (ht.run [] s1 (L2.start N vs) H _ I hq) (fun fl s' hz => ?_) fun e s' hz => hz
    cases fl with
    | ret u =>
      obtain ⟨v, σ', H', J, rv, q⟩ := hz
      exact ⟨v, H', J.os, J.bare, J.base, J.hok, rv, q⟩
    | next =>
      obtain ⟨σ', H', J, q⟩ := hz
      exact ⟨V.non, H', J.os, J.bare, J.base, J.hok, rfl, q⟩
    | brk =>
      obtain ⟨_, _, _, q⟩ := hz
      exact q.elim
    | cont =>
      obtain ⟨_, _, _, q⟩ := hz
      exact q.elim
abbrev FOkW (P : Program) (w : World) (K : Frag) (mg : Str → Option Value) (base : Heap) (k : Nat) (f : Addr) (fd : FuncData) (ps : List Str) (φ : Fn) : Prop := FnW P w K mg base k f fd ps (spV K mg ps.length φ)
theorem fokw_of {x qual : Str} {st : Stmt} {f : Addr} {fd : FuncData} {N ps : List Str} {k : Nat} {b : SC} (F : Fun K x qual st f fd) (S : FnScope N ps (defScope st))
    (hb : ∀ (cdv : Value) (A : Around) (outer : List Env) (s : Shared) (H : Hp) (E : XK), BOk (cxW P w K mg base N qual (defScope st) f cdv A outer s H E) (defBody st) b) :
    FOkW P w K mg base (k + 1) f fd ps (runBody b N.length) := by
  refine fnw_of F S (fun vs H Q E h => ?_) (fun cdv A outer s H vs Q E h => ?_)
  · obtain ⟨_, as, _, hl, hp, _⟩ := h
    rw [Paired.length hp, hl]
  · refine ⟨_, hb cdv A outer s H E (fun cls d _ H => E cls d H) (takes_of rfl rfl rfl rfl), ?_⟩
    obtain ⟨F0, as, hF, hl, hp, h⟩ := h
    have hpl : ps.length ≤ N.length := by have := congrArg List.length S.pre; rw [List.length_take] at this; omega
    have hvl := Paired.length hp
    refine ⟨H, F0, F0, as.map some ++ List.replicate (N.length - as.length) none, ⟨?_, Gr.refl hF, fun _ => [], fun i => ?_, fun _ _ _ _ z => by cases z⟩, ?_⟩
    · unfold L2.start
      simp only [List.length_append, List.length_map, List.length_replicate]
      omega
    · by_cases hi : i < as.length
      · rw [List.getElem?_append_left (by simpa using hi), List.getElem?_map, List.getElem?_eq_getElem hi]
        obtain ⟨v, hv, ho⟩ := ArgOk.get hp (List.getElem?_eq_getElem hi)
        have e0 : (L2.start N vs)[i]? = some (some v) := by rw [start_get, if_pos (by omega), hv]; rfl
        show SlOk K H H F0 (L2.start N vs) i [] (some (some as[i]))
        match as[i], ho with
        | .own (.fz d), ho => exact ⟨v, e0, OR.fz ho, fun _ z => by cases z⟩
        | .bor d, ho => exact ⟨rfl, v, e0, ho⟩
      · rw [List.getElem?_append_right (by simpa using Nat.le_of_not_lt hi), List.getElem?_replicate]
        split
        · rfl
        · rfl
    · unfold runBody at h
      cases e : b (as.map some ++ List.replicate (N.length - as.length) none) with
      | next ρ' => rw [e] at h; exact fun σ' H' F' s' => h .non H' F' [] s'.gr (OR.fz .non) fun _ z => by cases z
      | ret ow => rw [e] at h; exact h
      | brk _ => rw [e] at h; exact h.elim
      | cont _ => rw [e] at h; exact h.elim
      | err x ρ' => rw [e] at h; exact fun cls d σ' H' F' s' xo => h cls d H' F' s'.gr xo
      | stuck => rw [e] at h; exact h.elim
end
structure DfW (P : Program) (w : World) (K : Frag) (mg : Str → Option Value) (base : Heap) (k : Nat) (f : Addr) (fd : FuncData) (x : Str) (ps : List Str) (φ : Fn) : Prop where
  ok : FOkW P w K mg base k f fd ps φ
  hm : mg x = some (.ref f)
  hk : PySem.W.keepIn K (.ref f) = true
  hb : Binds K fd ps []
theorem DfW.mk' {P : Program} {w : World} {K : Frag} {mg : Str → Option Value} {base : Heap} {k : Nat} {f : Addr} {fd : FuncData} {x : Str} {ps : List Str} {φ : Fn} {qual : Str} {st : Stmt} (F : Fun K x qual st f fd) (hm : mg x = some (.ref f)) (hb : Binds K fd ps []) (ok : FOkW P w K mg base k f fd ps φ) : DfW P w K mg base k f fd x ps φ := ⟨ok, hm, F.kp, hb⟩
def hCall (φ : Fn) (c : HC) : HC := fun x τ => match c x τ with
  | some d => if scal d = true then (match φ [.own (.fz d)] with
    | .ok (.fz d') => some d'
    | _ => none) else none
  | none => none
theorem heok_call {X : Cx} {k k' i : Nat} {f : Addr} {fd : FuncData} {y : Str} {φ : Fn} {x : Str} {p pos : Pos} {e : Expr} {c : HC} (D : DfW X.prog X.w X.K X.mg X.base k f fd x [y] φ) (hr : Room k' X.A) (h : HEOk X i e c) (hk : k ≤ k' := by decide)
    (hg : Gl X x := by rfl) (hdb : (x == ("__debug__" : Str)) = false := by decide) (he : starEach [e] X.env = (false, eval e X.env) :: starEach [] X.env := by rfl) (hpl : (backTo pos (starEach [] X.env)).any (·.1) = false := by rfl) : HEOk X i (.Call (.Name x p) [e] [] pos) (hCall φ c) := fun a dd C oe pn z fs hx => by
  refine ⟨fun pins s σ H Q I ⟨τ, d', e1, s1, h2, q⟩ => ?_⟩
  unfold hCall at e1
  split at e1
  · rename_i d e2
    split at e1
    · rename_i sd
      split at e1
      · rename_i d2 e3
        cases e1
        refine wpAny_Call_Name_kw (ld_glob (X := X.suite a ((a, oe) :: pn)) I hg D.hm ?_ hdb)
        refine PySem.W.callWith_K (h₀ := X.base) I.ok.mod.kin D.hk (thn ((pa_cons (h a dd C oe pn z fs hx) pa_nil he).run pos pins s σ H (fun vs H1 => vs = [vOf d] ∧ Sub H H1) I ⟨τ, d, e2, sd, h2, fun H1 k1 => ⟨rfl, k1⟩⟩) fun us s1' ⟨vs, H1, I1, r, e4, k1⟩ => ⟨I1.kIn, ?_⟩) he hpl
        subst e4
        have hl : us.length = [y].length := by rw [← r.length]; rfl
        have b := D.hb s1' us I1.kIn (by rw [List.append_nil]; exact hl)
        rw [List.append_nil] at b
        have hsp : spV X.K X.mg [y].length φ [vOf d] H1 (fun v H' => v = vOf d' ∧ Sub H1 H') (fun _ _ _ => False) := by
          refine ⟨fun _ => none, [.own (.fz d)], (fun _ _ z => by cases z), rfl, .cons (Rp.scal _ sd) .nil, ?_⟩
          rw [e3]
          intro v H' F' A g o _
          exact ⟨(OR.fz_inv o).2.scal_eq s1, g.hh⟩
        have hroom : L2H.RoomH k (X.suite a ((a, oe) :: pn)).A := ⟨(L2H.roomH_of (hr.mono hk)).dp, (L2H.roomH_of (hr.mono hk)).un⟩
        refine wpAny_call (codeAny_mono (D.ok.run (X.suite a ((a, oe) :: pn)).A X.stack s1' H1 ⟨us, []⟩ us _ _ _ hroom I1.env0 b r hsp) fun rr s' hq => ?_)
        cases rr with
        | error er =>
          have tk : Takes (X.suite a ((a, oe) :: pn)) (fun _ _ _ _ => False) := fun u s' ⟨_, _, _, _, _, _, _, _, _, _, _, _, _, _, _, _, w⟩ => w
          exact passAt tk σ pins H1 s1' er s' I1 hq
        | ok fl =>
          cases fl with
          | ret u =>
            obtain ⟨v, H2, J2, r2, e5, k2⟩ := I1.after hq
            refine ⟨v, H2, J2, r2, ?_⟩
            subst e5
            exact q H2 (k1.trans k2)
          | next => exact False.elim hq
          | brk => exact False.elim hq
          | cont => exact False.elim hq
      · cases e1
    · cases e1
  · cases e1
end VL

set_option Elab.async false
set_option linter.all false
set_option maxRecDepth 100000
set_option maxHeartbeats 4000000
/-! VE13: for the head: from the facts of the written part to Rz and ErrF. -/
namespace VL
open PySem PySem.Spec PyProof.Rows L2
theorem oexC_mk {K : Frag} {nm q : Str} {C N : Addr} {bs bm : List Value} {sn : List Str} {sub : List Value} {ab : Bool} {col : Option Bool} {dd : Option Addr} {k0 k1 k2 k3 k5 : Option Value} (l : K.lookup C = some (excClassObj nm q C N bs bm true sn sub ab col dd k0 k1 k2 k3 k5 "ValueError.__new__"))
    (b : PySem.HandSPX.refsVE bm = true) (sa : PySem.W.findIn K (.ref C) "__setattr__" = some (some (.builtin "object.__setattr__"))) (ex : PySem.W.subIn K (.ref C) (.type "BaseException") = some true) (ty : PySem.W.typeIn K (.ref C) = some (.type "type")) (kp : PySem.W.keepIn K (.ref C) = true) : OexC K C :=
  ⟨⟨nm, q, N, bs, bm, sn, sub, ab, col, dd, k0, k1, k2, k3, k5, l, b⟩, sa, ex, ty, kp⟩
theorem iniC_mk {P : Program} {K : Frag} {C f cda cc : Addr} {qual : Str} {st : Stmt} {oc kV doc pm ct ccl cl : Value} {od an cdd cld : Option Addr} {osl ccs csl : Array (Option Value)} {vs : Array Value} {file : Str} {tf : Tok}
    (lf : K.lookup f = some ⟨oc, od, .func (PySem.W.ksFn "__init__" qual (defArgs st) (defBody st) (defScope st) .none kV doc pm an (.ref cda) ct cc), osl⟩) (cd : PySem.W.codeIn K (.ref cda) qual = true) (lc : K.lookup cda = some ⟨ccl, cdd, .fields vs, ccs⟩)
    (v2 : vs[2]? = some (.str file tf)) (ff : ((P.main.file : Str) == file) = true) (le : K.lookup cc = some ⟨cl, cld, .cell (some (.ref C)), csl⟩) (op : PySem.W.nsIn K PySem.cStatics "thirdparty.any" = some none)
    (ms : PySem.W.ks_superIn K C C "__init__" = some (some (.builtin "ValueError.__init__"))) (top : (P.main.scope.names.lookup ("super" : Str)).isSome = false) :
    IniC P K C f (PySem.W.ksFn "__init__" qual (defArgs st) (defBody st) (defScope st) .none kV doc pm an (.ref cda) ct cc) qual st :=
  ⟨⟨oc, od, kV, doc, pm, ct, an, cda, cc, osl, ccl, cdd, vs, ccs, file, tf, cl, cld, csl, rfl, lf, cd, lc, v2, ff, le⟩, op, ms, top⟩
theorem rz_mk {P : Program} {w : World} {K : Frag} {mg : Str → Option Value} {base : Heap} {C f : Addr} {fd : FuncData} {qual x self v fld txt : Str} {st : Stmt} {j : Nat} {p0 p1 p2 p3 p4 p5 q1 q2 q3 q4 : Pos} (T : OexC K C) (F : IniC P K C f fd qual st) (m : mg x = some (.ref C))
    (ic : PySem.W.findIn K (.ref C) "__init__" = some (some (.ref f))) (ti : PySem.W.typeIn K (.ref f) = some (.type "function")) (hno : PySem.W.findIn K (.ref C) fld = some none) (hs : mg "super" = none)
    (hev : SupEv qual (defScope st) txt j p0 p1 p2 p3 p4) (S : InScope [self, v] (defScope st))
    (hbody : defBody st = [.Expr (.Call (.Attribute (.Call (.Name "super" p0) [] [] p1) "__init__" p2) [.Constant (.str txt) j p3] [] p4) p5, .Assign [.Attribute (.Name self q1) fld q2] (.Name v q3) q4])
    (hp : ((defArgs st).posonlyargs ++ (defArgs st).args).head?.map (·.arg) = some self)
    (hb : ∀ (kV doc pm : Value) (an : Option Addr) (cdv ct : Value) (cc : Addr) (us : List Value), us.length = [self, v].length → bindArgs (PySem.W.ksFn "__init__" qual (defArgs st) (defBody st) (defScope st) .none kV doc pm an cdv ct cc) ⟨us, []⟩ = pure (([self, v] : List Str).zip us))
    (hd1 : (self == ("__debug__" : Str)) = false := by decide) (hd2 : (self == ("__classdict__" : Str)) = false := by decide) (hd3 : (v == ("__debug__" : Str)) = false := by decide) (hd4 : (v == ("__classdict__" : Str)) = false := by decide) : Rz P w K mg base x fld := by
  refine ⟨C, f, fd, [self, v], T, ic, ti, fnok_init1 hev S T F hs hno hbody hp hd1 hd2 hd3 hd4, ?_, m⟩
  obtain ⟨oc, od, kV, doc, pm, ct, an, cda, cc, osl, ccl, cdd, vs, ccs, file, tf, cl, cld, csl, rfl, _⟩ := F.ex
  exact .all fun us hl => hb kV doc pm an (.ref cda) ct cc us hl
def AllP {α : Type} (P : α → Prop) : List α → Prop
  | [] => True
  | a :: r => P a ∧ AllP P r
theorem AllP.of {α : Type} {P : α → Prop} : ∀ {l : List α}, AllP P l → ∀ a ∈ l, P a
  | [], _, a, h => by cases h
  | b :: r, ⟨h1, h2⟩, a, h => by
    rcases List.mem_cons.mp h with rfl | h
    · exact h1
    · exact AllP.of h2 a h
/-- a class of errors: what the written part says for its caught instances -/
def EC1 (K : Frag) (mg : Str → Option Value) (flds : List Str) (p : Str × Addr) : Prop := mg p.1 = some (.ref p.2) ∧ ExcC K p.2 ∧ AllP (fun f => PySem.W.findIn K (.ref p.2) f = some none) flds
def bsub (x y : Str) : Bool := x == y || (y == ("VaultError" : Str) || y == ("ValueError" : Str))
def subOf (cls ys : List Str) (x y : Str) : Option Bool := if x ∈ cls ∧ y ∈ ys then some (bsub x y) else none
theorem nodup_fst {α β : Type} {l : List (α × β)} (h : (l.map Prod.fst).Nodup) : ∀ {a : α} {b c : β}, (a, b) ∈ l → (a, c) ∈ l → b = c := by
  induction l with
  | nil => intro a b c h1; cases h1
  | cons p r ih =>
    intro a b c h1 h2
    rw [List.map_cons, List.nodup_cons] at h
    rcases List.mem_cons.mp h1 with e1 | e1 <;> rcases List.mem_cons.mp h2 with e2 | e2
    · rw [← e1] at e2; cases e2; rfl
    · exact absurd (List.mem_map_of_mem (f := Prod.fst) e2) (by rw [← e1] at h; exact h.1)
    · exact absurd (List.mem_map_of_mem (f := Prod.fst) e1) (by rw [← e2] at h; exact h.1)
    · exact ih h.2 e1 e2
theorem errf_mk {K : Frag} {mg : Str → Option Value} {flds : List Str} (cls : List (Str × Addr)) (ys : List (Str × V × Value)) (h1 : AllP (EC1 K mg flds) cls) (h2 : AllP (fun q : Str × V × Value => NameU mg q.1 q.2.2 ∧ ClsV q.2.1 q.2.2) ys)
    (h3 : AllP (fun p : Str × Addr => AllP (fun q : Str × V × Value => PySem.W.kitOne K (.ref p.2) q.2.2 = some (bsub p.1 q.1) ∧ PySem.W.exmOne K (.ref p.2) q.2.2 = some (bsub p.1 q.1)) ys) cls) : ErrF K mg (cls.map Prod.fst) (ys.map Prod.fst) flds (subOf (cls.map Prod.fst) (ys.map Prod.fst)) where
  ex := fun x hx C hm => by
    obtain ⟨p, hp, rfl⟩ := List.mem_map.mp hx
    obtain ⟨m, E, f⟩ := h1.of p hp
    rw [m] at hm
    cases hm
    exact ⟨E, ⟨E.hg, E.hk, E.hs, E.hd⟩, f.of⟩
  nm := fun y hy => by
    obtain ⟨q, hq, rfl⟩ := List.mem_map.mp hy
    obtain ⟨a, b⟩ := h2.of q hq
    exact ⟨_, _, a, b⟩
  is := fun x y b hb => by
    unfold subOf at hb
    split at hb
    · rename_i hc
      cases hb
      refine ⟨hc.1, hc.2, fun C v u hm hu hv => ?_⟩
      obtain ⟨p, hp, rfl⟩ := List.mem_map.mp hc.1
      obtain ⟨q, hq, rfl⟩ := List.mem_map.mp hc.2
      obtain ⟨m, _⟩ := h1.of p hp
      obtain ⟨n, _⟩ := h2.of q hq
      rw [m] at hm
      cases hm
      obtain rfl := hu.one n
      exact (h3.of p hp).of q hq
    · cases hb
theorem isAny_in {K : Frag} {mg : Str → Option Value} {cls ys flds : List Str} {sub : Str → Str → Option Bool} (G : ErrF K mg cls ys flds sub) {l : List Str} (hl : l ≠ []) (xc : Str) (k : Bool) (h : isAny sub xc l = some k) : xc ∈ cls := by
  cases l with
  | nil => exact absurd rfl hl
  | cons y r =>
    unfold isAny at h
    cases e : sub xc y with
    | none => rw [e] at h; cases h
    | some b => exact (G.is xc y b e).1
end VL

set_option Elab.async false
set_option linter.all false
set_option maxRecDepth 100000
set_option maxHeartbeats 2000000
/-! VP1: plain lemmas: arguments by their data, loops that look for a fault, raise and try. -/
namespace VL
open PySem
/-- an argument that is the data d -/
theorem rv_bor (i : Nat) (d : D) : Sl.rv i (.bor d) = if VL.scal d = true then .val (.fz d) else .bor d := rfl
def Is (s : Sl) (d : D) : Prop := s = .own (.fz d) ∨ s = .bor d
theorem Is.own (d : D) : Is (.own (.fz d)) d := .inl rfl
theorem Is.bor (d : D) : Is (.bor d) d := .inr rfl
theorem Is.rvd {s : Sl} {d : D} (h : Is s d) (i : Nat) : (s.rv i).d = d := by
  rcases h with rfl | rfl
  · rfl
  · rw [rv_bor]
    split <;> rfl
theorem slBor_is (d : D) : Is (slBor d) d := by
  unfold slBor
  split
  · exact .inl rfl
  · exact .inr rfl
theorem Is.arg {s : Sl} {d : D} (h : Is s d) (i : Nat) : Is (s.rv i).arg d := by
  rcases h with rfl | rfl
  · exact .inl rfl
  · rw [rv_bor]
    split
    · exact .inl rfl
    · exact .inr rfl
theorem Is.intv {s : Sl} {n : Int} (h : Is s (.int n)) (i : Nat) : s.rv i = .val (.fz (.int n)) := by rcases h with rfl | rfl <;> rfl
theorem Is.strv {s : Sl} {n : Str} (h : Is s (.str n)) (i : Nat) : s.rv i = .val (.fz (.str n)) := by rcases h with rfl | rfl <;> rfl
theorem Is.boolv {s : Sl} {n : Bool} (h : Is s (.bool n)) (i : Nat) : s.rv i = .val (.fz (.bool n)) := by rcases h with rfl | rfl <;> rfl
theorem Is.nonev {s : Sl} (h : Is s .none) (i : Nat) : s.rv i = .val (.fz .none) := by rcases h with rfl | rfl <;> rfl
theorem Is.scal {s : Sl} {d : D} (h : Is s d) (hs : scal d = true) (i : Nat) : s.rv i = .val (.fz d) := by
  rcases h with rfl | rfl
  · rfl
  · rw [rv_bor, if_pos hs]
/-- what a loop walks over -/
theorem Is.iter {s : Sl} {d : D} {ds : List D} (h : Is s d) (e : rowOf d = some ds) (i : Nat) : ∃ ss, (s.rv i).iter = some ss ∧ ss.length = ds.length ∧ ∀ (k : Nat) (x : D), ds[k]? = some x → ∃ t, ss[k]? = some t ∧ Is t x := by
  rcases h with rfl | rfl
  · refine ⟨ds.map slOf, ?_, by simp, fun k x hx => ⟨slOf x, by rw [List.getElem?_map, hx]; rfl, .inl rfl⟩⟩
    show (match rowOf d with | some ds => some (ds.map slOf) | none => Option.none) = _
    rw [e]
  · by_cases hs : VL.scal d = true
    · cases d <;> first | (cases e; done) | (cases hs; done)
    · refine ⟨ds.map slBor, ?_, by simp, fun k x hx => ⟨slBor x, by rw [List.getElem?_map, hx]; rfl, slBor_is x⟩⟩
      have : Sl.rv i (.bor d) = .bor d := by rw [rv_bor, if_neg hs]
      rw [this]
      show (match rowOf d with | some ds => some (ds.map slBor) | none => Option.none) = _
      rw [e]
theorem ev_var {i : Nat} {ρ : Rho} {s : Sl} (h : ρ[i]? = some (some s)) : eVar i ρ = .ok (s.rv i) := by unfold eVar; rw [h]
theorem enum_is {ss : List Sl} {k : Nat} {v : List Sl} (h : (enumS 0 ss)[k]? = some v) : ∃ t, ss[k]? = some t ∧ v = [.own (.fz (.int k)), t] := by
  rw [enumS_get] at h
  cases e : ss[k]? with
  | none => rw [e] at h; cases h
  | some t =>
    rw [e] at h
    simp at h
    refine ⟨t, rfl, ?_⟩
    rw [← h]
    rfl
/-- a loop: turn after turn, up to the end or to a turn that does not go on -/
theorem forL_to {tg : List Nat} {b : SC} (I : Nat → Rho → Prop) {r : SRes} (hr : ∀ ρ, r ≠ .next ρ ∧ r ≠ .cont ρ ∧ r ≠ .brk ρ) : ∀ {vs : List (List Sl)} {ρ : Rho} (n : Nat) (v : List Sl), vs[n]? = some v → ∀ k0, I k0 ρ →
    (∀ k v ρ, k < n → vs[k]? = some v → I (k0 + k) ρ → ∃ ρ', (b (setAll tg v ρ) = .next ρ' ∨ b (setAll tg v ρ) = .cont ρ') ∧ I (k0 + k + 1) ρ') → (∀ ρ, I (k0 + n) ρ → b (setAll tg v ρ) = r) → forL tg b vs ρ = r
  | [], _, _, _, h, _, _, _, _ => by simp at h
  | w :: vs, ρ, 0, v, h, k0, hI, _, hn => by
    simp at h; subst h
    have e := hn ρ hI
    unfold forL
    rw [e]
    cases r with
    | next ρ => exact absurd rfl (hr ρ).1
    | cont ρ => exact absurd rfl (hr ρ).2.1
    | brk ρ => exact absurd rfl (hr ρ).2.2
    | _ => rfl
  | w :: vs, ρ, n + 1, v, h, k0, hI, st, hn => by
    obtain ⟨ρ1, e, h1⟩ := st 0 w ρ (by omega) rfl hI
    have ih := forL_to I hr (vs := vs) (ρ := ρ1) n v (by simpa using h) (k0 + 1) h1 (fun k x ρ hk hx hI' => by
      have := st (k + 1) x ρ (by omega) (by simpa using hx) (by rw [show k0 + (k + 1) = k0 + 1 + k by omega]; exact hI')
      rw [show k0 + (k + 1) + 1 = k0 + 1 + k + 1 by omega] at this
      exact this) fun ρ hI' => hn ρ (by rw [show k0 + (n + 1) = k0 + 1 + n by omega]; exact hI')
    unfold forL
    rcases e with e | e <;> rw [e] <;> exact ih
theorem for_to {tg : List Nat} {it : IC} {b : SC} {vs : List (List Sl)} {ρ : Rho} (I : Nat → Rho → Prop) {r : SRes} (h : it ρ = .ok vs) (hr : ∀ ρ, r ≠ .next ρ ∧ r ≠ .cont ρ ∧ r ≠ .brk ρ) (n : Nat) (v : List Sl) (hv : vs[n]? = some v) (h0 : I 0 ρ)
    (st : ∀ k v ρ, k < n → vs[k]? = some v → I k ρ → ∃ ρ', (b (setAll tg v ρ) = .next ρ' ∨ b (setAll tg v ρ) = .cont ρ') ∧ I (k + 1) ρ') (hn : ∀ ρ, I n ρ → b (setAll tg v ρ) = r) : sFor tg it b ρ = r := by
  unfold sFor
  rw [h]
  exact forL_to I hr n v hv 0 h0 (fun k v ρ hk hv hI => by simpa using st k v ρ hk hv (by simpa using hI)) fun ρ hI => hn ρ (by simpa using hI)
theorem ret_np (ow : Ow) : ∀ ρ, SRes.ret ow ≠ .next ρ ∧ SRes.ret ow ≠ .cont ρ ∧ SRes.ret ow ≠ .brk ρ := fun ρ => ⟨nofun, nofun, nofun⟩
theorem err_np (x : Exn) (ρ' : Rho) : ∀ ρ, SRes.err x ρ' ≠ .next ρ ∧ SRes.err x ρ' ≠ .cont ρ ∧ SRes.err x ρ' ≠ .brk ρ := fun ρ => ⟨nofun, nofun, nofun⟩
/-- .. an end that some state gives -/
theorem forL_err {tg : List Nat} {b : SC} (I : Nat → Rho → Prop) {x : Exn} : ∀ {vs : List (List Sl)} {ρ : Rho} (n : Nat) (v : List Sl), vs[n]? = some v → ∀ k0, I k0 ρ →
    (∀ k v ρ, k < n → vs[k]? = some v → I (k0 + k) ρ → ∃ ρ', (b (setAll tg v ρ) = .next ρ' ∨ b (setAll tg v ρ) = .cont ρ') ∧ I (k0 + k + 1) ρ') → (∀ ρ, I (k0 + n) ρ → ∃ ρ', b (setAll tg v ρ) = .err x ρ') → ∃ ρ', forL tg b vs ρ = .err x ρ'
  | [], _, _, _, h, _, _, _, _ => by simp at h
  | w :: vs, ρ, 0, v, h, k0, hI, _, hn => by
    simp at h; subst h
    obtain ⟨ρ', e⟩ := hn ρ hI
    refine ⟨ρ', ?_⟩
    unfold forL
    rw [e]
  | w :: vs, ρ, n + 1, v, h, k0, hI, st, hn => by
    obtain ⟨ρ1, e, h1⟩ := st 0 w ρ (by omega) rfl hI
    obtain ⟨ρ', ih⟩ := forL_err I (vs := vs) (ρ := ρ1) n v (by simpa using h) (k0 + 1) h1 (fun k x ρ hk hx hI' => by
      have := st (k + 1) x ρ (by omega) (by simpa using hx) (by rw [show k0 + (k + 1) = k0 + 1 + k by omega]; exact hI')
      rw [show k0 + (k + 1) + 1 = k0 + 1 + k + 1 by omega] at this
      exact this) fun ρ hI' => hn ρ (by rw [show k0 + (n + 1) = k0 + 1 + n by omega]; exact hI')
    refine ⟨ρ', ?_⟩
    unfold forL
    rcases e with e | e <;> rw [e] <;> exact ih
theorem for_err {tg : List Nat} {it : IC} {b : SC} {vs : List (List Sl)} {ρ : Rho} (I : Nat → Rho → Prop) {x : Exn} (h : it ρ = .ok vs) (n : Nat) (v : List Sl) (hv : vs[n]? = some v) (h0 : I 0 ρ)
    (st : ∀ k v ρ, k < n → vs[k]? = some v → I k ρ → ∃ ρ', (b (setAll tg v ρ) = .next ρ' ∨ b (setAll tg v ρ) = .cont ρ') ∧ I (k + 1) ρ') (hn : ∀ ρ, I n ρ → ∃ ρ', b (setAll tg v ρ) = .err x ρ') : ∃ ρ', sFor tg it b ρ = .err x ρ' := by
  unfold sFor
  rw [h]
  exact forL_err I n v hv 0 h0 (fun k v ρ hk hv hI => by simpa using st k v ρ hk hv (by simpa using hI)) fun ρ hI => hn ρ (by simpa using hI)
/-- for x in ..: if not p(x): return False -- then: return True -/
theorem for_all {tg : List Nat} {it : IC} {b : SC} {ρ : Rho} {vs : List (List Sl)} (p : List Sl → Bool) (h : it ρ = .ok vs) (hs : ∀ v ∈ vs, ∀ w ∈ vs, setAll tg w (setAll tg v ρ) = setAll tg w ρ)
    (hb : ∀ v ∈ vs, b (setAll tg v ρ) = if p v = true then .next (setAll tg v ρ) else .ret (.fz (.bool false))) : sSeq (sFor tg it b) (sRet (eK (.bool true))) ρ = .ret (.fz (.bool (vs.all p))) := by
  have key : ∀ (ws : List (List Sl)) (ρ' : Rho), (∀ w ∈ ws, w ∈ vs) → (∀ w ∈ vs, setAll tg w ρ' = setAll tg w ρ) → (ws.all p = true → ∃ ρ2, forL tg b ws ρ' = .next ρ2) ∧ (ws.all p = false → forL tg b ws ρ' = .ret (.fz (.bool false))) := by
    intro ws
    induction ws with
    | nil => intro ρ' _ _; exact ⟨fun _ => ⟨ρ', rfl⟩, fun h => by cases h⟩
    | cons w ws ih =>
      intro ρ' hm hρ
      have hw := hm w List.mem_cons_self
      have e := hb w hw
      obtain ⟨i1, i2⟩ := ih (setAll tg w ρ) (fun x hx => hm x (List.mem_cons_of_mem _ hx)) fun x hx => hs w hw x hx
      rw [List.all_cons]
      unfold forL
      rw [hρ w hw, e]
      cases hp : p w with
      | true => simpa only [Bool.true_and, if_true] using And.intro i1 i2
      | false => simp
  obtain ⟨k1, k2⟩ := key vs ρ (fun _ h => h) fun _ _ => rfl
  unfold sSeq sFor
  rw [h]
  show (match forL tg b vs ρ with | .next ρ' => sRet (eK (.bool true)) ρ' | r => r) = _
  cases hp : vs.all p with
  | true =>
    obtain ⟨ρ2, e⟩ := k1 hp
    rw [e]
    rfl
  | false => rw [k2 hp]
/-! ### tests -/
theorem tb_v {a : EC} {ρ : Rho} {b : Bool} (h : a ρ = .ok (.val (.fz (.bool b)))) : VL.tB a ρ = .ok b := by unfold VL.tB; rw [h]; rfl
theorem not_v {a : TC} {ρ : Rho} {b : Bool} (h : a ρ = .ok b) : VL.tNot a ρ = .ok (!b) := by unfold VL.tNot; rw [h]; rfl
theorem or_t {a b : TC} {ρ : Rho} (h : a ρ = .ok true) : VL.tOr a b ρ = .ok true := by unfold VL.tOr; rw [h]; rfl
theorem or_v {a b : TC} {ρ : Rho} {x y : Bool} (h : a ρ = .ok x) (k : x = false → b ρ = .ok y) : VL.tOr a b ρ = .ok (x || y) := by
  cases x with
  | true => exact or_t h
  | false => exact or_f h (k rfl)
theorem and_v {a b : TC} {ρ : Rho} {x y : Bool} (h : a ρ = .ok x) (k : x = true → b ρ = .ok y) : VL.tAnd a b ρ = .ok (x && y) := by
  cases x with
  | true => exact and_t h (k rfl)
  | false => exact and_f h
theorem eq_t {a b : EC} {ρ : Rho} {i j : Int} (h : a ρ = .ok (.val (.fz (.int i)))) (h' : b ρ = .ok (.val (.fz (.int j)))) : VL.tB (eBin fEq a b) ρ = .ok (decide (i = j)) := tb_v (bin_v h h' (fEq_int _ _))
theorem ne_t {a b : EC} {ρ : Rho} {i j : Int} (h : a ρ = .ok (.val (.fz (.int i)))) (h' : b ρ = .ok (.val (.fz (.int j)))) : VL.tB (eBin fNe a b) ρ = .ok (!decide (i = j)) := tb_v (bin_v h h' (fNe_int _ _))
theorem lt_t {a b : EC} {ρ : Rho} {i j : Int} (h : a ρ = .ok (.val (.fz (.int i)))) (h' : b ρ = .ok (.val (.fz (.int j)))) : VL.tB (eBin fLt a b) ρ = .ok (decide (i < j)) := tb_v (bin_v h h' (lt_s _ _))
theorem le_t {a b : EC} {ρ : Rho} {i j : Int} (h : a ρ = .ok (.val (.fz (.int i)))) (h' : b ρ = .ok (.val (.fz (.int j)))) : VL.tB (eBin fLe a b) ρ = .ok (decide (i ≤ j)) := tb_v (bin_v h h' (le_s _ _))
theorem gt_t {a b : EC} {ρ : Rho} {i j : Int} (h : a ρ = .ok (.val (.fz (.int i)))) (h' : b ρ = .ok (.val (.fz (.int j)))) : VL.tB (eBin fGt a b) ρ = .ok (decide (j < i)) := tb_v (bin_v h h' (gt_s _ _))
theorem ge_t {a b : EC} {ρ : Rho} {i j : Int} (h : a ρ = .ok (.val (.fz (.int i)))) (h' : b ρ = .ok (.val (.fz (.int j)))) : VL.tB (eBin fGe a b) ρ = .ok (decide (j ≤ i)) := tb_v (bin_v h h' (ge_s _ _))
/-- if, its test known by a bool -/
theorem if_b {t : TC} {a b : SC} {ρ : Rho} {c : Bool} {r : SRes} (h : t ρ = .ok c) (ht : c = true → a ρ = r) (hf : c = false → b ρ = r) : sIf t a b ρ = r := by
  cases c with
  | true => exact if_t h (ht rfl)
  | false => exact if_f h (hf rfl)
theorem dT {p : Prop} [Decidable p] (h : p) {x : Res Bool} (e : x = .ok (decide p)) : x = .ok true := by rw [e, decide_eq_true h]
theorem dF {p : Prop} [Decidable p] (h : ¬ p) {x : Res Bool} (e : x = .ok (decide p)) : x = .ok false := by rw [e, decide_eq_false h]
theorem nT {p : Prop} [Decidable p] (h : ¬ p) {x : Res Bool} (e : x = .ok (!decide p)) : x = .ok true := by rw [e, decide_eq_false h]; rfl
theorem nF {p : Prop} [Decidable p] (h : p) {x : Res Bool} (e : x = .ok (!decide p)) : x = .ok false := by rw [e, decide_eq_true h]; rfl
/-! ### raise, try -/
theorem raise_v {x f : Str} {a : EC} {ρ : Rho} {d : D} (h : a ρ = .ok (.val (.fz d))) (hs : scal d = true) : sRaise x f a ρ = .err ⟨x, [(f, d)]⟩ ρ := by
  unfold sRaise
  rw [h]
  show (if scal d = true then SRes.err ⟨x, [(f, d)]⟩ ρ else .stuck) = _
  rw [if_pos hs]
theorem seq_e {a b : SC} {ρ ρ' : Rho} {x : Exn} (h : a ρ = .err x ρ') : sSeq a b ρ = .err x ρ' := by
  unfold sSeq; rw [h]
theorem run_err {b : SC} {n : Nat} {as : List Sl} {x : Exn} {ρ' : Rho} (ρ : Rho) (h : b ρ = .err x ρ') (hρ : as.map some ++ List.replicate (n - as.length) none = ρ := by rfl) : runBody b n as = .err x := by
  unfold runBody
  rw [hρ, h]
theorem call_err {φ : Fn} {cs : List EC} {ρ : Rho} {xs : List RV} {x : Exn} (h : VL.evalAll cs ρ = .ok xs) (k : φ (xs.map RV.arg) = .err x) : eCall φ cs ρ = .err x := by
  unfold eCall
  rw [h]
  show (φ (xs.map RV.arg)).bind _ = _
  rw [k]; rfl
theorem ret_e {a : EC} {ρ : Rho} {x : Exn} (h : a ρ = .err x) : sRet a ρ = .err x ρ := by
  unfold sRet; rw [h]
theorem set_e {i : Nat} {a : EC} {ρ : Rho} {x : Exn} (h : a ρ = .err x) : sSet i a ρ = .err x ρ := by
  unfold sSet; rw [h]
theorem ex_v {a : EC} {ρ : Rho} {x : RV} (h : a ρ = .ok x) : sEx a ρ = .next ρ := by
  unfold sEx; rw [h]
theorem ex_e {a : EC} {ρ : Rho} {x : Exn} (h : a ρ = .err x) : sEx a ρ = .err x ρ := by
  unfold sEx; rw [h]
theorem unp_e {tg : List Nat} {a : EC} {ρ : Rho} {x : Exn} (h : a ρ = .err x) : sUnp tg a ρ = .err x ρ := by
  unfold sUnp; rw [h]
theorem if_e {t : TC} {a b : SC} {ρ : Rho} {x : Exn} (h : t ρ = .err x) : sIf t a b ρ = .err x ρ := by
  unfold sIf; rw [h]
theorem un_e {f : RV → Res RV} {a : EC} {ρ : Rho} {x : Exn} (h : a ρ = .err x) : eUn f a ρ = .err x := by
  unfold eUn; rw [h]; rfl
theorem bin_e {f : RV → RV → Res RV} {a b : EC} {ρ : Rho} {x : Exn} (h : a ρ = .err x) : eBin f a b ρ = .err x := by
  unfold eBin; rw [h]; rfl
theorem ev_e {c : EC} {cs : List EC} {ρ : Rho} {x : Exn} (h : c ρ = .err x) : VL.evalAll (c :: cs) ρ = .err x := by
  unfold VL.evalAll; rw [h]; rfl
theorem call_ae {φ : Fn} {cs : List EC} {ρ : Rho} {x : Exn} (h : VL.evalAll cs ρ = .err x) : eCall φ cs ρ = .err x := by
  unfold eCall; rw [h]; rfl
theorem try_n {sub : Str → Str → Option Bool} {b : SC} {cl : List HCl2} {ρ ρ' : Rho} (h : b ρ = .next ρ') : sTry2 sub b cl ρ = .next ρ' := by
  unfold sTry2; rw [h]
theorem try_r {sub : Str → Str → Option Bool} {b : SC} {cl : List HCl2} {ρ : Rho} {ow : Ow} (h : b ρ = .ret ow) : sTry2 sub b cl ρ = .ret ow := by
  unfold sTry2; rw [h]
theorem try_e {sub : Str → Str → Option Bool} {b : SC} {cl : List HCl2} {ρ ρ' : Rho} {x : Exn} {r : SRes} (h : b ρ = .err x ρ') (k : hRun2 sub cl x ρ' = r) : sTry2 sub b cl ρ = r := by
  unfold sTry2; rw [h]; exact k
/-- what is an int between two bounds -/
def isNum (d : D) (lo hi : Int) : Bool := match d with
  | .int v => decide (lo ≤ v) && decide (v ≤ hi)
  | _ => false
theorem isNum_scal {d : D} {lo hi : Int} (h : isNum d lo hi = true) : ∃ v, d = .int v ∧ lo ≤ v ∧ v ≤ hi := by
  cases d with
  | int v =>
    have h : (decide (lo ≤ v) && decide (v ≤ hi)) = true := h
    simp at h
    exact ⟨v, rfl, h⟩
  | _ => cases h
/-- the first member that is bad -/
def firstBad (p : D → Bool) : List D → Nat → Option Nat
  | [], _ => none
  | d :: r, k => if p d = true then firstBad p r (k + 1) else some k
theorem firstBad_none {p : D → Bool} : ∀ {ds : List D} {k : Nat}, firstBad p ds k = none → ∀ d ∈ ds, p d = true
  | [], _, _, d, h => by cases h
  | e :: r, k, h, d, hd => by
    unfold firstBad at h
    split at h
    · rename_i he
      rcases List.mem_cons.mp hd with rfl | hd
      · exact he
      · exact firstBad_none h d hd
    · cases h
theorem firstBad_some {p : D → Bool} : ∀ {ds : List D} {k n : Nat}, firstBad p ds k = some n → ∃ j d, n = k + j ∧ ds[j]? = some d ∧ p d = false ∧ ∀ i x, i < j → ds[i]? = some x → p x = true
  | [], _, _, h => by cases h
  | e :: r, k, n, h => by
    unfold firstBad at h
    split at h
    · rename_i he
      obtain ⟨j, d, h1, h2, h3, h4⟩ := firstBad_some h
      refine ⟨j + 1, d, by omega, by simpa using h2, h3, fun i x hi hx => ?_⟩
      cases i with
      | zero => simp at hx; subst hx; exact he
      | succ i => exact h4 i x (by omega) (by simpa using hx)
    · rename_i he
      cases h
      exact ⟨0, e, rfl, rfl, by simpa using he, fun i x hi => by omega⟩
theorem firstBad_all {p : D → Bool} : ∀ {ds : List D} {k : Nat}, (∀ d ∈ ds, p d = true) → firstBad p ds k = none
  | [], _, _ => rfl
  | e :: r, k, h => by
    unfold firstBad
    rw [if_pos (h e List.mem_cons_self)]
    exact firstBad_all fun d hd => h d (List.mem_cons_of_mem _ hd)
theorem firstBad_at {p : D → Bool} {x : D} (hx : p x = false) : ∀ {ds es : List D} {k : Nat}, (∀ d ∈ ds, p d = true) → firstBad p (ds ++ x :: es) k = some (k + ds.length)
  | [], es, k, _ => by show firstBad p (x :: es) k = _; unfold firstBad; rw [if_neg (by simp [hx])]; rfl
  | e :: r, es, k, h => by
    show firstBad p (e :: (r ++ x :: es)) k = _
    unfold firstBad
    rw [if_pos (h e List.mem_cons_self), firstBad_at hx fun d hd => h d (List.mem_cons_of_mem _ hd)]
    simp [List.length_cons]; omega
theorem len_is {s : Sl} {d : D} {ds : List D} (h : Is s d) (e : rowOf d = some ds) (i : Nat) : fLen (s.rv i) = .ok (.val (.fz (.int ds.length))) := by
  have : (s.rv i).d = d := h.rvd i
  unfold fLen
  rw [this]
  cases d with
  | list _ => cases e; rfl
  | tuple _ => cases e; rfl
  | _ => cases e
theorem list_is {s : Sl} {d : D} {ds : List D} (h : Is s d) (e : rowOf d = some ds) (hs : ds.all scal = true) (i : Nat) : fList (s.rv i) = .ok (.val (.ls (ds.map Ow.fz))) := by
  rcases h with rfl | rfl
  · exact list_s e
  · cases d with
    | list _ => cases e; show (match (if ds.all scal = true then some (ds.map Ow.fz) else none) with | some xs => Res.ok (RV.val (.ls xs)) | none => .stuck) = _; rw [if_pos hs]
    | tuple _ => cases e; show (match (if ds.all scal = true then some (ds.map Ow.fz) else none) with | some xs => Res.ok (RV.val (.ls xs)) | none => .stuck) = _; rw [if_pos hs]
    | _ => cases e
/-! data compared with itself -/
theorem fNe_self {x y : RV} (e : x.d = y.d) (h : SeqAt.shaped y.d = true) : fNe x y = .ok (.val (.fz (.bool false))) := by
  unfold fNe
  rw [e, if_pos ⟨h, h⟩, PySem.SeqAt.eqv_refl _ (SeqAt.canLay_of_shaped h)]
  rfl
theorem fEq_self {x y : RV} (e : x.d = y.d) (h : SeqAt.shaped y.d = true) : fEq x y = .ok (.val (.fz (.bool true))) := by
  unfold fEq
  rw [e, if_pos ⟨h, h⟩, PySem.SeqAt.eqv_refl _ (SeqAt.canLay_of_shaped h)]
  rfl
/-- a place in a row of whole numbers -/
theorem Is.ixI {s : Sl} {L : List Int} (h : Is s (.list (dI L))) (i : Nat) {k : Int} {x : Int} (h0 : 0 ≤ k) (hx : L[k.toNat]? = some x) : fIx (s.rv i) (.val (.fz (.int k))) = .ok (.val (.fz (.int x))) := by
  rcases h with rfl | rfl
  · exact ix_I h0 hx
  · have hk : k < (dI L).length := by
      have := (List.getElem?_eq_some_iff.mp hx).1
      rw [dI_len]; omega
    show fIx (.bor (.list (dI L))) _ = _
    unfold fIx
    simp only [RV.d, Ow.toD, atI_nat (dI L) h0 hk, dI_get, hx, Option.map_some]
    rfl
theorem Is.lenI {s : Sl} {L : List Int} (h : Is s (.list (dI L))) (i : Nat) : fLen (s.rv i) = .ok (.val (.fz (.int L.length))) := by
  rw [len_is h rfl i, dI_len]
theorem rng1_of {a : EC} {ρ : Rho} {n : Nat} (h : a ρ = .ok (.val (.fz (.int n)))) (hn : n ≤ 1000) : iRng1 a ρ = .ok (rangeS 0 n) := rng1_s h (by omega) (by omega)
theorem mem_rangeS {lo hi : Int} {v : List Sl} (h : v ∈ rangeS lo hi) : ∃ k : Nat, v = [.own (.fz (.int (lo + k)))] ∧ k < (hi - lo).toNat := by
  obtain ⟨k, hk, e⟩ := List.mem_map.mp h
  exact ⟨k, e.symm, List.mem_range.mp hk⟩
theorem mem_rangeS0 {n : Nat} {v : List Sl} (h : v ∈ rangeS 0 n) : ∃ k : Nat, v = [.own (.fz (.int k))] ∧ k < n := by
  obtain ⟨k, e, hk⟩ := mem_rangeS h
  exact ⟨k, by rw [e, Int.zero_add], by omega⟩
theorem all_true {α : Type} {l : List α} {p : α → Bool} (h : ∀ a ∈ l, p a = true) : l.all p = true := List.all_eq_true.mpr h
/-- for k in ..: if not ..: return False -- then: return True; all turns go on -/
theorem for_ok {tg : List Nat} {it : IC} {b : SC} {ρ : Rho} {vs : List (List Sl)} (h : it ρ = .ok vs) (hs : ∀ v ∈ vs, ∀ w ∈ vs, setAll tg w (setAll tg v ρ) = setAll tg w ρ) (hb : ∀ v ∈ vs, b (setAll tg v ρ) = .next (setAll tg v ρ)) :
    sSeq (sFor tg it b) (sRet (eK (.bool true))) ρ = .ret (.fz (.bool true)) := by
  rw [for_all (fun _ => true) h hs fun v hv => by rw [hb v hv]; rfl]
  rw [all_true fun _ _ => rfl]
end VL

set_option Elab.async false
set_option linter.all false
set_option maxRecDepth 100000
set_option maxHeartbeats 2000000
/-! VP2: rules for running plain meanings by search. -/
namespace VL
open PySem
section
variable {a b : EC} {s t : TC} {ρ : Rho} {i j : Int}
abbrev IntE (a : EC) (ρ : Rho) (i : Int) : Prop := a ρ = .ok (.val (.fz (.int i)))
theorem lt_T (h : IntE a ρ i) (h' : IntE b ρ j) (k : i < j) : VL.tB (eBin fLt a b) ρ = .ok true := dT k (lt_t h h')
theorem lt_F (h : IntE a ρ i) (h' : IntE b ρ j) (k : ¬ i < j) : VL.tB (eBin fLt a b) ρ = .ok false := dF k (lt_t h h')
theorem le_T (h : IntE a ρ i) (h' : IntE b ρ j) (k : i ≤ j) : VL.tB (eBin fLe a b) ρ = .ok true := dT k (le_t h h')
theorem le_F (h : IntE a ρ i) (h' : IntE b ρ j) (k : ¬ i ≤ j) : VL.tB (eBin fLe a b) ρ = .ok false := dF k (le_t h h')
theorem gt_T (h : IntE a ρ i) (h' : IntE b ρ j) (k : j < i) : VL.tB (eBin fGt a b) ρ = .ok true := dT k (gt_t h h')
theorem gt_F (h : IntE a ρ i) (h' : IntE b ρ j) (k : ¬ j < i) : VL.tB (eBin fGt a b) ρ = .ok false := dF k (gt_t h h')
theorem ge_T (h : IntE a ρ i) (h' : IntE b ρ j) (k : j ≤ i) : VL.tB (eBin fGe a b) ρ = .ok true := dT k (ge_t h h')
theorem ge_F (h : IntE a ρ i) (h' : IntE b ρ j) (k : ¬ j ≤ i) : VL.tB (eBin fGe a b) ρ = .ok false := dF k (ge_t h h')
theorem eq_T (h : IntE a ρ i) (h' : IntE b ρ j) (k : i = j) : VL.tB (eBin fEq a b) ρ = .ok true := dT k (eq_t h h')
theorem eq_F (h : IntE a ρ i) (h' : IntE b ρ j) (k : ¬ i = j) : VL.tB (eBin fEq a b) ρ = .ok false := dF k (eq_t h h')
theorem ne_T (h : IntE a ρ i) (h' : IntE b ρ j) (k : ¬ i = j) : VL.tB (eBin fNe a b) ρ = .ok true := nT k (ne_t h h')
theorem ne_F (h : IntE a ρ i) (h' : IntE b ρ j) (k : i = j) : VL.tB (eBin fNe a b) ρ = .ok false := nF k (ne_t h h')
theorem not_T (h : t ρ = .ok false) : VL.tNot t ρ = .ok true := not_v h
theorem not_F (h : t ρ = .ok true) : VL.tNot t ρ = .ok false := not_v h
theorem and_T (h : s ρ = .ok true) (h' : t ρ = .ok true) : VL.tAnd s t ρ = .ok true := and_t h h'
theorem and_F (h : s ρ = .ok true) (h' : t ρ = .ok false) : VL.tAnd s t ρ = .ok false := and_t h h'
theorem or_T (h : s ρ = .ok false) (h' : t ρ = .ok true) : VL.tOr s t ρ = .ok true := or_f h h'
theorem or_F (h : s ρ = .ok false) (h' : t ρ = .ok false) : VL.tOr s t ρ = .ok false := or_f h h'
theorem ek_v (d : D) (ρ : Rho) : eK d ρ = .ok (.val (.fz d)) := rfl
theorem ev_f {k : Nat} {d : D} (h : ρ[k]? = some (some (.own (.fz d)))) : eVar k ρ = .ok (.val (.fz d)) := ev_var h
theorem ev_l {k : Nat} {xs : List Ow} (h : ρ[k]? = some (some (.own (.ls xs)))) : eVar k ρ = .ok (.ref k [] (.ls xs)) := ev_var h
theorem ev_p {k : Nat} {xs : List Ow} (h : ρ[k]? = some (some (.own (.tp xs)))) : eVar k ρ = .ok (.ref k [] (.tp xs)) := ev_var h
end
/-! rows of whole numbers -/
abbrev gD (L : List Int) (k : Int) : Int := L.getD k.toNat 0
theorem gD_get {L : List Int} {k : Int} (h : k.toNat < L.length) : L[k.toNat]? = some (gD L k) := by
  unfold gD
  rw [List.getD_eq_getElem?_getD, List.getElem?_eq_getElem h]; rfl
theorem gD_mem {L : List Int} {k : Int} (h : k.toNat < L.length) : gD L k ∈ L := List.mem_of_getElem? (gD_get h)
theorem ix_r {i : Nat} {L : List Int} {k : Int} (h : 0 ≤ k ∧ k < L.length) : fIx (.ref i [] (.ls (oI L))) (.val (.fz (.int k))) = .ok (.val (.fz (.int (gD L k)))) := fIx_oI h.1 (gD_get (by omega))
theorem ix_f {L : List Int} {k : Int} (h : 0 ≤ k ∧ k < L.length) : fIx (.val (.fz (.list (dI L)))) (.val (.fz (.int k))) = .ok (.val (.fz (.int (gD L k)))) := ix_I h.1 (gD_get (by omega))
theorem ix_l {L : List Int} {k : Int} (h : 0 ≤ k ∧ k < L.length) : fIx (.val (.ls (oI L))) (.val (.fz (.int k))) = .ok (.val (.fz (.int (gD L k)))) := by
  have := ix_val (ns := L) (k := k.toNat) (e := gD L k) (gD_get (by omega))
  rw [show ((k.toNat : Nat) : Int) = k by omega] at this
  exact this
/-- the arguments of a call -/
inductive ArgsE (ρ : Rho) : List EC → List Sl → Prop
  | nil : ArgsE ρ [] []
  | cons {c : EC} {cs : List EC} {x : RV} {s : Sl} {ss : List Sl} : c ρ = .ok x → x.arg = s → ArgsE ρ cs ss → ArgsE ρ (c :: cs) (s :: ss)
theorem arg_f {ρ : Rho} {c : EC} {cs : List EC} {d : D} {ss : List Sl} (h : c ρ = .ok (.val (.fz d))) (r : ArgsE ρ cs ss) : ArgsE ρ (c :: cs) (.own (.fz d) :: ss) := .cons h rfl r
theorem arg_l {ρ : Rho} {c : EC} {cs : List EC} {L : List Int} {ss : List Sl} (h : c ρ = .ok (.val (.ls (oI L)))) (r : ArgsE ρ cs ss) : ArgsE ρ (c :: cs) (.own (.fz (.list (dI L))) :: ss) := .cons h (by show Sl.own (.fz (Ow.ls (oI L)).toD) = _; rw [oI_toD]) r
theorem arg_r {ρ : Rho} {c : EC} {cs : List EC} {i : Nat} {p : List Nat} {L : List Int} {ss : List Sl} (h : c ρ = .ok (.ref i p (.ls (oI L)))) (r : ArgsE ρ cs ss) : ArgsE ρ (c :: cs) (.bor (.list (dI L)) :: ss) := .cons h (by show Sl.bor (Ow.ls (oI L)).toD = _; rw [oI_toD]) r
theorem args_ev {ρ : Rho} : ∀ {cs : List EC} {ss : List Sl}, ArgsE ρ cs ss → ∃ xs, VL.evalAll cs ρ = .ok xs ∧ xs.map RV.arg = ss
  | [], _, .nil => ⟨[], rfl, rfl⟩
  | c :: cs, _, .cons h e r => by
    obtain ⟨xs, h1, h2⟩ := args_ev r
    exact ⟨_ :: xs, ev_cons h h1, by rw [List.map_cons, h2, e]⟩
theorem call_a {φ : Fn} {cs : List EC} {ρ : Rho} {ss : List Sl} {ow : Ow} (h : ArgsE ρ cs ss) (k : φ ss = .ok ow) : eCall φ cs ρ = .ok (.val ow) := by
  obtain ⟨xs, h1, h2⟩ := args_ev h
  exact call_ok h1 (by rw [h2]; exact k)
inductive IntsE (ρ : Rho) : List EC → List Int → Prop
  | nil : IntsE ρ [] []
  | cons {c : EC} {cs : List EC} {i : Int} {L : List Int} : IntE c ρ i → IntsE ρ cs L → IntsE ρ (c :: cs) (i :: L)
theorem ints_ev {ρ : Rho} : ∀ {cs : List EC} {L : List Int}, IntsE ρ cs L → VL.evalAll cs ρ = .ok (L.map fun i => .val (.fz (.int i)))
  | [], _, .nil => rfl
  | c :: cs, _, .cons h r => ev_cons h (ints_ev r)
theorem owsOf_I : ∀ L : List Int, owsOf (L.map fun i => RV.val (.fz (.int i))) = some (oI L)
  | [] => rfl
  | i :: L => by
    show (match some (Ow.fz (.int i)), owsOf (L.map fun i => RV.val (.fz (.int i))) with | some o, some os => some (o :: os) | _, _ => none) = _
    rw [owsOf_I L]; rfl
theorem lst_I {ρ : Rho} {cs : List EC} {L : List Int} (h : IntsE ρ cs L) (hl : L.length ≤ 1000) : eLst cs ρ = .ok (.val (.ls (oI L))) := by
  unfold eLst
  rw [ints_ev h]
  show (match owsOf (L.map fun i => RV.val (.fz (.int i))) with | some os => _ | none => _) = _
  rw [owsOf_I]
  show (if (oI L).length ≤ 1000 then _ else _) = _
  rw [if_pos (by rw [oI_len]; exact hl)]
theorem app_I {i : Nat} {o a : EC} {ρ : Rho} {L : List Int} {z : Int} (h : o ρ = .ok (.ref i [] (.ls (oI L)))) (h' : IntE a ρ z) (hr : ρ[i]? = some (some (.own (.ls (oI L))))) (hl : L.length < 16777216) :
    sApp o a ρ = .next (ρ.set i (some (.own (.ls (oI (L ++ [z])))))) := by
  rw [app_s h h' hr (by rw [oI_len]; exact hl), oI_app]
theorem lst_nil {ρ : Rho} : eLst [] ρ = .ok (.val (.ls (oI []))) := rfl
theorem min_s (i j : Int) : fMin (.val (.fz (.int i))) (.val (.fz (.int j))) = .ok (.val (.fz (.int (min i j)))) := by
  show Res.ok (RV.val (.fz (.int (if j < i then j else i)))) = _
  have : (if j < i then j else i) = min i j := by rw [Int.min_def]; split <;> split <;> omega
  rw [this]
theorem max_s (i j : Int) : fMax (.val (.fz (.int i))) (.val (.fz (.int j))) = .ok (.val (.fz (.int (max i j)))) := by
  show Res.ok (RV.val (.fz (.int (if j > i then j else i)))) = _
  have : (if j > i then j else i) = max i j := by rw [Int.max_def]; split <;> split <;> omega
  rw [this]
theorem le_V {a b : EC} {ρ : Rho} {i j : Int} (h : IntE a ρ i) (h' : IntE b ρ j) : eBin fLe a b ρ = .ok (.val (.fz (.bool (decide (i ≤ j))))) := bin_v h h' (le_s _ _)
theorem ne_V {a b : EC} {ρ : Rho} {i j : Int} (h : IntE a ρ i) (h' : IntE b ρ j) : eBin fNe a b ρ = .ok (.val (.fz (.bool (!decide (i = j))))) := bin_v h h' (fNe_int _ _)
theorem intb_T {b : Bool} (h : b = true) : fInt (.val (.fz (.bool b))) = .ok (.val (.fz (.int 1))) := by subst h; rfl
theorem intb_F {b : Bool} (h : b = false) : fInt (.val (.fz (.bool b))) = .ok (.val (.fz (.int 0))) := by subst h; rfl
theorem intb_s (b : Bool) : fInt (.val (.fz (.bool b))) = .ok (.val (.fz (.int (if b then 1 else 0)))) := rfl
theorem pow_s (i j : Int) (h : 0 ≤ j ∧ j ≤ 1000000 ∧ i.natAbs < 2 ^ 64) : fPow (.val (.fz (.int i))) (.val (.fz (.int j))) = .ok (.val (.fz (.int (i ^ j.toNat)))) := by
  show (if 0 ≤ j ∧ j ≤ 1000000 ∧ i.natAbs < 2 ^ 64 then rD (.int (i ^ j.toNat)) else .stuck) = _
  rw [if_pos h]; rfl
theorem pass_v (ρ : Rho) : sPass ρ = .next ρ := rfl
theorem nx_of {s : SC} {ρ ρ' : Rho} {P : Rho → Prop} (h : s ρ = .next ρ') (k : P ρ') : ∃ ρ', (s ρ = .next ρ' ∨ s ρ = .cont ρ') ∧ P ρ' := ⟨ρ', .inl h, k⟩
theorem nx_ex {s : SC} {ρ ρ' : Rho} {P : Rho → Prop} (h : s ρ = .next ρ') (k : P ρ') : ∃ ρ', s ρ = .next ρ' ∧ P ρ' := ⟨ρ', h, k⟩
theorem ret_of {φ : Fn} {as : List Sl} {z : Int} {P : Int → Prop} (h : φ as = .ok (.fz (.int z))) (k : P z) : ∃ z, φ as = .ok (.fz (.int z)) ∧ P z := ⟨z, h, k⟩
theorem p18 (ρ : Rho) : eBin fPow (eK (.int 10)) (eK (.int 18)) ρ = .ok (.val (.fz (.int (10 ^ 18)))) := bin_v rfl rfl (pow_s 10 18 (by decide))
theorem p12 (ρ : Rho) : eBin fPow (eK (.int 10)) (eK (.int 12)) ρ = .ok (.val (.fz (.int (10 ^ 12)))) := bin_v rfl rfl (pow_s 10 12 (by decide))
theorem set_w {i : Nat} {a : EC} {ρ ρ' : Rho} {ow : Ow} (h : a ρ = .ok (.val ow)) (e : ρ.set i (some (.own ow)) = ρ') : sSet i a ρ = .next ρ' := by rw [← e]; exact set_v h
theorem app_w {i : Nat} {o a : EC} {ρ ρ' : Rho} {L : List Int} {z : Int} (h : o ρ = .ok (.ref i [] (.ls (oI L)))) (h' : IntE a ρ z) (hr : ρ[i]? = some (some (.own (.ls (oI L))))) (hl : L.length < 16777216)
    (e : ρ.set i (some (.own (.ls (oI (L ++ [z]))))) = ρ') : sApp o a ρ = .next ρ' := by rw [← e]; exact app_I h h' hr hl
/-- for k in range(n) -/
theorem for_rng {i : Nat} {b : SC} {a : EC} {n : Nat} {ρ : Rho} (I : Nat → Rho → Prop) (ha : IntE a ρ n) (hn : n ≤ 1000) (h0 : I 0 ρ)
    (st : ∀ (k : Nat) ρ, k < n → I k ρ → ∃ ρ', (b (ρ.set i (some (.own (.fz (.int k))))) = .next ρ' ∨ b (ρ.set i (some (.own (.fz (.int k))))) = .cont ρ') ∧ I (k + 1) ρ') : ∃ ρ', sFor [i] (iRng1 a) b ρ = .next ρ' ∧ I n ρ' := by
  obtain ⟨ρ', e, h⟩ := forL_n (tg := [i]) (b := b) (vs := rangeS 0 n) I h0 (by
    intro k v ρ hv hI
    obtain ⟨rfl, hk⟩ := rangeS_get hv
    have e : setAll [i] [slOf (.int (0 + (k : Nat)))] ρ = ρ.set i (some (.own (.fz (.int k)))) := by rw [Int.zero_add]; rfl
    rw [e]
    exact st k ρ (by omega) hI)
  refine ⟨ρ', for_n (rng1_of ha hn) e, ?_⟩
  rw [rangeS_len] at h
  have : ((n : Int) - 0).toNat = n := by omega
  rwa [this] at h
theorem set_same {ρ : Rho} {i : Nat} {x : Option Sl} (h : ρ[i]? = some x) : ρ.set i x = ρ := by
  refine List.ext_getElem? fun j => ?_
  by_cases e : i = j
  · subst e
    rw [List.getElem?_set_self (List.getElem?_eq_some_iff.mp h).1, h]
  · rw [List.getElem?_set_ne e]
theorem frz_id {i : Nat} {a : SC} {ρ : Rho} {d : D} {r : SRes} (h : ρ[i]? = some (some (.own (.fz d)))) (k : a ρ = r) : sFrz i a ρ = r := by
  unfold sFrz
  rw [h]
  show a (ρ.set i (some (.own (.fz d)))) = r
  rw [set_same h]; exact k
theorem frz_bo {i : Nat} {a : SC} {ρ : Rho} {d : D} {r : SRes} (h : ρ[i]? = some (some (.bor d))) (k : a ρ = r) : sFrz i a ρ = r := by
  unfold sFrz
  rw [h]
  show a (ρ.set i (some (.bor d))) = r
  rw [set_same h]; exact k
theorem frz_li {i : Nat} {a : SC} {ρ : Rho} {L : List Int} {r : SRes} (h : ρ[i]? = some (some (.own (.ls (oI L))))) (k : a (ρ.set i (some (.own (.fz (.list (dI L)))))) = r) : sFrz i a ρ = r := by
  unfold sFrz
  rw [h]
  show a (ρ.set i (some (.own (.fz (Ow.ls (oI L)).toD)))) = r
  rw [oI_toD]; exact k
theorem frzL_n {i : Nat} {a : SC} {ρ ρ' : Rho} (h : a ρ = .next ρ') : sFrzL i a ρ = .next ρ' := by unfold sFrzL; rw [h]
theorem frzL_r {i : Nat} {a : SC} {ρ : Rho} {ow : Ow} (h : a ρ = .ret ow) : sFrzL i a ρ = .ret ow := by unfold sFrzL; rw [h]
theorem frzL_s {i : Nat} {a : SC} {ρ : Rho} {r : SRes} (h : a ρ = .stuck) (k : a (ρ.set i (frzSl ρ[i]?)) = r) : sFrzL i a ρ = r := by unfold sFrzL; rw [h]; exact k
def ival : Res Ow → Int
  | .ok (.fz (.int z)) => z
  | _ => 0
theorem ival_eq {r : Res Ow} {z : Int} (h : r = .ok (.fz (.int z))) : r = .ok (.fz (.int (ival r))) := by rw [h]; rfl
def intL : List Ow → List Int
  | [] => []
  | .fz (.int z) :: r => z :: intL r
  | _ :: r => intL r
theorem intL_oI : ∀ L : List Int, intL (oI L) = L
  | [] => rfl
  | i :: L => by show i :: intL (oI L) = _; rw [intL_oI L]
def lval : Res Ow → List Int
  | .ok (.ls xs) => intL xs
  | _ => []
theorem lval_eq {r : Res Ow} {L : List Int} (h : r = .ok (.ls (oI L))) : lval r = L := by rw [h]; exact intL_oI L
end VL

set_option Elab.async false
set_option linter.all false
set_option maxRecDepth 100000
set_option maxHeartbeats 4000000
/-! VG1: repr(x): defs that are called where no repr is under way. -/
namespace VL
open PySem PySem.Spec PyProof.Rows L2
def shOk (d : D) : Bool := PyData.showable d && (decide (PyData.depth d ≤ 32) && (decide ((PyData.shown d).length ≤ 16777216) && !PyData.hasDict d))
def fRepr (x : RV) : Res RV := if shOk x.d = true then rD (.str (PyData.shown x.d)) else .stuck
section
variable {X : Cx}
def rRepr (K : Frag) : List V → Hp → VK → Prop := fun xs H Q => ∃ (v : V) (d : D), xs = [v] ∧ Rp K H v d ∧ shOk d = true ∧ Q (.str (PyData.shown d)) H
theorem call_reprD (hg : X.A.guards = some []) (hu : X.A.units + 64 < cLine) : CallR X (.builtin "repr") (rRepr X.K) := by
  rintro pins s σ H xs us Q I r ⟨v, d, rfl, hd, ho, q⟩
  match us, r with
  | [u], .cons ru .nil =>
    have ho' : (PyData.showable d && (decide (PyData.depth d ≤ 32) && (decide ((PyData.shown d).length ≤ 16777216) && !PyData.hasDict d))) = true := ho
    simp only [Bool.and_eq_true, decide_eq_true_eq, Bool.not_eq_true'] at ho'
    obtain ⟨h1, h2, h3, h4⟩ := ho'
    have hz : (PyData.shown d).length ≤ sizeLine := by rw [sizeLine_eq]; exact h3
    obtain ⟨as, rd⟩ := Dp.reads I d v u hd.dp ru
    cases hd with
    | non => obtain rfl : u = Value.none := ru; exact PySem.P.repr_of_none ⟨.str _, H, I.tok _, ⟨_, rfl⟩, q⟩
    | bl b => obtain rfl : u = Value.bool b := ru; exact PySem.P.repr_of_bool ⟨.str _, H, I.tok _, ⟨_, rfl⟩, q⟩
    | int i =>
      obtain ⟨t, rfl⟩ := ru
      exact PySem.P.repr_of_int (of_decide_eq_true h1) ⟨.str _, H, I.tok _, ⟨_, rfl⟩, q⟩
    | str x =>
      obtain ⟨t, rfl⟩ := ru
      exact PySem.P.repr_of_str (hsz := hz) ⟨.str _, H, I.tok _, ⟨_, rfl⟩, q⟩
    | lst _ _ =>
      obtain rfl := (show u = _ from ru)
      exact repr_of_reads' rd h1 (fun z => by rw [h4] at z; cases z) hg (by omega) (fun _ _ e => e) (fun h' u tk k => ⟨.str _, H, I.kept k, ⟨_, rfl⟩, q⟩) hz
    | tup _ _ =>
      obtain rfl := (show u = _ from ru)
      exact repr_of_reads' rd h1 (fun z => by rw [h4] at z; cases z) hg (by omega) (fun _ _ e => e) (fun h' u tk k => ⟨.str _, H, I.kept k, ⟨_, rfl⟩, q⟩) hz
theorem bt_repr : bootBuiltins "repr" = some (.builtin "repr") := by decide +kernel
theorem op1_repr : Op1 X (fun x H Q => rRepr X.K [x] H Q) fRepr := by
  intro H0 F0 F H σ ρ x A rx Q s hx
  unfold fRepr
  by_cases hc : shOk rx.d = true
  · simp only [hc, if_true, rD]
    intro k
    exact ⟨x, rx.d, rfl, hx.dp s, hc, fin_d s (d := .str _) rfl fun v H' F' A' g o n => k v H' F' A' g o fun c hc => .inr (n c hc)⟩
  · simp only [hc]
    trivial
theorem eok_repr {a : Expr} {ca : EC} {p pos : Pos} (hg : X.A.guards = some []) (hu : X.A.units + 64 < cLine) (hm : X.mg "repr" = none) (h : EOk X a ca) (hgl : Gl X "repr" := by rfl) (he : starEach [a] X.env = (false, eval a X.env) :: starEach [] X.env := by rfl) (hpl : (backTo pos (starEach [] X.env)).any (·.1) = false := by rfl) :
    EOk X (.Call (.Name "repr" p) [a] [] pos) (eUn fRepr ca) :=
  eok_un (fun ta h => pe_mono (pe_callB (call_reprD hg hu) hgl hm bt_repr (pa_cons h pa_nil he) (by decide) (by decide) he hpl) fun σ H Q q => q) op1_repr h
/-! two texts -/
def fNeS (x y : RV) : Res RV := match x.d, y.d with
  | .str a, .str b => rD (.bool (!decide (a = b)))
  | _, _ => .stuck
def fEqS (x y : RV) : Res RV := match x.d, y.d with
  | .str a, .str b => rD (.bool (decide (a = b)))
  | _, _ => .stuck
theorem op2_eqS : Op2 X rEq fEqS := by
  intro H0 F0 F H σ ρ x y A B rx ry Q s hx hy dis
  unfold fEqS
  have px := hx.dp s
  have py := hy.dp s
  cases ex : rx.d with
  | str i =>
    cases ey : ry.d with
    | str j =>
      rw [ex] at px; rw [ey] at py
      obtain rfl := rp_str px
      obtain rfl := rp_str py
      intro k
      refine ⟨rfl, ?_⟩
      have e : decide (V.str i = V.str j) = decide (i = j) := by simp
      rw [e]
      exact fin_d s (d := .bool (decide (i = j))) rfl fun v H' F' A' g o n => k v H' F' A' g o fun c hc => .inr (.inr (n c hc))
    | _ => trivial
  | _ => cases ry.d <;> trivial
theorem op2_neS : Op2 X rNe fNeS := by
  intro H0 F0 F H σ ρ x y A B rx ry Q s hx hy dis
  unfold fNeS
  have px := hx.dp s
  have py := hy.dp s
  cases ex : rx.d with
  | str i =>
    cases ey : ry.d with
    | str j =>
      rw [ex] at px; rw [ey] at py
      obtain rfl := rp_str px
      obtain rfl := rp_str py
      intro k
      refine ⟨rfl, ?_⟩
      have e : decide (V.str i = V.str j) = decide (i = j) := by simp
      rw [e]
      exact fin_d s (d := .bool (!decide (i = j))) rfl fun v H' F' A' g o n => k v H' F' A' g o fun c hc => .inr (.inr (n c hc))
    | _ => trivial
  | _ => cases ry.d <;> trivial
end
/-! ### defs that may take the text of a value -/
structure FnG (P : Program) (w : World) (K : Frag) (mg : Str → Option Value) (base : Heap) (k : Nat) (f : Addr) (fd : FuncData) (ps : List Str) (sp : Sp) : Prop where
  len : ∀ vs H Q E, sp vs H Q E → vs.length = ps.length
  run : ∀ (A : Around) (outer : List Env) (s : Shared) (H : Hp) (args : Args) (us : List Value) (vs : List V) (Q : VK) (E : XK), Room k A → A.guards = some [] → Env0 P w K mg base A outer s H →
    BindsTo s fd args (ps.zip us) → Vals vs us → sp vs H Q E → codeAny (model P w) A (.call (.ref f) args) (CR (L2.CX P w) outer P w H s Q E) s
section
variable {P : Program} {w : World} {K : Frag} {mg : Str → Option Value} {base : Heap}
theorem fng_of {k : Nat} {f : Addr} {fd : FuncData} {x qual : Str} {st : Stmt} {N ps : List Str} {sp : Sp} (F : Fun K x qual st f fd) (S : FnScope N ps (defScope st)) (len : ∀ vs H Q E, sp vs H Q E → vs.length = ps.length)
    (hbody : ∀ (cdv : Value) (A : Around) (outer : List Env) (s : Shared) (H : Hp) (vs : List V) (Q : VK) (E : XK), Room k (A.deeper (envOfC qual (defScope st) s.heap.objs.size f cdv)) → A.guards = some [] → sp vs H Q E →
      ∃ t, PSs (cxOf (L2.CX P w) P w K mg base N qual (defScope st) f cdv A outer s H E) (defBody st) t ∧ t { nx := fun _ H' => Q .non H', rt := Q } (L2.start N vs) H) : FnG P w K mg base (k + 1) f fd ps sp := by
  obtain ⟨oc, od, kV, doc, pm, an, cdv, ct, osl, rfl, lk, hcd⟩ := F.ex
  refine ⟨len, fun A outer s H args us vs Q E hr hgd e0 hb r hs => ?_⟩
  have KX : K.In s.heap := e0.mod.kin.keeps fun b o e => (e0.bs b o e).1
  have lim := e0.mod.nolimit.keeps fun b o e => (e0.bs b o e).1
  refine codeAny_call_function hr.depth (KX _ _ lk) rfl S.co S.gen rfl (PySem.W.codeRec_of KX hcd) (hb _ _ _ _ (wpAny_newFunctionEnv_cells S.kind (fun ⟨n, v⟩ hy => ?_) fun env he s1 x => ?_))
  · exact (S.par n (List.of_mem_zip hy).1).imp id fun q => ⟨q, PySem.W.cellsFrom_some _ _ _ (.inl q)⟩
  · subst he
    refine ⟨lim.keeps x.toInCall.keep, codeAny_func ?_⟩
    obtain ⟨t, ht, hq⟩ := hbody cdv A outer s H vs Q E (hr.deeper _) hgd hs
    have I := inv_start (CX := L2.CX P w) (E := E) (qual := qual) (f := f) (cd := cdv) S hr.hd e0 (len _ _ _ _ hs) r x
    refine wpAny_mono (ht.run [] s1 (L2.start N vs) H _ I hq) (fun fl s' hz => ?_) fun e s' hz => hz
    cases fl with
    | ret u =>
      obtain ⟨v, σ', H', J, rv, q⟩ := hz
      exact ⟨v, H', J.os, J.bare, J.base, J.hok, rv, q⟩
    | next =>
      obtain ⟨σ', H', J, q⟩ := hz
      exact ⟨V.non, H', J.os, J.bare, J.base, J.hok, rfl, q⟩
    | brk =>
      obtain ⟨_, _, _, q⟩ := hz
      exact q.elim
    | cont =>
      obtain ⟨_, _, _, q⟩ := hz
      exact q.elim
abbrev FOkG (P : Program) (w : World) (K : Frag) (mg : Str → Option Value) (base : Heap) (k : Nat) (f : Addr) (fd : FuncData) (ps : List Str) (φ : Fn) : Prop := FnG P w K mg base k f fd ps (spV K mg ps.length φ)
/-- the body of a def, at its start -/
theorem body_at {X : Cx} {H : Hp} {vs : List V} {Q : VK} {E : XK} {b : SC} {st : List Stmt} {n : Nat} (hb : BOk X st b) (tk : Takes X fun cls d _ H => E cls d H) (hn : n ≤ X.N.length) (h : spV X.K X.mg n (runBody b X.N.length) vs H Q E) : ∃ t, PSs X st t ∧ t { nx := fun _ H' => Q .non H', rt := Q } (L2.start X.N vs) H := by
  refine ⟨_, hb (fun cls d _ H => E cls d H) tk, ?_⟩
  obtain ⟨F0, as, hF, hl, hp, h⟩ := h
  have hvl := Paired.length hp
  refine ⟨H, F0, F0, as.map some ++ List.replicate (X.N.length - as.length) none, ⟨?_, Gr.refl hF, fun _ => [], fun i => ?_, fun _ _ _ _ z => by cases z⟩, ?_⟩
  · unfold L2.start
    simp only [List.length_append, List.length_map, List.length_replicate]
    omega
  · by_cases hi : i < as.length
    · rw [List.getElem?_append_left (by simpa using hi), List.getElem?_map, List.getElem?_eq_getElem hi]
      obtain ⟨v, hv, ho⟩ := ArgOk.get hp (List.getElem?_eq_getElem hi)
      have e0 : (L2.start X.N vs)[i]? = some (some v) := by rw [start_get, if_pos (by omega), hv]; rfl
      show SlOk X.K H H F0 (L2.start X.N vs) i [] (some (some as[i]))
      match as[i], ho with
      | .own (.fz d), ho => exact ⟨v, e0, OR.fz ho, fun _ z => by cases z⟩
      | .bor d, ho => exact ⟨rfl, v, e0, ho⟩
    · rw [List.getElem?_append_right (by simpa using Nat.le_of_not_lt hi), List.getElem?_replicate]
      split <;> rfl
  · unfold runBody at h
    cases e : b (as.map some ++ List.replicate (X.N.length - as.length) none) with
    | next ρ' => rw [e] at h; exact fun σ' H' F' s' => h .non H' F' [] s'.gr (OR.fz .non) fun _ z => by cases z
    | ret ow => rw [e] at h; exact h
    | brk _ => rw [e] at h; exact h.elim
    | cont _ => rw [e] at h; exact h.elim
    | err x ρ' => rw [e] at h; exact fun cls d σ' H' F' s' xo => h cls d H' F' s'.gr xo
    | stuck => rw [e] at h; exact h.elim
theorem fokg_of {x qual : Str} {st : Stmt} {f : Addr} {fd : FuncData} {N ps : List Str} {k : Nat} {b : SC} (F : Fun K x qual st f fd) (S : FnScope N ps (defScope st))
    (hb : ∀ (cdv : Value) (A : Around) (outer : List Env) (s : Shared) (H : Hp) (E : XK), Room k (A.deeper (envOfC qual (defScope st) s.heap.objs.size f cdv)) → A.guards = some [] → BOk (cxOf (L2.CX P w) P w K mg base N qual (defScope st) f cdv A outer s H E) (defBody st) b) :
    FOkG P w K mg base (k + 1) f fd ps (runBody b N.length) :=
  fng_of F S (fun vs H Q E h => by
    obtain ⟨_, as, _, hl, hp, _⟩ := h
    rw [Paired.length hp, hl]) fun cdv A outer s H vs Q E hr hgd h =>
    body_at (X := cxOf (L2.CX P w) P w K mg base N qual (defScope st) f cdv A outer s H E) (hb cdv A outer s H E hr hgd) (takes_of rfl rfl rfl rfl) (by have := congrArg List.length S.pre; rw [List.length_take] at this; show ps.length ≤ N.length; omega) h
end
structure DfG (P : Program) (w : World) (K : Frag) (mg : Str → Option Value) (base : Heap) (k : Nat) (f : Addr) (fd : FuncData) (x : Str) (ps : List Str) (φ : Fn) : Prop where
  ok : FOkG P w K mg base k f fd ps φ
  hm : mg x = some (.ref f)
  hk : PySem.W.keepIn K (.ref f) = true
  hb : Binds K fd ps []
theorem DfG.mk' {P : Program} {w : World} {K : Frag} {mg : Str → Option Value} {base : Heap} {k : Nat} {f : Addr} {fd : FuncData} {x : Str} {ps : List Str} {φ : Fn} {qual : Str} {st : Stmt} (F : Fun K x qual st f fd) (hm : mg x = some (.ref f)) (hb : Binds K fd ps []) (ok : FOkG P w K mg base k f fd ps φ) : DfG P w K mg base k f fd x ps φ := ⟨ok, hm, F.kp, hb⟩
/-- a call of such a def -/
theorem evalAll_len : ∀ {cs : List EC} {ρ : Rho} {rs : List RV}, VL.evalAll cs ρ = .ok rs → rs.length = cs.length
  | [], _, _, h => by cases h; rfl
  | c :: cs, ρ, rs, h => by
    unfold VL.evalAll at h
    cases q1 : c ρ with
    | stuck => rw [q1] at h; cases h
    | err x => rw [q1] at h; cases h
    | ok r =>
      rw [q1] at h
      simp only [Res.bind] at h
      cases q2 : VL.evalAll cs ρ with
      | stuck => rw [q2] at h; cases h
      | err x => rw [q2] at h; cases h
      | ok rr =>
        rw [q2] at h
        cases h
        simp [evalAll_len q2]
theorem DfG.call {X : Cx} {k k' : Nat} {f : Addr} {fd : FuncData} {ps : List Str} {φ : Fn} {x : Str} {p pos : Pos} {e : Expr} {es : List Expr} {cs : List EC} (D : DfG X.prog X.w X.K X.mg X.base k f fd x ps φ) (hr : Room k' X.A) (hgd : X.A.guards = some []) (ha : AOk X (e :: es) cs) (hk : k ≤ k' := by decide) (hl : cs.length = ps.length := by rfl)
    (hg : Gl X x := by rfl) (hdb : (x == ("__debug__" : Str)) = false := by decide) (he : starEach (e :: es) X.env = (false, eval e X.env) :: starEach es X.env := by rfl) (hpl : (backTo pos (starEach es X.env)).any (·.1) = false := by rfl) :
    EOk X (.Call (.Name x p) (e :: es) [] pos) (eCall φ cs) := fun W tk => by
  refine ⟨fun pins s σ H Q I h => ?_⟩
  refine wpAny_Call_Name_kw (ld_glob I hg D.hm ?_ hdb)
  have asked : rdA X.K X.mg cs W σ H fun vs H1 => spV X.K X.mg ps.length φ vs H1 Q (WE W σ) := by
    obtain ⟨H0, F0, F, ρ, sr, h⟩ := h
    unfold eCall at h
    cases e1 : VL.evalAll cs ρ with
    | stuck => rw [e1] at h; exact h.elim
    | err z => rw [e1] at h; exact rdA_err sr e1 h
    | ok rs =>
      rw [e1] at h
      simp only [Res.bind] at h
      refine rdA_ok sr e1 fun vs H1 F1 A g1 o1 n1 => ?_
      have s1 := sr.step g1
      have fA : ∀ a ∈ A, F1 a = none := fun a ha => (o1.there a ha).2
      have gA : Gr H F H1 (frz F1 H1 A) := g1.frozen n1 fA
      refine ⟨frz F1 H1 A, rs.map RV.arg, frz_subH s1.sub, by rw [List.length_map, evalAll_len e1, hl], o1.args s1 (frz_sub fA) fun a ha => frz_in ha, ?_⟩
      cases e2 : φ (rs.map RV.arg) with
      | stuck => rw [e2] at h; exact h.elim
      | err z =>
        rw [e2] at h
        exact fun cls d H' F' g xo => h cls d H' F' (gA.trans g) xo
      | ok ow =>
        rw [e2] at h
        exact fun v H' F' B g o n => h v H' F' B (gA.trans g) o fun b hb => g1.hh.none (n b hb)
  refine PySem.W.callWith_K (h₀ := X.base) I.ok.mod.kin D.hk (thn ((ha W tk).run pos pins s σ H _ I asked) fun us s1 ⟨vs, H1, I1, r, hsp⟩ => ⟨I1.kIn, ?_⟩) he hpl
  have hlen : us.length = ps.length := by rw [← r.length]; exact D.ok.len _ _ _ _ hsp
  have b := D.hb s1 us I1.kIn (by rw [List.append_nil]; exact hlen)
  rw [List.append_nil] at b
  refine wpAny_call (codeAny_mono (D.ok.run X.A X.stack s1 H1 ⟨us, []⟩ us _ _ _ (hr.mono hk) hgd I1.env0 b r hsp) fun rr s' hq => ?_)
  cases rr with
  | error er => exact passAt tk σ pins H1 s1 er s' I1 hq
  | ok fl =>
    cases fl with
    | ret u => exact I1.after hq
    | next => exact False.elim hq
    | brk => exact False.elim hq
    | cont => exact False.elim hq
end VL

set_option Elab.async false
set_option linter.all false
set_option maxRecDepth 100000
set_option maxHeartbeats 4000000
/-! VG2: the end of a law whose def may take the text of a value: called where no repr is under way. -/
namespace VL
open PySem PySem.Spec PyProof.Rows L2
theorem callerA_guards : callerA.guards = some [] := rfl
section
variable {P : Program} {w : World} {K : Frag} {mg mb : Str → Option Value} {k : Nat} {fa a : Addr} {fd : FuncData} {x : Str} {sp : Sp} {s1 : Shared} {vs : List Value} {ns : List Int}
/-- from one abstract heap that tracks at most the script -/
theorem callG_at (KX : K.In s1.heap) (hns : s1.heap.Ns mainGlobals mg) (hb : s1.heap.Ns builtinsNs mb) (hbb : ∀ x : Str, x ≠ "__name__" → mb x = bootBuiltins x) (hlim : s1.heap.NoLimit) (hg : s1.gens = #[])
    (ha : s1.heap.get? a = some { cls := .type "list", data := .seq vs.toArray }) (hr : Room k callerA) (F : ∀ base : Heap, K.In base → base.Ns mainGlobals mg → FnG P w K mg base k fa fd [x] sp) (hbind : ∀ (s : Shared) (u : Value), BindsTo s fd ⟨[u], []⟩ [(x, u)])
    (hCX : ∀ H e s', L2.CX P w [] H s1 (fun _ _ _ => False) e s' → False) (H : Hp) (hO : Only H) (hsp : sp [.ref a] H (fun v _ => v = .bl true) fun _ _ _ => False) (hok : HOk P w H s1.heap) (hA : ∀ b, H b ≠ none → b = a) (hK : H a ≠ none → K.lookup a = none) :
    codeAny (model P w) callerA (.call (.ref fa) ⟨[.ref a], []⟩) (fun r s' => r = .ok (.ret (.bool true)) ∧ OldK s1.heap s'.heap ∧ s'.os = s1.os ∧ AllBare s'.gens) s1 := by
  -- what is not tracked stands in the base
  have free : ∀ {b : Addr} {o : Obj}, s1.heap.get? b = some o → (b = a → False) → H b = none := fun {b o} e n => Classical.byContradiction fun z => n (hA b z)
  have inB : ∀ {b : Addr} {o : Obj}, s1.heap.get? b = some o → H b = none → (hidT s1.heap H).get? b = some o := fun e n => hidT_get e n
  have dictB : ∀ {b : Addr} {m : Str → Option Value}, s1.heap.Ns b m → (hidT s1.heap H).Ns b m := fun {b m} ⟨o, es, ep, e, d, r⟩ => ⟨o, es, ep, inB e (free e fun z => by
    subst z
    rw [ha] at e
    cases e
    cases (show Data.seq vs.toArray _ = Data.dict es ep from d)), d, r⟩
  have KB : K.In (hidT s1.heap H) := fun b o e => inB (KX b o e) (Classical.byContradiction fun z => by
    have q := hA b z
    subst q
    rw [hK z] at e
    cases e)
  obtain ⟨mc, l1, l2⟩ := hlim
  have M : Mod K mg (hidT s1.heap H) := ⟨KB, dictB hns, ⟨mb, dictB hb, hbb⟩, ⟨mc, dictB l1, l2⟩⟩
  have E : Env0 P w K mg (hidT s1.heap H) callerA [] s1 H := { frames := rfl, mod := M, bs := fun b o e => of_hidT e, bsz := Nat.le_of_eq (hidT_size _ _), funs := trivial, frf := fun b z => (by cases (show b ∈ ([] : List Addr) from z)), hok := hok, bare := .of_eq hg }
  refine codeAny_mono ((F _ KB (dictB hns)).run callerA [] s1 H ⟨[.ref a], []⟩ [.ref a] [.ref a] _ _ hr rfl E (hbind s1 (.ref a)) (.cons rfl .nil) hsp) fun r s' h => ?_
  match r, h with
  | .error e, h => exact (hCX H e s' h).elim
  | .ok .next, h => exact False.elim h
  | .ok .brk, h => exact False.elim h
  | .ok .cont, h => exact False.elim h
  | .ok (.ret u), ⟨v, H', os, bare, un, hok', rv, q⟩ =>
    have q : v = .bl true := q
    subst q
    obtain rfl : u = Value.bool true := rv
    refine ⟨rfl, OldK.of_keep fun b o e => ?_, os, bare⟩
    rcases hO b with n | ⟨ob, xs, z⟩
    · exact un.keep b o e n (fun z => by cases (show b ∈ ([] : List Addr) from z)) (by simp)
    · obtain ⟨f1, _⟩ := hok b _ z
      obtain ⟨f2, _⟩ := hok' b _ (un.frzs b ob _ z)
      rw [e] at f1
      cases f1
      exact f2
/-- the law's def, called with the script -/
theorem callG_law (KX : K.In s1.heap) (hns : s1.heap.Ns mainGlobals mg) (hb : s1.heap.Ns builtinsNs mb) (hbb : ∀ x : Str, x ≠ "__name__" → mb x = bootBuiltins x) (hlim : s1.heap.NoLimit) (hg : s1.gens = #[])
    (ha : s1.heap.get? a = some { cls := .type "list", data := .seq vs.toArray }) (hi : IntsAre vs ns) (hl : ns.length ≤ sizeLine) (hr : Room k callerA) (F : ∀ base : Heap, K.In base → base.Ns mainGlobals mg → FnG P w K mg base k fa fd [x] sp)
    (hbind : ∀ (s : Shared) (u : Value), BindsTo s fd ⟨[u], []⟩ [(x, u)]) (hsp : ∀ H : Hp, SqL K H a (ns.map V.int) → sp [.ref a] H (fun v _ => v = .bl true) fun _ _ _ => False) (hCX : ∀ H e s', L2.CX P w [] H s1 (fun _ _ _ => False) e s' → False) :
    codeAny (model P w) callerA (.call (.ref fa) ⟨[.ref a], []⟩) (fun r s' => r = .ok (.ret (.bool true)) ∧ OldK s1.heap s'.heap ∧ s'.os = s1.os ∧ AllBare s'.gens) s1 := by
  have rv := vals_ints hi
  have go := fun H hO h hok hA hK => callG_at (P := P) (w := w) KX hns hb hbb hlim hg ha hr F hbind hCX H hO (hsp H h) hok hA hK
  cases hk : K.lookup a with
  | some o =>
    have e := KX a o hk
    rw [ha] at e
    cases e
    exact go (fun _ => none) (fun _ => .inl rfl) (.inr ⟨_, vs.toArray, _, hk, rfl, rfl, rfl, by rw [List.size_toArray, hi.length]; exact hl, by simpa using rv⟩) (fun b u z => by cases (show (none : Option HO) = some u from z)) (fun b z => (z rfl).elim) fun z => (z rfl).elim
  | none =>
    let G : Hp := fun b => if b = a then some (.frz { cls := .type "list", data := .seq vs.toArray } (.lst (ns.map V.int))) else none
    have Ga : G a = some (.frz { cls := .type "list", data := .seq vs.toArray } (.lst (ns.map V.int))) := if_pos rfl
    have Gn : ∀ {b}, b ≠ a → G b = none := fun h => if_neg h
    have one : ∀ b, G b ≠ none → b = a := fun b z => Classical.byContradiction fun n => z (Gn n)
    refine go G (fun b => ?_) (.inl (.inr ⟨_, Ga⟩)) (fun b u z => ?_) one fun _ => hk
    · by_cases q : b = a
      · exact .inr ⟨_, _, by rw [q]; exact Ga⟩
      · exact .inl (Gn q)
    · have q := one b (by rw [z]; simp)
      subst q
      rw [Ga] at z
      cases z
      exact ⟨ha, by rw [List.length_map]; exact hl, vs, _, rv, ha⟩
end
theorem walk_ofG {l : PySem.W.OpenLaw} {k : Nat} {q : Program} {loose : List Str} {XP : (Str → Option Value) → Heap → Prop} {YP : World → Heap → Prop} {d : DefRec} {K : Params → Frag} {x : Str} {φ : Fn}
    (hn : l.most = some 63) (hdf : d.params.defaults = []) (hr : Room k callerA) (hY : ∀ (w : World) (h : Heap), YP w h → (K w.params).In h)
    (F : ∀ (w : World) (mg : Str → Option Value) (fa : Addr) (h : Heap), (K w.params).In h → h.Ns mainGlobals mg → mg d.name = some (.ref fa) →
      ∃ fd : FuncData, (∀ (s : Shared) (u : Value), BindsTo s fd ⟨[u], []⟩ [(x, u)]) ∧ ∀ base : Heap, (K w.params).In base → base.Ns mainGlobals mg → FOkG l.prog w (K w.params) mg base k fa fd [x] φ)
    (law : ∀ ns : List Int, ns.length ≤ 63 → φ [.own (.fz (.list (ns.map PyData.int)))] = .ok (.fz (.bool true))) : PySem.W.WalkO q loose XP YP l.row.toRowW d [] (fun f vs => PySem.call f vs) := by
  refine Att.attach_call hn hdf fun w s₀ s₁ mg mb fa o pm cd doc a vs ns G Y ho hd hcd hmg hobj hints hlen hg => ?_
  have KX := hY w _ Y
  obtain ⟨fd, hb, hF⟩ := F w mg fa _ KX G.T.g hmg
  refine callG_law KX G.T.g G.T.b G.T.builtins G.T.nolimit hg hobj hints (Nat.le_trans hlen (by decide)) hr hF hb (fun H hS => ?_) fun H e s' ⟨_, _, _, _, _, _, _, _, _, _, _, _, hE⟩ => hE
  have lk : LK (K w.params) H a (ns.map V.int) := by
    rcases hS with h | ⟨o, its, n, hk, _, _, hs, hz, r⟩
    · exact .inl h
    · have e := KX _ _ hk
      rw [hobj] at e
      cases e
      cases hs
      exact .inr ⟨_, _, hk, hz, r⟩
  refine ⟨H, [.own (.fz (.list (ns.map PyData.int)))], Sub.refl _, rfl, .cons (.lst lk (rp_ints ns)) .nil, ?_⟩
  rw [law ns hlen]
  intro v H' F' A g o _
  have := (OR.fz_inv o).2
  cases this
  rfl
end VL

set_option Elab.async false
set_option linter.all false
set_option maxRecDepth 100000
set_option maxHeartbeats 2000000
/-! VP3: small data: shown, compared, taken apart. -/
namespace VL
open PySem
mutual
def lf : D → Bool
  | .none => true
  | .bool _ => true
  | .int i => decide (-1000 ≤ i) && decide (i ≤ 1000000000000)
  | .str x => PyData.strOk x && decide (x.length ≤ 1000)
  | .list xs => lfAll xs
  | .tuple xs => lfAll xs
  | .dict _ => false
def lfAll : List D → Bool
  | [] => true
  | x :: xs => lf x && lfAll xs
end
theorem lf_int {i : Int} (h : lf (.int i) = true) : -1000 ≤ i ∧ i ≤ 1000000000000 := by
  have h : (decide (-1000 ≤ i) && decide (i ≤ 1000000000000)) = true := by rw [← h, lf]
  simpa using h
theorem lf_str {x : Str} (h : lf (.str x) = true) : PyData.strOk x = true ∧ x.length ≤ 1000 := by
  have h : (PyData.strOk x && decide (x.length ≤ 1000)) = true := by rw [← h, lf]
  simpa using h
theorem lf_list {xs : List D} (h : lf (.list xs) = true) : lfAll xs = true := by rw [← h, lf]
theorem lf_tuple {xs : List D} (h : lf (.tuple xs) = true) : lfAll xs = true := by rw [← h, lf]
theorem lf_dict {xs : List (D × D)} (h : lf (.dict xs) = true) : False := by rw [lf] at h; cases h
theorem lf_cons {x : D} {xs : List D} (h : lfAll (x :: xs) = true) : lf x = true ∧ lfAll xs = true := by
  rw [lfAll] at h
  simpa using h
theorem lfAll_iff : ∀ {xs : List D}, lfAll xs = true ↔ ∀ x ∈ xs, lf x = true
  | [] => ⟨fun _ _ h => (by cases h), fun _ => by rw [lfAll]⟩
  | x :: xs => by
    rw [lfAll, Bool.and_eq_true, lfAll_iff (xs := xs)]
    simp
theorem log_lt {n k : Nat} (h : n < 2 ^ k) (h0 : n ≠ 0) : n.log2 < k := (Nat.log2_lt h0).mpr h
mutual
theorem lf_show : ∀ (d : D), lf d = true → PyData.showable d = true
  | .none, _ => by simp [PyData.showable]
  | .bool _, _ => by simp [PyData.showable]
  | .int i, h => by
    have := lf_int h
    simp only [PyData.showable, decide_eq_true_eq]
    by_cases h0 : i.natAbs = 0
    · rw [h0]; decide
    · exact Nat.lt_of_lt_of_le (log_lt (k := 64) (by omega) h0) (by decide)
  | .str x, _ => by simp [PyData.showable]
  | .list xs, h => by simp only [PyData.showable]; exact lf_showAll xs (lf_list h)
  | .tuple xs, h => by simp only [PyData.showable]; exact lf_showAll xs (lf_tuple h)
  | .dict _, h => (lf_dict h).elim
theorem lf_showAll : ∀ (ds : List D), lfAll ds = true → PyData.showableAll ds = true
  | [], _ => by simp [PyData.showableAll]
  | x :: xs, h => by
    simp only [PyData.showableAll, Bool.and_eq_true]
    exact ⟨lf_show x (lf_cons h).1, lf_showAll xs (lf_cons h).2⟩
end
mutual
theorem lf_noD : ∀ (d : D), lf d = true → PyData.hasDict d = false
  | .none, _ => by simp [PyData.hasDict]
  | .bool _, _ => by simp [PyData.hasDict]
  | .int i, h => by simp [PyData.hasDict]
  | .str x, _ => by simp [PyData.hasDict]
  | .list xs, h => by simp only [PyData.hasDict]; exact lf_noDAll xs (lf_list h)
  | .tuple xs, h => by simp only [PyData.hasDict]; exact lf_noDAll xs (lf_tuple h)
  | .dict _, h => (lf_dict h).elim
theorem lf_noDAll : ∀ (ds : List D), lfAll ds = true → PyData.hasDictAll ds = false
  | [], _ => by simp [PyData.hasDictAll]
  | x :: xs, h => by
    simp only [PyData.hasDictAll, Bool.or_eq_false_iff]
    exact ⟨lf_noD x (lf_cons h).1, lf_noDAll xs (lf_cons h).2⟩
end
mutual
theorem lf_lay : ∀ (d : D), lf d = true → PyData.canLay0 d = true
  | .none, _ => by simp [PyData.canLay0]
  | .bool _, _ => by simp [PyData.canLay0]
  | .int i, h => by simp [PyData.canLay0]
  | .str x, h => by simp only [PyData.canLay0]; exact (lf_str h).1
  | .list xs, h => by simp only [PyData.canLay0]; exact lf_layAll xs (lf_list h)
  | .tuple xs, h => by simp only [PyData.canLay0]; exact lf_layAll xs (lf_tuple h)
  | .dict _, h => (lf_dict h).elim
theorem lf_layAll : ∀ (ds : List D), lfAll ds = true → PyData.canLayAll0 ds = true
  | [], _ => by simp [PyData.canLayAll0]
  | x :: xs, h => by
    simp only [PyData.canLayAll0, Bool.and_eq_true]
    exact ⟨lf_lay x (lf_cons h).1, lf_layAll xs (lf_cons h).2⟩
end
theorem shown_len {i : Int} (h : -1000 ≤ i ∧ i ≤ 1000000000000) : (PyData.shown (.int i)).length ≤ 14 := by
  rw [PyData.shown_int]
  have h1 := int_text_length_le10 (a := i) (k := 13) (by decide) (by omega)
  have h2 : (Str.ofString (toString i)).length = (toString i).length := ofString_length _
  show (Str.ofString (toString i)).length ≤ 14
  omega
mutual
theorem lf_short : ∀ (d : D), lf d = true → PyData.leavesShort 14 d = true
  | .none, _ => by simp [PyData.leavesShort]
  | .bool _, _ => by simp [PyData.leavesShort]
  | .int i, h => by simp only [PyData.leavesShort, decide_eq_true_eq]; exact shown_len (lf_int h)
  | .str x, h => by
    have := (lf_str h).1
    simp only [PyData.leavesShort]
    unfold PyData.strOk at this
    rw [List.all_eq_true]
    intro c hc
    have h2 : c < 0x110000 := by
      have := Array.all_eq_true'.mp this c (by simpa using hc)
      simpa using this
    simp only [decide_eq_true_eq]
    omega
  | .list xs, h => by simp only [PyData.leavesShort]; exact lf_shortAll xs (lf_list h)
  | .tuple xs, h => by simp only [PyData.leavesShort]; exact lf_shortAll xs (lf_tuple h)
  | .dict _, h => (lf_dict h).elim
theorem lf_shortAll : ∀ (ds : List D), lfAll ds = true → PyData.leavesShortAll 14 ds = true
  | [], _ => by simp [PyData.leavesShortAll]
  | x :: xs, h => by
    simp only [PyData.leavesShortAll, Bool.and_eq_true]
    exact ⟨lf_short x (lf_cons h).1, lf_shortAll xs (lf_cons h).2⟩
end
/-- small data: its leaves, its weight, its depth -/
structure Fit (n k : Nat) (d : D) : Prop where
  lf : lf d = true
  w : PyData.weight d ≤ n
  dp : PyData.depth d ≤ k
theorem Fit.mono {n k m j : Nat} {d : D} (h : Fit n k d) (h1 : n ≤ m) (h2 : k ≤ j) : Fit m j d := ⟨h.lf, Nat.le_trans h.w h1, Nat.le_trans h.dp h2⟩
theorem Fit.shOk {n k : Nat} {d : D} (h : Fit n k d) (hn : n ≤ 500000) (hk : k ≤ 32) : shOk d = true := by
  have h1 := PyData.shown_le 14 (by decide) d (lf_short d h.lf)
  have h2 := h.w
  have h3 := h.dp
  have h4 : (14 + 2) * d.weight ≤ 16 * 500000 := Nat.mul_le_mul (by decide) (by omega)
  unfold VL.shOk
  simp only [Bool.and_eq_true, decide_eq_true_eq, Bool.not_eq_true']
  exact ⟨lf_show d h.lf, by omega, by omega, lf_noD d h.lf⟩
theorem Fit.shaped {n k : Nat} {d : D} (h : Fit n k d) (hk : k ≤ 64) : SeqAt.shaped d = true := by
  unfold SeqAt.shaped
  simp only [Bool.and_eq_true, decide_eq_true_eq]
  exact ⟨lf_lay d h.lf, Nat.le_trans h.dp hk⟩
theorem repr_s {n k : Nat} {x : RV} (h : Fit n k x.d) (hn : n ≤ 500000) (hk : k ≤ 32) : fRepr x = .ok (.val (.fz (.str (PyData.shown x.d)))) := by
  unfold fRepr
  rw [if_pos (h.shOk hn hk)]; rfl
/-! rows -/
theorem len_w : ∀ (ds : List D), ds.length ≤ PyData.weightAll ds
  | [] => by simp
  | x :: xs => by
    have := len_w xs
    simp only [PyData.weightAll, List.length_cons]; omega
theorem w_app : ∀ (xs ys : List D), PyData.weightAll (xs ++ ys) = PyData.weightAll xs + PyData.weightAll ys
  | [], ys => by simp [PyData.weightAll]
  | x :: xs, ys => by
    have := w_app xs ys
    simp only [List.cons_append, PyData.weightAll, this]; omega
theorem dp_app : ∀ (xs ys : List D), PyData.depthAll (xs ++ ys) = max (PyData.depthAll xs) (PyData.depthAll ys)
  | [], ys => by simp [PyData.depthAll]
  | x :: xs, ys => by
    have := dp_app xs ys
    simp only [List.cons_append, PyData.depthAll, this]; omega
theorem lf_app {xs ys : List D} : lfAll (xs ++ ys) = true ↔ lfAll xs = true ∧ lfAll ys = true := by
  simp only [lfAll_iff, List.mem_append]
  exact ⟨fun h => ⟨fun x hx => h x (.inl hx), fun x hx => h x (.inr hx)⟩, fun h x hx => hx.elim (h.1 x) (h.2 x)⟩
/-- .. the same of a row's members -/
structure FitR (n k : Nat) (ds : List D) : Prop where
  lf : lfAll ds = true
  w : PyData.weightAll ds ≤ n
  dp : PyData.depthAll ds ≤ k
theorem FitR.mono {n k m j : Nat} {d : List D} (h : FitR n k d) (h1 : n ≤ m) (h2 : k ≤ j) : FitR m j d := ⟨h.lf, Nat.le_trans h.w h1, Nat.le_trans h.dp h2⟩
theorem FitR.nil : FitR 0 0 [] := ⟨by rw [lfAll], by simp [PyData.weightAll], by simp [PyData.depthAll]⟩
theorem FitR.app {n m k : Nat} {xs ys : List D} (h : FitR n k xs) (h' : FitR m k ys) : FitR (n + m) k (xs ++ ys) :=
  ⟨lf_app.mpr ⟨h.lf, h'.lf⟩, by rw [w_app]; exact Nat.add_le_add h.w h'.w, by rw [dp_app]; exact Nat.max_le.mpr ⟨h.dp, h'.dp⟩⟩
theorem FitR.cons {n m k : Nat} {x : D} {xs : List D} (h : Fit n k x) (h' : FitR m k xs) : FitR (n + 1 + m) k (x :: xs) :=
  ⟨by rw [lfAll, h.lf, h'.lf]; rfl, by simp only [PyData.weightAll]; have := h.w; have := h'.w; omega, by simp only [PyData.depthAll]; exact Nat.max_le.mpr ⟨h.dp, h'.dp⟩⟩
theorem FitR.one {n k : Nat} {x : D} (h : Fit n k x) : FitR (n + 1) k [x] := (FitR.cons h (FitR.nil.mono (Nat.le_refl _) (Nat.zero_le _))).mono (by omega) (Nat.le_refl _)
theorem FitR.len {n k : Nat} {xs : List D} (h : FitR n k xs) : xs.length ≤ n := Nat.le_trans (len_w xs) h.w
theorem FitR.take {n k : Nat} {xs : List D} (h : FitR n k xs) (j : Nat) : FitR n k (xs.take j) := by
  have e := List.take_append_drop j xs
  have l := h.lf; have w := h.w; have d := h.dp
  rw [← e] at l w d
  rw [w_app] at w; rw [dp_app] at d
  exact ⟨(lf_app.mp l).1, by omega, by omega⟩
theorem FitR.drop {n k : Nat} {xs : List D} (h : FitR n k xs) (j : Nat) : FitR n k (xs.drop j) := by
  have e := List.take_append_drop j xs
  have l := h.lf; have w := h.w; have d := h.dp
  rw [← e] at l w d
  rw [w_app] at w; rw [dp_app] at d
  exact ⟨(lf_app.mp l).2, by omega, by omega⟩
theorem FitR.split {n k : Nat} {xs : List D} {j : Nat} {x : D} (h : FitR n k xs) (e : xs[j]? = some x) : Fit n k x := by
  have hj := (List.getElem?_eq_some_iff.mp e).1
  have q := h.drop j
  have e2 : xs.drop j = x :: xs.drop (j + 1) := by
    rw [List.drop_eq_getElem_cons hj]
    rw [List.getElem?_eq_getElem hj] at e
    cases e; rfl
  rw [e2] at q
  have l := q.lf; have w := q.w; have d := q.dp
  simp only [PyData.weightAll] at w
  simp only [PyData.depthAll] at d
  exact ⟨(lf_cons l).1, by omega, by omega⟩
theorem FitR.list {n k : Nat} {xs : List D} (h : FitR n k xs) : Fit n (k + 1) (.list xs) := ⟨by rw [VL.lf]; exact h.lf, by simp only [PyData.weight]; exact h.w, by simp only [PyData.depth]; exact Nat.succ_le_succ h.dp⟩
theorem FitR.tuple {n k : Nat} {xs : List D} (h : FitR n k xs) : Fit n (k + 1) (.tuple xs) := ⟨by rw [VL.lf]; exact h.lf, by simp only [PyData.weight]; exact h.w, by simp only [PyData.depth]; exact Nat.succ_le_succ h.dp⟩
theorem Fit.row {n k : Nat} {d : D} {ds : List D} (h : Fit n (k + 1) d) (e : rowOf d = some ds) : FitR n k ds := by
  cases d with
  | list xs =>
    cases e
    have w := h.w; have q := h.dp
    simp only [PyData.weight] at w
    simp only [PyData.depth] at q
    exact ⟨lf_list h.lf, w, by omega⟩
  | tuple xs =>
    cases e
    have w := h.w; have q := h.dp
    simp only [PyData.weight] at w
    simp only [PyData.depth] at q
    exact ⟨lf_tuple h.lf, w, by omega⟩
  | _ => cases e
theorem Fit.row0 {n : Nat} {d : D} {ds : List D} (h : Fit n 0 d) (e : rowOf d = some ds) : False := by
  have q := h.dp
  cases d with
  | list xs => simp only [PyData.depth] at q; omega
  | tuple xs => simp only [PyData.depth] at q; omega
  | _ => cases e
theorem Fit.row' {n k : Nat} {d : D} {ds : List D} (h : Fit n k d) (e : rowOf d = some ds) : FitR n (k - 1) ds := by
  cases k with
  | zero => exact (h.row0 e).elim
  | succ k => exact h.row e
theorem fit_int {i : Int} (h : -1000 ≤ i ∧ i ≤ 1023) (k : Nat) : Fit 10 k (.int i) := by
  refine ⟨by rw [lf]; simp; omega, ?_, by simp [PyData.depth]⟩
  simp only [PyData.weight]
  by_cases h0 : i = 0
  · subst h0; decide
  · have : (i == 0) = false := by simpa using h0
    rw [this]
    have := log_lt (n := i.natAbs) (k := 10) (by omega) (by omega)
    simp; omega
/-! taken apart -/
theorem Is.ix {s : Sl} {d x : D} {ds : List D} (h : Is s d) (i : Nat) (e : rowOf d = some ds) {k : Nat} (hx : ds[k]? = some x) : ∃ rv, fIx (s.rv i) (.val (.fz (.int k))) = .ok rv ∧ rv.d = x ∧ Is rv.arg x ∧ (s = .own (.fz d) → rv = .val (.fz x)) ∧ (VL.scal x = true → rv = .val (.fz x)) := by
  have hk := (List.getElem?_eq_some_iff.mp hx).1
  rcases h with rfl | rfl
  · exact ⟨_, fIx_row' e hx, rfl, .inl rfl, fun _ => rfl, fun _ => rfl⟩
  · have ns : VL.scal d = false := by cases d <;> first | rfl | (cases e; done)
    have ev : Sl.rv i (.bor d) = .bor d := by rw [rv_bor, if_neg (by simp [ns])]
    have at' : L2.atI ds (k : Int) = some x := by rw [atI_nat ds (by omega) (by omega)]; simpa using hx
    have q : fIx (.bor d) (.val (.fz (.int k))) = .ok (if VL.scal x = true then .val (.fz x) else .bor x) := by
      cases d with
      | list xs => cases e; unfold fIx; simp only [RV.d, Ow.toD, at']
      | tuple xs => cases e; unfold fIx; simp only [RV.d, Ow.toD, at']
      | _ => cases e
    rw [ev, q]
    by_cases hs : VL.scal x = true
    · rw [if_pos hs]; exact ⟨_, rfl, rfl, .inl rfl, (fun z => by cases z), fun _ => rfl⟩
    · rw [if_neg hs]; exact ⟨_, rfl, rfl, .inr rfl, (fun z => by cases z), fun z => absurd z hs⟩
theorem rng1_bigI {a : EC} {ρ : Rho} {n : Int} (h : a ρ = .ok (.val (.fz (.int n)))) (h0 : 0 ≤ n) (h1 : n ≤ 1000000) : iRng1 a ρ = .ok (rangeS 0 n) := by
  have hb : rngOk n = true := by simp only [rngOk, Bool.and_eq_true, decide_eq_true_eq]; omega
  unfold iRng1
  rw [h]
  show (if rngOk n = true then _ else _) = _
  rw [if_pos hb]
theorem rng1_big {a : EC} {ρ : Rho} {n : Nat} (h : a ρ = .ok (.val (.fz (.int n)))) (hn : (n : Int) ≤ 1000000) : iRng1 a ρ = .ok (rangeS 0 n) := rng1_bigI h (Int.natCast_nonneg n) hn
theorem isI_s {s : Sl} {d : D} (h : Is s d) (i : Nat) (c : Ty) : fIsI c (s.rv i) = .ok (.val (.fz (.bool (inst d c)))) := by
  show rD (.bool (inst (s.rv i).d c)) = _
  rw [h.rvd]; rfl
theorem isN_s {s : Sl} {d : D} (h : Is s d) (i : Nat) : fIsN (s.rv i) = .ok (.val (.fz (.bool (isN d)))) := by
  show rD (.bool (isN (s.rv i).d)) = _
  rw [h.rvd]; rfl
/-! a loop that reads a row, member by member, up to the first bad one -/
inductive Rd (α : Type) where
  | bad (k : Nat)
  | all (xs : List α)
def readL {α : Type} (f : D → Option α) : List D → Nat → List α → Rd α
  | [], _, acc => .all acc
  | d :: r, k, acc => match f d with
    | some z => readL f r (k + 1) (acc ++ [z])
    | none => .bad k
theorem forL_read {α : Type} {f : D → Option α} {tg : List Nat} {b : SC} (St : Nat → List α → Rho → Prop) (Bad : Nat → SRes → Prop) (hB : ∀ n r, Bad n r → (∃ ow, r = .ret ow) ∨ ∃ x ρ', r = .err x ρ') :
    ∀ (ds : List D) (vs : List (List Sl)) (k0 : Nat) (acc : List α) (ρ : Rho), vs.length = ds.length → St k0 acc ρ →
      (∀ (k : Nat) x v ρ acc, ds[k]? = some x → vs[k]? = some v → St (k0 + k) acc ρ → match f x with
        | some z => ∃ ρ', b (setAll tg v ρ) = .next ρ' ∧ St (k0 + k + 1) (acc ++ [z]) ρ'
        | none => Bad (k0 + k) (b (setAll tg v ρ))) →
      match readL f ds k0 acc with
      | .all xs => ∃ ρ', forL tg b vs ρ = .next ρ' ∧ St (k0 + ds.length) xs ρ'
      | .bad k => Bad k (forL tg b vs ρ)
  | [], vs, k0, acc, ρ, hl, h0, _ => by
    cases vs with
    | nil => exact ⟨ρ, rfl, h0⟩
    | cons _ _ => simp at hl
  | d :: ds, vs, k0, acc, ρ, hl, h0, st => by
    cases vs with
    | nil => simp at hl
    | cons v vs =>
      have s0 := st 0 d v ρ acc rfl rfl h0
      unfold readL
      cases e : f d with
      | none =>
        rw [e] at s0
        simp only [Nat.add_zero] at s0
        have q := hB _ _ s0
        show Bad k0 (forL tg b (v :: vs) ρ)
        have : forL tg b (v :: vs) ρ = b (setAll tg v ρ) := by
          unfold forL
          rcases q with ⟨ow, q⟩ | ⟨x, ρ', q⟩ <;> rw [q]
        rw [this]; exact s0
      | some z =>
        rw [e] at s0
        obtain ⟨ρ', e1, h1⟩ := s0
        have ih := forL_read St Bad hB ds vs (k0 + 1) (acc ++ [z]) ρ' (by simpa using hl) (by simpa using h1) fun k x v ρ acc hx hv hS => by
          have := st (k + 1) x v ρ acc (by simpa using hx) (by simpa using hv) (by rw [show k0 + (k + 1) = k0 + 1 + k by omega]; exact hS)
          rw [show k0 + (k + 1) = k0 + 1 + k by omega] at this
          exact this
        have : forL tg b (v :: vs) ρ = forL tg b vs ρ' := by
          conv => lhs; unfold forL
          rw [e1]
        simp only [this]
        rw [show k0 + (d :: ds).length = k0 + 1 + ds.length by simp; omega]
        exact ih
/-! a row's member handed out; rows put together -/
theorem ret_ix {i : Nat} {E : EC} {ρ : Rho} {xs : List Ow} {k : Nat} {d : D} (h : ρ[i]? = some (some (.own (.ls xs)))) (hE : IntE E ρ k) (hE' : IntE E (ρ.set i (some (.own (.fz (.list (toDs xs)))))) k) (hk : (toDs xs)[k]? = some d) :
    sFrzL i (sRet (eBin fIx (eVar i) E)) ρ = .ret (.fz d) := by
  have hi := (List.getElem?_eq_some_iff.mp h).1
  have hlt : k < xs.length := by
    have := (List.getElem?_eq_some_iff.mp hk).1
    rw [toDs_is] at this; simpa using this
  have ej : L2.ixN xs.length (k : Int) = some k := by
    unfold L2.ixN
    rw [if_pos (by omega), if_pos (by omega)]
    simp
  have ex : xs[k]? = some xs[k] := List.getElem?_eq_getElem hlt
  have ed : (xs[k]).toD = d := by
    rw [toDs_is, List.getElem?_map, ex] at hk
    simpa using hk
  have e1 : (eBin fIx (eVar i) E) ρ = .ok (ixOw i [] k xs[k]) := by
    refine bin_v (ev_l h) hE ?_
    show (match L2.ixN xs.length (k : Int) with | some j => _ | none => _) = _
    rw [ej]
    simp only [ex]
  cases eo : xs[k] with
  | fz d' =>
    rw [eo] at e1 ed
    have : d' = d := ed
    subst this
    exact frzL_r (ret_v e1)
  | ls ys =>
    rw [eo] at e1 ed
    have st : (sRet (eBin fIx (eVar i) E)) ρ = .stuck := by unfold sRet; rw [e1]; rfl
    refine frzL_s st ?_
    rw [h]
    show (sRet (eBin fIx (eVar i) E)) (ρ.set i (some (.own (.fz (.list (toDs xs)))))) = _
    exact ret_v (bin_v (ev_f (by rw [List.getElem?_set_self hi])) hE' (fIx_row' (d := .list (toDs xs)) rfl hk))
  | tp ys =>
    rw [eo] at e1 ed
    have st : (sRet (eBin fIx (eVar i) E)) ρ = .stuck := by unfold sRet; rw [e1]; rfl
    refine frzL_s st ?_
    rw [h]
    show (sRet (eBin fIx (eVar i) E)) (ρ.set i (some (.own (.fz (.list (toDs xs)))))) = _
    exact ret_v (bin_v (ev_f (by rw [List.getElem?_set_self hi])) hE' (fIx_row' (d := .list (toDs xs)) rfl hk))
abbrev LsE (a : EC) (ρ : Rho) (ds : List D) : Prop := a ρ = .ok (.val (.ls (ds.map Ow.fz)))
theorem cut_to {α : Type} (xs : List α) {h : Int} (h0 : 0 ≤ h) : cutL xs none (some h) = xs.take h.toNat := by
  unfold cutL HT.sIx
  simp only [List.drop_zero]
  rw [if_neg (by omega), Nat.sub_zero]
  rcases Nat.lt_or_ge h.toNat xs.length with q | q
  · rw [Nat.min_eq_left (by omega)]
  · rw [Nat.min_eq_right q, List.take_of_length_le (Nat.le_refl _), List.take_of_length_le q]
theorem cut_from {α : Type} (xs : List α) {h : Int} (h0 : 0 ≤ h) : cutL xs (some h) none = xs.drop h.toNat := by
  unfold cutL HT.sIx
  simp only
  rw [if_neg (by omega)]
  rcases Nat.lt_or_ge h.toNat xs.length with q | q
  · rw [Nat.min_eq_left (by omega), List.take_of_length_le (by simp)]
  · rw [Nat.min_eq_right q, List.drop_of_length_le (Nat.le_refl _), List.drop_of_length_le q]
    simp
theorem sl_to {a hi : EC} {ρ : Rho} {ds : List D} {h : Int} (ha : a ρ = .ok (.val (.fz (.list ds)))) (hh : IntE hi ρ h) (h0 : 0 ≤ h) : LsE (eSlice a none (some hi)) ρ (ds.take h.toNat) := by
  unfold LsE eSlice
  rw [ha]
  show ((hi ρ).bind _).bind _ = _
  rw [hh]
  show Res.ok (RV.val (.ls (cutL (ds.map Ow.fz) none (some h)))) = _
  rw [cut_to _ h0, List.map_take]
theorem sl_from {a lo : EC} {ρ : Rho} {ds : List D} {h : Int} (ha : a ρ = .ok (.val (.fz (.list ds)))) (hh : IntE lo ρ h) (h0 : 0 ≤ h) : LsE (eSlice a (some lo) none) ρ (ds.drop h.toNat) := by
  unfold LsE eSlice
  rw [ha]
  show (((lo ρ).bind _).bind _) = _
  rw [hh]
  show Res.ok (RV.val (.ls (cutL (ds.map Ow.fz) (some h) none))) = _
  rw [cut_from _ h0, List.map_drop]
theorem lst_one {c : EC} {ρ : Rho} {d : D} (h : c ρ = .ok (.val (.fz d))) : LsE (eLst [c]) ρ [d] := by
  unfold LsE eLst
  rw [ev_cons h rfl]
  rfl
theorem lst_of {cs : List EC} {ρ : Rho} {xs : List RV} {os : List Ow} (h : VL.evalAll cs ρ = .ok xs) (e : owsOf xs = some os) (hl : os.length ≤ 1000) : eLst cs ρ = .ok (.val (.ls os)) := by
  show (VL.evalAll cs ρ).bind _ = _
  rw [h]
  show (match owsOf xs with | some os => _ | none => _) = _
  rw [e]
  exact if_pos hl
theorem add_ll {a b : EC} {ρ : Rho} {xs ys : List D} (h : LsE a ρ xs) (h' : LsE b ρ ys) (hl : xs.length + ys.length ≤ 16777216) : LsE (eBin fAdd a b) ρ (xs ++ ys) := by
  refine bin_v h h' ?_
  show (if (xs.map Ow.fz).length + (ys.map Ow.fz).length ≤ 16777216 then Res.ok (RV.val (.ls (xs.map Ow.fz ++ ys.map Ow.fz))) else .stuck) = _
  rw [if_pos (by simpa using hl), List.map_append]
theorem add_fl {a b : EC} {ρ : Rho} {xs ys : List D} (h : a ρ = .ok (.val (.fz (.list xs)))) (h' : LsE b ρ ys) (hl : xs.length + ys.length ≤ 16777216) : LsE (eBin fAdd a b) ρ (xs ++ ys) := by
  refine bin_v h h' ?_
  show (if (xs.map Ow.fz).length + (ys.map Ow.fz).length ≤ 16777216 then Res.ok (RV.val (.ls (xs.map Ow.fz ++ ys.map Ow.fz))) else .stuck) = _
  rw [if_pos (by simpa using hl), List.map_append]
theorem add_lf {a b : EC} {ρ : Rho} {xs ys : List D} (h : LsE a ρ xs) (h' : b ρ = .ok (.val (.fz (.list ys)))) (hl : xs.length + ys.length ≤ 16777216) : LsE (eBin fAdd a b) ρ (xs ++ ys) := by
  refine bin_v h h' ?_
  show (if (xs.map Ow.fz).length + (ys.map Ow.fz).length ≤ 16777216 then Res.ok (RV.val (.ls (xs.map Ow.fz ++ ys.map Ow.fz))) else .stuck) = _
  rw [if_pos (by simpa using hl), List.map_append]
theorem lsD (ds : List D) : (Ow.ls (ds.map Ow.fz)).toD = .list ds := by show PyData.list (toDs _) = _; rw [toDs_fz]
theorem rng1_I {a : EC} {ρ : Rho} {n : Int} (h : IntE a ρ n) (h0 : -1000000 ≤ n) (h1 : n ≤ 1000000) : iRng1 a ρ = .ok (rangeS 0 n) := by
  have hb : rngOk n = true := by simp only [rngOk, Bool.and_eq_true, decide_eq_true_eq]; omega
  unfold iRng1
  rw [h]
  show (if rngOk n = true then _ else _) = _
  rw [if_pos hb]
theorem FitR.at_ {n k : Nat} {xs : List D} {j : Nat} {x : D} (h : FitR n k xs) (e : xs[j]? = some x) : ∃ a b, FitR a k (xs.take j) ∧ FitR b k (xs.drop (j + 1)) ∧ a + (PyData.weight x + 1) + b ≤ n := by
  have hj := (List.getElem?_eq_some_iff.mp e).1
  have e2 : xs.drop j = x :: xs.drop (j + 1) := by
    rw [List.drop_eq_getElem_cons hj]
    rw [List.getElem?_eq_getElem hj] at e
    cases e; rfl
  have e3 := List.take_append_drop j xs
  rw [e2] at e3
  have l := h.lf; have w := h.w; have d := h.dp
  rw [← e3] at l w d
  rw [w_app] at w; rw [dp_app] at d
  simp only [PyData.weightAll] at w
  simp only [PyData.depthAll] at d
  have l2 := lf_cons (lf_app.mp l).2
  exact ⟨_, _, ⟨(lf_app.mp l).1, Nat.le_refl _, by omega⟩, ⟨l2.2, Nat.le_refl _, by omega⟩, by omega⟩
theorem set_split {xs : List D} {j : Nat} {x y : D} (e : xs[j]? = some x) : xs.set j y = xs.take j ++ y :: xs.drop (j + 1) := by
  have hj := (List.getElem?_eq_some_iff.mp e).1
  rw [List.set_eq_take_append_cons_drop, if_pos hj]
theorem FitR.set_ {n k : Nat} {xs : List D} {j : Nat} {x y : D} (h : FitR n k xs) (e : xs[j]? = some x) (hy : Fit (PyData.weight x) k y) : FitR n k (xs.set j y) := by
  obtain ⟨a, b, ha, hb, hn⟩ := h.at_ e
  rw [set_split e]
  exact (ha.app (FitR.cons hy hb)).mono (by omega) (Nat.le_refl _)
theorem for_rngB {i : Nat} {b : SC} {a : EC} {n : Nat} {ρ : Rho} (I : Nat → Rho → Prop) (ha : IntE a ρ n) (hn : (n : Int) ≤ 1000000) (h0 : I 0 ρ)
    (st : ∀ (k : Nat) ρ, k < n → I k ρ → ∃ ρ', (b (ρ.set i (some (.own (.fz (.int k))))) = .next ρ' ∨ b (ρ.set i (some (.own (.fz (.int k))))) = .cont ρ') ∧ I (k + 1) ρ') : ∃ ρ', sFor [i] (iRng1 a) b ρ = .next ρ' ∧ I n ρ' := by
  obtain ⟨ρ', e, h⟩ := forL_n (tg := [i]) (b := b) (vs := rangeS 0 n) I h0 (by
    intro k v ρ hv hI
    obtain ⟨rfl, hk⟩ := rangeS_get hv
    have e : setAll [i] [slOf (.int (0 + (k : Nat)))] ρ = ρ.set i (some (.own (.fz (.int k)))) := by rw [Int.zero_add]; rfl
    rw [e]
    exact st k ρ (by omega) hI)
  refine ⟨ρ', for_n (rng1_big ha hn) e, ?_⟩
  rw [rangeS_len] at h
  have : ((n : Int) - 0).toNat = n := by omega
  rwa [this] at h
theorem putf_s {i : Nat} {o j e : EC} {ρ : Rho} {es : List D} {d : D} {n : Nat} (h : o ρ = .ok (.ref i [] (.ls (es.map Ow.fz)))) (hj : IntE j ρ n) (h' : e ρ = .ok (.val (.fz d))) (hr : ρ[i]? = some (some (.own (.ls (es.map Ow.fz))))) (hn : n < es.length) :
    sPut o j e ρ = .next (ρ.set i (some (.own (.ls ((es.set n d).map Ow.fz))))) := by
  unfold sPut
  rw [h']
  simp only
  rw [h]
  simp only
  rw [hj]
  have e1 : L2.ixN (es.map Ow.fz).length (n : Int) = some n := by
    unfold L2.ixN
    rw [if_pos (by omega), if_pos (by simp; omega)]
    simp
  show (match L2.ixN (es.map Ow.fz).length (n : Int) with | some j => _ | none => _) = _
  rw [e1]
  unfold VL.putAt
  rw [hr]
  simp only [Ow.put, List.map_set]
theorem tupf_s {d : D} {ds : List D} (h : rowOf d = some ds) : fTuple (.val (.fz d)) = .ok (.val (.fz (.tuple ds))) := by
  have e : mkTup (ds.map Ow.fz) = .fz (.tuple ds) := by
    unfold mkTup
    rw [if_pos (by rw [List.all_map, List.all_eq_true]; intro _ _; rfl), toDs_fz]
  cases d with
  | list es =>
    have h' : es = ds := by cases h; rfl
    rw [h']
    show Res.ok (RV.val (mkTup (ds.map Ow.fz))) = _
    rw [e]
  | tuple _ => cases h; rfl
  | _ => cases h
theorem tup_w (xs : List D) : PyData.weight (.tuple xs) = PyData.weight (.list xs) := by simp [PyData.weight]
theorem tup_dp (xs : List D) : PyData.depth (.tuple xs) = PyData.depth (.list xs) := by simp [PyData.depth]
theorem tup_lf (xs : List D) : lf (.tuple xs) = lf (.list xs) := by rw [lf, lf]
theorem Fit.two {n m a b k : Nat} {x y : D} (hx : Fit a k x) (hy : Fit b k y) (h : a + b + 2 ≤ n) (hk : k + 1 ≤ m) : Fit n m (.list [x, y]) := ((FitR.cons hx (FitR.one hy)).list).mono (by omega) hk
end VL

set_option Elab.async false
set_option linter.all false
set_option maxRecDepth 100000
set_option maxHeartbeats 4000000
namespace PR
open PySem PySem.Spec PyProof.Rows L2 VL
/-! is_number -/
abbrev b_is_number : SC := (sSeq (sIf (tOr (tNot (tB (eUn (fIsI .int) (eVar 0)))) (tB (eUn (fIsI .bool) (eVar 0)))) (sRet (eK (.bool false))) sPass) (sRet (eChain fLe fLe (eVar 1) (eVar 0) (eVar 2))))
def φ_is_number : Fn := runBody b_is_number 3
/-! is_row -/
abbrev b_is_row : SC := (sRet (eUn (fIsIs [.list, .tuple]) (eVar 0)))
def φ_is_row : Fn := runBody b_is_row 1
/-! is_link -/
abbrev b_is_link : SC := (sRet (eAnd (eCall φ_is_number [(eVar 2), (eK (.int 1)), (eVar 0)]) (eAnd (eCall φ_is_number [(eVar 1), (eK (.int 0)), (eVar 0)]) (eBin fNe (eVar 1) (eVar 2)))))
def φ_is_link : Fn := runBody b_is_link 3
/-! check_frame -/
abbrev b_check_frame : SC := (sSeq (sIf (tOr (tNot (tB (eCall φ_is_row [(eVar 0)]))) (tB (eBin fNe (eUn fLen (eVar 0)) (eK (.int 2))))) (sRaise "BadHouse" "at" (eUn fNeg (eK (.int 1)))) sPass) (sSeq (sUnp [1, 2] (eVar 0)) (sSeq (sFrz 2 (sFrz 1 (sIf (tOr (tNot (tB (eCall φ_is_number [(eVar 1), (eK (.int 1)), (eK (.int 10))]))) (tNot (tB (eCall φ_is_row [(eVar 2)])))) (sRaise "BadHouse" "at" (eUn fNeg (eK (.int 1)))) sPass))) (sSeq (sIf (tB (eBin fGt (eUn fLen (eVar 2)) (eK (.int 30)))) (sRaise "TooMany" "limit" (eK (.int 30))) sPass) (sRetM [.mv 1, .mv 2])))))
def φ_check_frame : Fn := runBody b_check_frame 3
/-! check_house -/
abbrev w_check_house_0 : SC := (sSeq (sIf (tOr (tNot (tB (eCall φ_is_row [(eVar 5)]))) (tB (eBin fNe (eUn fLen (eVar 5)) (eK (.int 3))))) (sRaise "BadHouse" "at" (eVar 4)) sPass) (sSeq (sUnp [6, 7, 8] (eVar 5)) (sSeq (sFrz 8 (sFrz 7 (sFrz 6 (sFrz 1 (sIf (tOr (tNot (tB (eCall φ_is_link [(eVar 1), (eVar 6), (eVar 7)]))) (tNot (tB (eCall φ_is_number [(eVar 8), (eK (.int 0)), (eK (.int 999))])))) (sRaise "BadHouse" "at" (eVar 4)) sPass))))) (sFrz 8 (sFrz 7 (sFrz 6 (sApp (eVar 3) (eTup [(eVar 6), (eVar 7), (eVar 8)]))))))))
abbrev b_check_house : SC := (sSeq (sUnp [1, 2] (eCall φ_check_frame [(eVar 0)])) (sSeq (sSet 3 (eLst [])) (sSeq (sFrz 2 (sFor [4, 5] (iEnum (eVar 2)) w_check_house_0)) (sRetM [.mv 1, .mv 3]))))
def φ_check_house : Fn := runBody b_check_house 9
/-! first_fault -/
abbrev w_first_fault_0 : SC := (sSeq (sIf (tNot (tB (eCall φ_is_number [(eVar 4), (eVar 1), (eVar 2)]))) (sRet (eVar 3)) sPass) (sIf (tAnd (tB (eBin fGt (eVar 3) (eK (.int 0)))) (tB (eBin fLe (eVar 4) (eBin fIx (eVar 0) (eBin fSub (eVar 3) (eK (.int 1))))))) (sRet (eVar 3)) sPass))
abbrev b_first_fault : SC := (sSeq (sFor [3, 4] (iEnum (eVar 0)) w_first_fault_0) (sRet (eK .none)))
def φ_first_fault : Fn := runBody b_first_fault 5
/-! check_choice -/
abbrev b_check_choice : SC := (sSeq (sIf (tNot (tB (eCall φ_is_row [(eVar 0)]))) (sRaise "BadChoice" "at" (eUn fNeg (eK (.int 1)))) sPass) (sSeq (sSet 3 (eCall φ_first_fault [(eVar 0), (eVar 1), (eVar 2)])) (sSeq (sIf (tB (eUn fNotN (eVar 3))) (sRaise "BadChoice" "at" (eVar 3)) sPass) (sRet (eUn fList (eVar 0))))))
def φ_check_choice : Fn := runBody b_check_choice 4
/-! check_kept -/
abbrev b_check_kept : SC := (sSeq (sIf (tB (eUn fIsN (eVar 0))) (sRet (eUn fLRng1 (eVar 1))) sPass) (sRet (eCall φ_check_choice [(eVar 0), (eK (.int 0)), (eBin fSub (eVar 1) (eK (.int 1)))])))
def φ_check_kept : Fn := runBody b_check_kept 2
/-! enters -/
abbrev b_enters : SC := (sRet (eAnd (eBin fIn (eBin fIx (eVar 0) (eK (.int 1))) (eVar 1)) (eBin fNotIn (eBin fIx (eVar 0) (eK (.int 0))) (eVar 1))))
def φ_enters : Fn := runBody b_enters 2
/-! entering_among -/
abbrev b_entering_among : SC := (sRet (eComp [3] (iRow (eVar 1)) (tB (eCall φ_enters [(eBin fIx (eVar 0) (eVar 3)), (eVar 2)])) (eVar 3)))
def φ_entering_among : Fn := runBody b_entering_among 4
/-! cost_of -/
abbrev b_cost_of : SC := (sRet (eUn fSum (eComp [2] (iRow (eVar 1)) tYes (eBin fIx (eBin fIx (eVar 0) (eVar 2)) (eK (.int 2))))))
def φ_cost_of : Fn := runBody b_cost_of 3
/-! part_of -/
abbrev b_part_of : SC := (sSeq (sUnp [2, 3] (eCall φ_check_house [(eVar 0)])) (sSeq (sFrz 1 (sSet 1 (eCall φ_check_kept [(eVar 1), (eUn fLen (eVar 3))]))) (sFrzL 3 (sFrz 1 (sRetM [.mv 2, .ev (eComp [4] (iRow (eVar 1)) tYes (eBin fIx (eVar 3) (eVar 4)))])))))
def φ_part_of : Fn := runBody b_part_of 5
/-! entering -/
abbrev b_entering : SC := (sSeq (sUnp [3, 4] (eCall φ_check_house [(eVar 0)])) (sSeq (sFrz 1 (sSet 1 (eCall φ_check_kept [(eVar 1), (eUn fLen (eVar 4))]))) (sSeq (sFrz 3 (sFrz 2 (sSet 2 (eCall φ_check_choice [(eVar 2), (eK (.int 1)), (eVar 3)])))) (sFrz 2 (sFrz 1 (sFrz 4 (sRet (eCall φ_entering_among [(eVar 4), (eVar 1), (eVar 2)]))))))))
def φ_entering : Fn := runBody b_entering 5
/-! total_size -/
abbrev b_total_size : SC := (sSeq (sSet 2 (eBin fIx (eCall φ_check_house [(eVar 0)]) (eK (.int 1)))) (sFrz 2 (sRet (eCall φ_cost_of [(eVar 2), (eCall φ_check_kept [(eVar 1), (eUn fLen (eVar 2))])]))))
def φ_total_size : Fn := runBody b_total_size 3
/-! check_number -/
abbrev b_check_number : SC := (sIf (tNot (tB (eCall φ_is_number [(eVar 0), (eVar 1), (eVar 2)]))) (sRaise "BadNumber" "what" (eVar 3)) sPass)
def φ_check_number : Fn := runBody b_check_number 4
/-! without -/
abbrev b_without : SC := (sRet (eComp [2] (iRow (eVar 0)) (tB (eBin fNotIn (eVar 2) (eVar 1))) (eVar 2)))
def φ_without : Fn := runBody b_without 3
/-! given_days -/
abbrev w_given_days_0 : SC := (sIf (tAnd (tB (eBin fNotIn (eBin fIx (eVar 4) (eK (.int 1))) (eVar 2))) (tOr (tB (eBin fEq (eBin fIx (eVar 4) (eK (.int 0))) (eK (.int 0)))) (tB (eBin fIn (eBin fIx (eVar 4) (eK (.int 0))) (eVar 2))))) (sSeq (sApp (eVar 2) (eBin fIx (eVar 4) (eK (.int 1)))) (sSet 3 (eK (.bool true)))) sPass)
abbrev w_given_days_1 : SC := (sSeq (sSet 3 (eK (.bool false))) (sFor [4] (iRow (eVar 0)) w_given_days_0))
abbrev b_given_days : SC := (sSeq (sSet 2 (eUn fList (eVar 1))) (sSeq (sSet 3 (eK (.bool true))) (sSeq (sWhile (tB (eVar 3)) w_given_days_1) (sFrz 2 (sRet (eUn fSorted (eVar 2)))))))
def φ_given_days : Fn := runBody b_given_days 5
/-! days_of -/
abbrev b_days_of : SC := (sRet (eCall φ_given_days [(eComp [2] (iRow (eVar 1)) tYes (eBin fIx (eVar 0) (eVar 2))), (eLst [])]))
def φ_days_of : Fn := runBody b_days_of 3
/-! days_left -/
abbrev b_days_left : SC := (sRet (eComp [2] (iRng2 (eK (.int 1)) (eBin fAdd (eVar 0) (eK (.int 1)))) (tB (eBin fNotIn (eVar 2) (eVar 1))) (eVar 2)))
def φ_days_left : Fn := runBody b_days_left 3
/-! check_question -/
abbrev b_check_question : SC := (sSeq (sUnp [3, 4] (eCall φ_check_house [(eVar 0)])) (sSeq (sFrz 1 (sSet 1 (eCall φ_check_kept [(eVar 1), (eUn fLen (eVar 4))]))) (sSeq (sFrz 3 (sEx (eCall φ_check_number [(eVar 2), (eK (.int 1)), (eVar 3), (eK (.str "day"))]))) (sRetM [.mv 3, .mv 4, .mv 1]))))
def φ_check_question : Fn := runBody b_check_question 5
/-! restorable -/
abbrev b_restorable : SC := (sSeq (sSet 2 (eBin fIx (eCall φ_check_house [(eVar 0)]) (eK (.int 1)))) (sFrz 2 (sRet (eCall φ_days_of [(eVar 2), (eCall φ_check_kept [(eVar 1), (eUn fLen (eVar 2))])]))))
def φ_restorable : Fn := runBody b_restorable 3
/-! lost_days -/
abbrev b_lost_days : SC := (sSeq (sUnp [2, 3] (eCall φ_check_house [(eVar 0)])) (sFrz 3 (sFrz 2 (sRet (eCall φ_days_left [(eVar 2), (eCall φ_days_of [(eVar 3), (eCall φ_check_kept [(eVar 1), (eUn fLen (eVar 3))])])])))))
def φ_lost_days : Fn := runBody b_lost_days 4
/-! single_points -/
abbrev b_single_points : SC := (sSeq (sFrz 1 (sUnp [3, 1] (eSlice (eCall φ_check_question [(eVar 0), (eVar 1), (eVar 2)]) (some (eK (.int 1))) none))) (sSeq (sFrz 1 (sFrz 3 (sIf (tB (eBin fNotIn (eVar 2) (eCall φ_days_of [(eVar 3), (eVar 1)]))) (sRaise "Unrestorable" "day" (eVar 2)) sPass))) (sFrz 3 (sFrz 1 (sRet (eComp [4] (iRow (eVar 1)) (tB (eBin fNotIn (eVar 2) (eCall φ_days_of [(eVar 3), (eCall φ_without [(eVar 1), (eLst [(eVar 4)])])]))) (eVar 4)))))))
def φ_single_points : Fn := runBody b_single_points 5
/-! spare_copies -/
abbrev b_spare_copies : SC := (sSeq (sSet 2 (eBin fIx (eCall φ_check_house [(eVar 0)]) (eK (.int 1)))) (sSeq (sFrz 1 (sSet 1 (eCall φ_check_kept [(eVar 1), (eUn fLen (eVar 2))]))) (sSeq (sFrz 1 (sFrz 2 (sSet 3 (eCall φ_days_of [(eVar 2), (eVar 1)])))) (sFrz 2 (sFrz 1 (sRet (eComp [4] (iRow (eVar 1)) (tB (eBin fEq (eCall φ_days_of [(eVar 2), (eCall φ_without [(eVar 1), (eLst [(eVar 4)])])]) (eVar 3))) (eVar 4))))))))
def φ_spare_copies : Fn := runBody b_spare_copies 5
/-! has_form -/
abbrev b_has_form : SC := (sSeq (sIf (tB (eBin fEq (eVar 1) (eK (.int 1)))) (sRet (eAnd (eBin fEq (eBin fIx (eVar 0) (eK (.int 0))) (eK (.str "days"))) (eBin fEq (eUn fLen (eVar 0)) (eK (.int 2))))) sPass) (sSeq (sIf (tB (eBin fEq (eBin fIx (eVar 0) (eK (.int 0))) (eK (.str "whole")))) (sRet (eBin fEq (eUn fLen (eVar 0)) (eK (.int 3)))) sPass) (sRet (eAnd (eBin fEq (eBin fIx (eVar 0) (eK (.int 0))) (eK (.str "step"))) (eBin fEq (eUn fLen (eVar 0)) (eK (.int 4)))))))
def φ_has_form : Fn := runBody b_has_form 2
/-! gates_of -/
abbrev w_gates_of_0 : SC := (sSeq (sSet 6 (eBin fIx (eBin fIx (eVar 0) (eVar 5)) (eK (.int 1)))) (sSeq (sSet 7 (eComp [8] (iRow (eVar 1)) (tB (eBin fNe (eBin fIx (eBin fIx (eVar 0) (eVar 8)) (eK (.int 1))) (eVar 6))) (eVar 8))) (sFrz 7 (sIf (tOr (tB (eBin fEq (eVar 6) (eVar 2))) (tB (eBin fNotIn (eVar 2) (eCall φ_days_of [(eVar 0), (eVar 7)])))) (sFrz 6 (sApp (eVar 4) (eVar 6))) sPass))))
abbrev b_gates_of : SC := (sSeq (sSet 4 (eLst [])) (sSeq (sFor [5] (iRow (eVar 3)) w_gates_of_0) (sRet (eVar 4))))
def φ_gates_of : Fn := runBody b_gates_of 9
/-! frozen -/
abbrev b_frozen : SC := (sRet (eUn fTuple (eComp [1] (iRow (eVar 0)) tYes (eTup [(eBin fIx (eVar 1) (eK (.int 0))), (eBin fIx (eVar 1) (eK (.int 1)))]))))
def φ_frozen : Fn := runBody b_frozen 2
/-! store_of -/
abbrev b_store_of : SC := (sSeq (sIf (tB (eBin fEq (eVar 1) (eK (.int 0)))) (sRet (eTup [])) sPass) (sRet (eBin fIx (eVar 0) (eBin fSub (eVar 1) (eK (.int 1))))))
def φ_store_of : Fn := runBody b_store_of 2
/-! is_choice -/
abbrev b_is_choice : SC := (sRet (eAnd (eCall φ_is_row [(eVar 0)]) (eUn fIsN (eCall φ_first_fault [(eVar 0), (eVar 1), (eVar 2)]))))
def φ_is_choice : Fn := runBody b_is_choice 3
/-! is_within -/
abbrev w_is_within_0 : SC := (sIf (tB (eBin fNotIn (eVar 2) (eVar 1))) (sRet (eK (.bool false))) sPass)
abbrev b_is_within : SC := (sSeq (sFor [2] (iRow (eVar 0)) w_is_within_0) (sRet (eK (.bool true))))
def φ_is_within : Fn := runBody b_is_within 3
/-! with_member -/
abbrev b_with_member : SC := (sRet (eUn fSorted (eBin fAdd (eUn fList (eVar 0)) (eLst [(eVar 1)]))))
def φ_with_member : Fn := runBody b_with_member 2
/-! is_pair_row -/
abbrev w_is_pair_row_0 : SC := (sIf (tOr (tNot (tB (eCall φ_is_row [(eVar 1)]))) (tB (eBin fNe (eUn fLen (eVar 1)) (eK (.int 2))))) (sRet (eK (.bool false))) sPass)
abbrev b_is_pair_row : SC := (sSeq (sIf (tNot (tB (eCall φ_is_row [(eVar 0)]))) (sRet (eK (.bool false))) sPass) (sSeq (sFor [1] (iRow (eVar 0)) w_is_pair_row_0) (sRet (eK (.bool true)))))
def φ_is_pair_row : Fn := runBody b_is_pair_row 2
/-! sets_name -/
abbrev w_sets_name_0 : SC := (sIf (tB (eBin fEq (eBin fIx (eVar 2) (eK (.int 0))) (eVar 1))) (sRet (eK (.bool true))) sPass)
abbrev b_sets_name : SC := (sSeq (sFor [2] (iRow (eBin fIx (eVar 0) (eK (.int 2)))) w_sets_name_0) (sRet (eK (.bool false))))
def φ_sets_name : Fn := runBody b_sets_name 3
/-! set_value -/
abbrev w_set_value_0 : SC := (sIf (tB (eBin fEq (eBin fIx (eVar 2) (eK (.int 0))) (eVar 1))) (sRet (eBin fIx (eVar 2) (eK (.int 1)))) sPass)
abbrev b_set_value : SC := (sSeq (sFor [2] (iRow (eBin fIx (eVar 0) (eK (.int 2)))) w_set_value_0) (sRet (eK .none)))
def φ_set_value : Fn := runBody b_set_value 3
/-! part_by_name -/
abbrev w_part_by_name_0 : SC := (sIf (tB (eCall φ_sets_name [(eBin fIx (eVar 0) (eVar 5)), (eVar 2)])) (sApp (eVar 3) (eVar 5)) (sApp (eVar 4) (eVar 5)))
abbrev b_part_by_name : SC := (sSeq (sSet 3 (eLst [])) (sSeq (sSet 4 (eLst [])) (sSeq (sFor [5] (iRow (eVar 1)) w_part_by_name_0) (sRetM [.mv 3, .mv 4]))))
def φ_part_by_name : Fn := runBody b_part_by_name 6
/-! labels_of -/
abbrev w_labels_of_0 : SC := (sSeq (sFrzL 3 (sUnp [5, 6] (eTup [(eBin fIx (eVar 3) (eBin fIx (eBin fIx (eVar 1) (eVar 4)) (eK (.int 0)))), (eBin fIx (eVar 3) (eBin fIx (eBin fIx (eVar 1) (eVar 4)) (eK (.int 1))))]))) (sIf (tB (eBin fNe (eVar 5) (eVar 6))) (sSeq (sFrz 6 (sFrz 5 (sUnp [7, 8] (eTup [(eBin fMin (eVar 5) (eVar 6)), (eBin fMax (eVar 5) (eVar 6))])))) (sFrz 7 (sFrz 3 (sSet 3 (eComp [9] (iRow (eVar 3)) tYes (eIf (tB (eBin fEq (eVar 9) (eVar 8))) (eVar 7) (eVar 9))))))) sPass))
abbrev b_labels_of : SC := (sSeq (sSet 3 (eUn fLRng1 (eBin fAdd (eVar 0) (eK (.int 1))))) (sSeq (sFor [4] (iRow (eVar 2)) w_labels_of_0) (sRet (eVar 3))))
def φ_labels_of : Fn := runBody b_labels_of 10
/-! end_of -/
abbrev b_end_of : SC := (sSeq (sIf (tNot (tB (eCall φ_is_number [(eVar 3), (eUn fNeg (eK (.int 1))), (eBin fSub (eUn fLen (eVar 0)) (eK (.int 1)))]))) (sRet (eK .none)) sPass) (sSeq (sIf (tB (eBin fEq (eVar 3) (eUn fNeg (eK (.int 1))))) (sRet (eTup [(eK (.int 0)), (eK .none)])) sPass) (sSeq (sIf (tOr (tB (eBin fNotIn (eVar 3) (eVar 1))) (tNot (tB (eCall φ_sets_name [(eBin fIx (eVar 0) (eVar 3)), (eVar 2)])))) (sRet (eK .none)) sPass) (sRet (eTup [(eBin fIx (eBin fIx (eVar 0) (eVar 3)) (eK (.int 1))), (eCall φ_set_value [(eBin fIx (eVar 0) (eVar 3)), (eVar 2)])])))))
def φ_end_of : Fn := runBody b_end_of 4
/-! place_behind -/
abbrev b_place_behind : SC := (sSeq (sIf (tOr (tNot (tB (eCall φ_is_number [(eVar 3), (eK (.int 0)), (eBin fSub (eUn fLen (eVar 0)) (eK (.int 1)))]))) (tOr (tB (eBin fNotIn (eVar 3) (eVar 1))) (tB (eCall φ_sets_name [(eBin fIx (eVar 0) (eVar 3)), (eVar 2)])))) (sRet (eK .none)) sPass) (sSeq (sIf (tB (eBin fEq (eBin fIx (eBin fIx (eVar 0) (eVar 3)) (eK (.int 0))) (eVar 4))) (sRet (eBin fIx (eBin fIx (eVar 0) (eVar 3)) (eK (.int 1)))) sPass) (sSeq (sIf (tB (eBin fEq (eBin fIx (eBin fIx (eVar 0) (eVar 3)) (eK (.int 1))) (eVar 4))) (sRet (eBin fIx (eBin fIx (eVar 0) (eVar 3)) (eK (.int 0)))) sPass) (sRet (eK .none)))))
def φ_place_behind : Fn := runBody b_place_behind 5
/-! check_chain -/
abbrev w_check_chain_0 : SC := (sSeq (sIf (tNot (tB (eCall φ_is_number [(eVar 5), (eK (.int 0)), (eBin fSub (eUn fLen (eVar 0)) (eK (.int 1)))]))) (sRaise "BadChoice" "at" (eVar 4)) sPass) (sSeq (sIf (tB (eBin fEq (eVar 4) (eK (.int 0)))) (sSet 2 (eBin fIx (eBin fIx (eVar 0) (eVar 5)) (eK (.int 0)))) (sIf (tB (eBin fNe (eBin fIx (eBin fIx (eVar 0) (eVar 5)) (eK (.int 0))) (eVar 3))) (sRaise "BadChoice" "at" (eVar 4)) sPass)) (sSet 3 (eBin fIx (eBin fIx (eVar 0) (eVar 5)) (eK (.int 1))))))
abbrev b_check_chain : SC := (sSeq (sIf (tOr (tNot (tB (eCall φ_is_row [(eVar 1)]))) (tB (eBin fEq (eUn fLen (eVar 1)) (eK (.int 0))))) (sRaise "BadChoice" "at" (eUn fNeg (eK (.int 1)))) sPass) (sSeq (sSet 2 (eK .none)) (sSeq (sSet 3 (eK .none)) (sSeq (sFor [4, 5] (iEnum (eVar 1)) w_check_chain_0) (sSeq (sIf (tB (eBin fEq (eVar 3) (eVar 2))) (sRaise "BadChoice" "at" (eUn fLen (eVar 1))) sPass) (sRetM [.mv 2, .mv 3]))))))
def φ_check_chain : Fn := runBody b_check_chain 6
/-! rack_of -/
abbrev w_rack_of_0 : SC := (sIf (tNot (tB (eCall φ_is_choice [(eVar 3), (eK (.int 0)), (eBin fSub (eUn fLen (eVar 0)) (eK (.int 1)))]))) (sRaise "BadRack" "at" (eVar 2)) sPass)
abbrev b_rack_of : SC := (sSeq (sIf (tNot (tB (eCall φ_is_row [(eVar 1)]))) (sRaise "BadRack" "at" (eUn fNeg (eK (.int 1)))) sPass) (sSeq (sIf (tB (eBin fGt (eUn fLen (eVar 1)) (eK (.int 8)))) (sRaise "TooMany" "limit" (eK (.int 8))) sPass) (sSeq (sFor [2, 3] (iEnum (eVar 1)) w_rack_of_0) (sRet (eComp [3] (iRow (eVar 1)) tYes (eUn fList (eVar 3)))))))
def φ_rack_of : Fn := runBody b_rack_of 4
/-! check_rack -/
abbrev b_check_rack : SC := (sRet (eCall φ_rack_of [(eBin fIx (eCall φ_check_house [(eVar 0)]) (eK (.int 1))), (eVar 1)]))
def φ_check_rack : Fn := runBody b_check_rack 2
/-! choices -/
abbrev w_choices_0 : SC := (sApp (eVar 4) (eBin fAdd (eVar 5) (eLst [(eVar 7)])))
abbrev w_choices_1 : SC := (sSeq (sSet 6 (eIf (tB (eVar 5)) (eBin fAdd (eBin fIx (eVar 5) (eUn fNeg (eK (.int 1)))) (eK (.int 1))) (eK (.int 0)))) (sFrz 6 (sFor [7] (iRng2 (eVar 6) (eBin fSub (eVar 0) (eBin fSub (eBin fSub (eVar 1) (eVar 3)) (eK (.int 1))))) w_choices_0)))
abbrev w_choices_2 : SC := (sSeq (sSet 4 (eLst [])) (sSeq (sFrz 2 (sFor [5] (iRow (eVar 2)) w_choices_1)) (sSet 2 (eVar 4))))
abbrev b_choices : SC := (sSeq (sSet 2 (eLst [(eLst [])])) (sSeq (sFor [3] (iRng1 (eVar 1)) w_choices_2) (sRet (eVar 2))))
def φ_choices : Fn := runBody b_choices 8
/-! all_choices -/
abbrev w_all_choices_0 : SC := (sExt (eVar 1) (eCall φ_choices [(eVar 0), (eVar 2)]))
abbrev b_all_choices : SC := (sSeq (sSet 1 (eLst [])) (sSeq (sFor [2] (iRng1 (eBin fAdd (eVar 0) (eK (.int 1)))) w_all_choices_0) (sRet (eVar 1))))
def φ_all_choices : Fn := runBody b_all_choices 3
/-! check_wanted -/
abbrev b_check_wanted : SC := (sSeq (sUnp [3, 4] (eCall φ_check_house [(eVar 0)])) (sSeq (sFrz 1 (sFrz 4 (sSet 1 (eCall φ_rack_of [(eVar 4), (eVar 1)])))) (sRetM [.mv 3, .mv 4, .mv 1, .ev (eCall φ_check_choice [(eVar 2), (eK (.int 1)), (eVar 3)])])))
def φ_check_wanted : Fn := runBody b_check_wanted 5
/-! holds_one -/
abbrev w_holds_one_0 : SC := (sIf (tB (eCall φ_is_within [(eVar 2), (eVar 1)])) (sRet (eK (.bool true))) sPass)
abbrev b_holds_one : SC := (sSeq (sFor [2] (iRow (eVar 0)) w_holds_one_0) (sRet (eK (.bool false))))
def φ_holds_one : Fn := runBody b_holds_one 3
/-! apart -/
abbrev w_apart_0 : SC := (sIf (tB (eBin fIn (eVar 2) (eVar 1))) (sRet (eK (.bool false))) sPass)
abbrev b_apart : SC := (sSeq (sFor [2] (iRow (eVar 0)) w_apart_0) (sRet (eK (.bool true))))
def φ_apart : Fn := runBody b_apart 3
/-! meets_all -/
abbrev w_meets_all_0 : SC := (sIf (tB (eCall φ_apart [(eVar 0), (eVar 2)])) (sRet (eK (.bool false))) sPass)
abbrev b_meets_all : SC := (sSeq (sFor [2] (iRow (eVar 1)) w_meets_all_0) (sRet (eK (.bool true))))
def φ_meets_all : Fn := runBody b_meets_all 3
/-! blocker -/
abbrev w_blocker_0 : SC := (sIf (tNot (tB (eCall φ_is_choice [(eVar 3), (eK (.int 0)), (eBin fSub (eVar 0) (eK (.int 1)))]))) (sRaise "BadChoice" "at" (eVar 2)) sPass)
abbrev w_blocker_1 : SC := (sIf (tAnd (tNot (tB (eCall φ_holds_one [(eVar 4), (eVar 5)]))) (tB (eCall φ_meets_all [(eVar 5), (eVar 1)]))) (sApp (eVar 4) (eVar 5)) sPass)
abbrev b_blocker : SC := (sSeq (sEx (eCall φ_check_number [(eVar 0), (eK (.int 0)), (eK (.int 8)), (eK (.str "count"))])) (sSeq (sIf (tNot (tB (eCall φ_is_row [(eVar 1)]))) (sRaise "BadChoice" "at" (eUn fNeg (eK (.int 1)))) sPass) (sSeq (sIf (tB (eBin fGt (eUn fLen (eVar 1)) (eK (.int 256)))) (sRaise "TooMany" "limit" (eK (.int 256))) sPass) (sSeq (sFor [2, 3] (iEnum (eVar 1)) w_blocker_0) (sSeq (sSet 4 (eLst [])) (sSeq (sFor [5] (iRow (eCall φ_all_choices [(eVar 0)])) w_blocker_1) (sRet (eVar 4))))))))
def φ_blocker : Fn := runBody b_blocker 6
/-! tapes_into -/
abbrev w_tapes_into_0 : SC := (sIf (tB (eBin fGt (eUn fLen (eCall φ_entering_among [(eVar 0), (eVar 5), (eVar 2)])) (eK (.int 0)))) (sApp (eVar 3) (eVar 4)) sPass)
abbrev b_tapes_into : SC := (sSeq (sSet 3 (eLst [])) (sSeq (sFor [4, 5] (iEnum (eVar 1)) w_tapes_into_0) (sRet (eVar 3))))
def φ_tapes_into : Fn := runBody b_tapes_into 6
/-! check_fees -/
abbrev w_check_fees_0 : SC := (sIf (tNot (tB (eCall φ_is_number [(eVar 3), (eK (.int 0)), (eK (.int 99))]))) (sRaise "BadWeights" "at" (eVar 2)) sPass)
abbrev b_check_fees : SC := (sSeq (sIf (tOr (tNot (tB (eCall φ_is_row [(eVar 1)]))) (tB (eBin fNe (eUn fLen (eVar 1)) (eVar 0)))) (sRaise "BadWeights" "at" (eUn fNeg (eK (.int 1)))) sPass) (sSeq (sFor [2, 3] (iEnum (eVar 1)) w_check_fees_0) (sRet (eUn fList (eVar 1)))))
def φ_check_fees : Fn := runBody b_check_fees 4
/-! fee_of -/
abbrev b_fee_of : SC := (sRet (eUn fSum (eComp [2] (iRow (eVar 1)) tYes (eBin fIx (eVar 0) (eVar 2)))))
def φ_fee_of : Fn := runBody b_fee_of 3
/-! check_mount -/
abbrev b_check_mount : SC := (sSeq (sFrz 2 (sFrz 1 (sUnp [4, 5, 1, 2] (eCall φ_check_wanted [(eVar 0), (eVar 1), (eVar 2)])))) (sRetM [.mv 4, .mv 5, .mv 1, .mv 2, .ev (eCall φ_check_fees [(eUn fLen (eVar 1)), (eVar 3)])]))
def φ_check_mount : Fn := runBody b_check_mount 6
/-! is_at_least -/
abbrev b_is_at_least : SC := (sRet (eAnd (eUn (fIsI .int) (eVar 0)) (eAnd (eUn fNot (eUn (fIsI .bool) (eVar 0))) (eBin fGe (eVar 0) (eVar 1)))))
def φ_is_at_least : Fn := runBody b_is_at_least 2
/-! led_from -/
abbrev w_led_from_0 : SC := (sIf (tAnd (tB (eBin fIn (eBin fIx (eBin fIx (eVar 0) (eVar 5)) (eK (.int 1))) (eVar 3))) (tAnd (tB (eBin fGt (eBin fIx (eBin fIx (eVar 0) (eVar 5)) (eK (.int 0))) (eK (.int 0)))) (tB (eBin fNotIn (eBin fIx (eBin fIx (eVar 0) (eVar 5)) (eK (.int 0))) (eVar 3))))) (sSeq (sApp (eVar 3) (eBin fIx (eBin fIx (eVar 0) (eVar 5)) (eK (.int 0)))) (sSet 4 (eK (.bool true)))) sPass)
abbrev w_led_from_1 : SC := (sSeq (sSet 4 (eK (.bool false))) (sFor [5] (iRow (eVar 1)) w_led_from_0))
abbrev b_led_from : SC := (sSeq (sSet 3 (eLst [(eVar 2)])) (sSeq (sSet 4 (eK (.bool true))) (sSeq (sWhile (tB (eVar 4)) w_led_from_1) (sFrz 3 (sRet (eUn fSorted (eVar 3)))))))
def φ_led_from : Fn := runBody b_led_from 6
/-! set_to_raise -/
abbrev w_set_to_raise_0 : SC := (sSeq (sSet 5 (eCall φ_led_from [(eVar 0), (eVar 1), (eVar 4)])) (sIf (tOr (tB (eUn fIsN (eVar 3))) (tB (eBin fLt (eUn fLen (eVar 5)) (eUn fLen (eVar 3))))) (sFrz 5 (sSet 3 (eVar 5))) sPass))
abbrev b_set_to_raise : SC := (sSeq (sSet 3 (eK .none)) (sSeq (sFor [4] (iRow (eVar 2)) w_set_to_raise_0) (sRet (eVar 3))))
def φ_set_to_raise : Fn := runBody b_set_to_raise 6
/-! drop_needless -/
abbrev w_drop_needless_0 : SC := (sSeq (sFrz 3 (sSet 5 (eCall φ_without [(eVar 3), (eLst [(eVar 4)])]))) (sFrz 5 (sIf (tB (eBin fEq (eUn fLen (eCall φ_days_of [(eVar 1), (eVar 5)])) (eVar 0))) (sFrz 5 (sSet 3 (eVar 5))) sPass)))
abbrev b_drop_needless : SC := (sSeq (sSet 3 (eUn fList (eVar 2))) (sSeq (sFor [4] (iRow (eUn fRev (eVar 2))) w_drop_needless_0) (sFrz 3 (sRet (eUn fSorted (eVar 3))))))
def φ_drop_needless : Fn := runBody b_drop_needless 6
/-! is_keep -/
abbrev b_is_keep : SC := (sSeq (sUnp [3, 4] (eCall φ_check_house [(eVar 0)])) (sSeq (sEx (eCall φ_check_number [(eVar 1), (eK (.int 0)), (eK (.int 30000)), (eK (.str "budget"))])) (sSeq (sIf (tNot (tB (eCall φ_is_choice [(eVar 2), (eK (.int 0)), (eBin fSub (eUn fLen (eVar 4)) (eK (.int 1)))]))) (sRet (eK (.bool false))) sPass) (sFrz 4 (sRet (eAnd (eBin fEq (eUn fLen (eCall φ_days_of [(eVar 4), (eVar 2)])) (eVar 3)) (eBin fLe (eCall φ_cost_of [(eVar 4), (eVar 2)]) (eVar 1))))))))
def φ_is_keep : Fn := runBody b_is_keep 5
/-! is_better -/
abbrev b_is_better : SC := (sRet (eAnd (eUn fNotN (eVar 0)) (eOr (eUn fIsN (eVar 1)) (eBin fLt (eBin fIx (eVar 0) (eK (.int 0))) (eBin fIx (eVar 1) (eK (.int 0)))))))
def φ_is_better : Fn := runBody b_is_better 2
/-! first_row -/
abbrev w_first_row_0 : SC := (sIf (tB (eBin fEq (eVar 2) (eBin fShl (eK (.int 1)) (eVar 4)))) (sPut (eVar 3) (eVar 5) (eTup [(eK (.int 0)), (eLst [])])) sPass)
abbrev b_first_row : SC := (sSeq (sSet 3 (eComp [6] (iRng1 (eBin fAdd (eVar 0) (eK (.int 1)))) tYes (eK .none))) (sSeq (sFor [4, 5] (iEnum (eVar 1)) w_first_row_0) (sRet (eVar 3))))
def φ_first_row : Fn := runBody b_first_row 7
/-! check_wish -/
abbrev b_check_wish : SC := (sSeq (sUnp [3, 4] (eCall φ_check_house [(eVar 0)])) (sSeq (sFrz 1 (sSet 1 (eCall φ_check_kept [(eVar 1), (eUn fLen (eVar 4))]))) (sFrz 3 (sRetM [.mv 4, .mv 1, .ev (eCall φ_check_choice [(eVar 2), (eK (.int 1)), (eVar 3)])]))))
def φ_check_wish : Fn := runBody b_check_wish 5
/-! prune -/
abbrev w_prune_0 : SC := (sSeq (sFrz 5 (sSet 7 (eCall φ_without [(eVar 5), (eLst [(eVar 6)])]))) (sFrz 7 (sFrz 3 (sFrz 2 (sIf (tB (eCall φ_is_within [(eVar 2), (eCall φ_days_of [(eVar 3), (eVar 7)])])) (sFrz 7 (sSet 5 (eVar 7))) sPass)))))
abbrev b_prune : SC := (sSeq (sFrz 2 (sFrz 1 (sUnp [3, 1, 2] (eCall φ_check_wish [(eVar 0), (eVar 1), (eVar 2)])))) (sSeq (sFrz 1 (sFrz 3 (sFrz 2 (sSet 4 (eCall φ_without [(eVar 2), (eCall φ_days_of [(eVar 3), (eVar 1)])]))))) (sSeq (sIf (tB (eBin fGt (eUn fLen (eVar 4)) (eK (.int 0)))) (sRaise "Unrestorable" "day" (eBin fIx (eVar 4) (eK (.int 0)))) sPass) (sSeq (sFrz 1 (sSet 5 (eUn fList (eVar 1)))) (sSeq (sFrzL 1 (sFor [6] (iRow (eUn fRev (eVar 1))) w_prune_0)) (sRet (eVar 5)))))))
def φ_prune : Fn := runBody b_prune 8
/-! is_lean -/
abbrev w_is_lean_0 : SC := (sFrz 1 (sFrz 3 (sFrz 2 (sIf (tB (eCall φ_is_within [(eVar 2), (eCall φ_days_of [(eVar 3), (eCall φ_without [(eVar 1), (eLst [(eVar 4)])])])])) (sRet (eK (.bool false))) sPass))))
abbrev b_is_lean : SC := (sSeq (sFrz 2 (sFrz 1 (sUnp [3, 1, 2] (eCall φ_check_wish [(eVar 0), (eVar 1), (eVar 2)])))) (sSeq (sFrz 1 (sFrz 3 (sFrz 2 (sIf (tNot (tB (eCall φ_is_within [(eVar 2), (eCall φ_days_of [(eVar 3), (eVar 1)])]))) (sRet (eK (.bool false))) sPass)))) (sSeq (sFrz 1 (sFor [4] (iRow (eVar 1)) w_is_lean_0)) (sRet (eK (.bool true))))))
def φ_is_lean : Fn := runBody b_is_lean 5
/-! starts_of -/
abbrev w_starts_of_0 : SC := (sIf (tNot (tB (eCall φ_is_choice [(eVar 3), (eK (.int 1)), (eVar 0)]))) (sRaise "BadStarts" "at" (eVar 2)) sPass)
abbrev b_starts_of : SC := (sSeq (sIf (tNot (tB (eCall φ_is_row [(eVar 1)]))) (sRaise "BadStarts" "at" (eUn fNeg (eK (.int 1)))) sPass) (sSeq (sIf (tB (eBin fGt (eUn fLen (eVar 1)) (eK (.int 6)))) (sRaise "TooMany" "limit" (eK (.int 6))) sPass) (sSeq (sFor [2, 3] (iEnum (eVar 1)) w_starts_of_0) (sRet (eComp [3] (iRow (eVar 1)) tYes (eUn fList (eVar 3)))))))
def φ_starts_of : Fn := runBody b_starts_of 4
/-! check_starts -/
abbrev b_check_starts : SC := (sRet (eCall φ_starts_of [(eBin fIx (eCall φ_check_house [(eVar 0)]) (eK (.int 0))), (eVar 1)]))
def φ_check_starts : Fn := runBody b_check_starts 2
/-! shelf_days -/
abbrev b_shelf_days : SC := (sSeq (sUnp [3, 4] (eCall φ_check_house [(eVar 0)])) (sSeq (sFrz 3 (sFrz 1 (sSet 1 (eCall φ_check_choice [(eVar 1), (eK (.int 1)), (eVar 3)])))) (sSeq (sFrz 2 (sSet 2 (eCall φ_check_kept [(eVar 2), (eUn fLen (eVar 4))]))) (sFrzL 4 (sFrz 2 (sFrz 1 (sRet (eCall φ_given_days [(eComp [5] (iRow (eVar 2)) tYes (eBin fIx (eVar 4) (eVar 5))), (eVar 1)]))))))))
def φ_shelf_days : Fn := runBody b_shelf_days 6
/-! bare_count -/
abbrev b_bare_count : SC := (sRet (eUn fLen (eComp [2] (iRow (eVar 0)) (tB (eCall φ_apart [(eVar 2), (eVar 1)])) (eVar 2))))
def φ_bare_count : Fn := runBody b_bare_count 3
/-! bare_shelves -/
abbrev b_bare_shelves : SC := (sSeq (sSet 3 (eBin fIx (eCall φ_check_house [(eVar 0)]) (eK (.int 0)))) (sSeq (sFrz 1 (sFrz 3 (sSet 1 (eCall φ_starts_of [(eVar 3), (eVar 1)])))) (sFrz 3 (sFrz 1 (sRet (eCall φ_bare_count [(eVar 1), (eCall φ_check_choice [(eVar 2), (eK (.int 1)), (eVar 3)])]))))))
def φ_bare_shelves : Fn := runBody b_bare_shelves 4
/-! arcs_around -/
abbrev w_arcs_around_0 : SC := (sSeq (sApp (eBin fIx (eVar 2) (eBin fIx (eVar 4) (eK (.int 0)))) (eVar 3)) (sApp (eBin fIx (eVar 2) (eBin fIx (eVar 4) (eK (.int 1)))) (eVar 3)))
abbrev b_arcs_around : SC := (sSeq (sSet 2 (eComp [5] (iRng1 (eVar 1)) tYes (eLst []))) (sSeq (sFor [3, 4] (iEnum (eVar 0)) w_arcs_around_0) (sRet (eVar 2))))
def φ_arcs_around : Fn := runBody b_arcs_around 6
/-! leading_to -/
abbrev w_leading_to_0 : SC := (sSeq (sUnp [8, 9, 10] (eBin fIx (eVar 0) (eVar 7))) (sIf (tAnd (tB (eBin fEq (eVar 9) (eVar 6))) (tAnd (tB (eBin fLt (eBin fIx (eVar 2) (eVar 7)) (eVar 10))) (tB (eBin fNotIn (eVar 8) (eVar 4))))) (sFrz 8 (sApp (eVar 4) (eVar 8))) (sIf (tAnd (tB (eBin fEq (eVar 8) (eVar 6))) (tAnd (tB (eBin fGt (eBin fIx (eVar 2) (eVar 7)) (eK (.int 0)))) (tB (eBin fNotIn (eVar 9) (eVar 4))))) (sFrz 9 (sApp (eVar 4) (eVar 9))) sPass)))
abbrev w_leading_to_1 : SC := (sSeq (sSet 6 (eBin fIx (eVar 4) (eVar 5))) (sSeq (sAug 5 (fun i j => i + j) (eK (.int 1))) (sFor [7] (iRow (eBin fIx (eVar 1) (eVar 6))) w_leading_to_0)))
abbrev b_leading_to : SC := (sSeq (sSet 4 (eLst [(eVar 3)])) (sSeq (sSet 5 (eK (.int 0))) (sSeq (sWhile (tB (eBin fLt (eVar 5) (eUn fLen (eVar 4)))) w_leading_to_1) (sRet (eVar 4)))))
def φ_leading_to : Fn := runBody b_leading_to 11
/-! smallest_side -/
abbrev b_smallest_side : SC := (sRet (eUn fSorted (eCall φ_leading_to [(eVar 0), (eCall φ_arcs_around [(eVar 0), (eVar 1)]), (eVar 2), (eVar 3)])))
def φ_smallest_side : Fn := runBody b_smallest_side 4
/-! leads_to -/
abbrev w_leads_to_0 : SC := (sSeq (sIf (tOr (tNot (tB (eCall φ_is_number [(eVar 6), (eK (.int 0)), (eBin fSub (eUn fLen (eVar 0)) (eK (.int 1)))]))) (tB (eBin fNotIn (eVar 6) (eVar 1)))) (sRet (eK (.bool false))) sPass) (sSeq (sIf (tOr (tB (eBin fNe (eBin fIx (eBin fIx (eVar 0) (eVar 6)) (eK (.int 0))) (eVar 4))) (tB (eBin fIn (eBin fIx (eBin fIx (eVar 0) (eVar 6)) (eK (.int 1))) (eVar 5)))) (sRet (eK (.bool false))) sPass) (sSeq (sSet 4 (eBin fIx (eBin fIx (eVar 0) (eVar 6)) (eK (.int 1)))) (sFrz 4 (sApp (eVar 5) (eVar 4))))))
abbrev b_leads_to : SC := (sSeq (sIf (tOr (tNot (tB (eCall φ_is_row [(eVar 3)]))) (tB (eBin fEq (eUn fLen (eVar 3)) (eK (.int 0))))) (sRet (eK (.bool false))) sPass) (sSeq (sSet 4 (eK (.int 0))) (sSeq (sSet 5 (eLst [])) (sSeq (sFor [6] (iRow (eVar 3)) w_leads_to_0) (sRet (eBin fEq (eVar 4) (eVar 2)))))))
def φ_leads_to : Fn := runBody b_leads_to 7
/-! check_strands -/
abbrev b_check_strands : SC := (sSeq (sFrz 1 (sUnp [4, 5, 1] (eCall φ_check_question [(eVar 0), (eVar 1), (eVar 2)]))) (sSeq (sEx (eCall φ_check_number [(eVar 3), (eK (.int 0)), (eK (.int 8)), (eK (.str "count"))])) (sRetM [.mv 4, .mv 5, .mv 1])))
def φ_check_strands : Fn := runBody b_check_strands 6
/-! kept_arcs -/
abbrev b_kept_arcs : SC := (sRet (eComp [2] (iRow (eVar 1)) tYes (eTup [(eBin fIx (eBin fIx (eVar 0) (eVar 2)) (eK (.int 0))), (eBin fIx (eBin fIx (eVar 0) (eVar 2)) (eK (.int 1))), (eK (.int 1))])))
def φ_kept_arcs : Fn := runBody b_kept_arcs 3
/-! is_strands -/
abbrev w_is_strands_0 : SC := (sSeq (sFrz 1 (sFrz 5 (sIf (tOr (tNot (tB (eCall φ_leads_to [(eVar 5), (eVar 1), (eVar 2), (eVar 7)]))) (tNot (tB (eCall φ_apart [(eVar 7), (eVar 6)])))) (sRet (eK (.bool false))) sPass))) (sExt (eVar 6) (eVar 7)))
abbrev b_is_strands : SC := (sSeq (sFrz 1 (sUnp [5, 1] (eSlice (eCall φ_check_strands [(eVar 0), (eVar 1), (eVar 2), (eVar 3)]) (some (eK (.int 1))) none))) (sSeq (sIf (tOr (tNot (tB (eCall φ_is_row [(eVar 4)]))) (tB (eBin fNe (eUn fLen (eVar 4)) (eVar 3)))) (sRet (eK (.bool false))) sPass) (sSeq (sSet 6 (eLst [])) (sSeq (sFor [7] (iRow (eVar 4)) w_is_strands_0) (sRet (eK (.bool true)))))))
def φ_is_strands : Fn := runBody b_is_strands 8
/-! is_thin_for -/
abbrev b_is_thin_for : SC := (sSeq (sFrz 1 (sUnp [5, 6, 1] (eCall φ_check_strands [(eVar 0), (eVar 1), (eVar 2), (eVar 3)]))) (sSeq (sFrz 5 (sIf (tOr (tNot (tB (eCall φ_is_choice [(eVar 4), (eK (.int 1)), (eVar 5)]))) (tB (eBin fNotIn (eVar 2) (eVar 4)))) (sRet (eK (.bool false))) sPass)) (sFrz 1 (sFrz 6 (sRet (eBin fLt (eUn fLen (eCall φ_entering_among [(eVar 6), (eVar 1), (eVar 4)])) (eVar 3)))))))
def φ_is_thin_for : Fn := runBody b_is_thin_for 7
/-! network -/
abbrev w_network_0 : SC := (sApp (eVar 4) (eTup [(eBin fAdd (eBin fAdd (eVar 0) (eK (.int 1))) (eVar 5)), (eVar 7), (eBin fAdd (eK (.int 6)) (eK (.int 1)))]))
abbrev w_network_1 : SC := (sSeq (sApp (eVar 4) (eTup [(eK (.int 0)), (eBin fAdd (eBin fAdd (eVar 0) (eK (.int 1))) (eVar 5)), (eK (.int 1))])) (sFor [7] (iRow (eVar 6)) w_network_0))
abbrev b_network : SC := (sSeq (sSet 4 (eComp [8] (iRow (eVar 2)) tYes (eTup [(eBin fIx (eBin fIx (eVar 1) (eVar 8)) (eK (.int 0))), (eBin fIx (eBin fIx (eVar 1) (eVar 8)) (eK (.int 1))), (eK (.int 1))]))) (sSeq (sFor [5, 6] (iEnum (eVar 3)) w_network_1) (sRet (eVar 4))))
def φ_network : Fn := runBody b_network 9
/-! day_sets -/
abbrev b_day_sets : SC := (sRet (eComp [1] (iRow (eCall φ_all_choices [(eVar 0)])) (tB (eBin fGt (eUn fLen (eVar 1)) (eK (.int 0)))) (eComp [2] (iRow (eVar 1)) tYes (eBin fAdd (eVar 2) (eK (.int 1))))))
def φ_day_sets : Fn := runBody b_day_sets 3
/-! thin_sets -/
abbrev w_thin_sets_0 : SC := (sFrz 1 (sFrz 4 (sFrz 3 (sIf (tB (eBin fLt (eUn fLen (eCall φ_entering_among [(eVar 3), (eVar 4), (eVar 6)])) (eCall φ_bare_count [(eVar 1), (eVar 6)]))) (sApp (eVar 5) (eVar 6)) sPass))))
abbrev b_thin_sets : SC := (sSeq (sUnp [2, 3] (eCall φ_check_house [(eVar 0)])) (sSeq (sFrz 1 (sFrz 2 (sSet 1 (eCall φ_starts_of [(eVar 2), (eVar 1)])))) (sSeq (sSet 4 (eUn fLRng1 (eUn fLen (eVar 3)))) (sSeq (sSet 5 (eLst [])) (sSeq (sFrz 2 (sFor [6] (iRow (eCall φ_day_sets [(eVar 2)])) w_thin_sets_0)) (sRet (eVar 5)))))))
def φ_thin_sets : Fn := runBody b_thin_sets 7
/-! weakest -/
abbrev w_weakest_0 : SC := (sSeq (sFrz 3 (sFrz 2 (sSet 7 (eUn fLen (eCall φ_entering_among [(eVar 2), (eVar 3), (eVar 6)]))))) (sIf (tB (eBin fLt (eVar 7) (eVar 5))) (sSeq (sSet 4 (eVar 6)) (sSet 5 (eVar 7))) sPass))
abbrev b_weakest : SC := (sSeq (sUnp [1, 2] (eCall φ_check_house [(eVar 0)])) (sSeq (sSet 3 (eUn fLRng1 (eUn fLen (eVar 2)))) (sSeq (sSet 4 (eK .none)) (sSeq (sSet 5 (eBin fAdd (eUn fLen (eVar 2)) (eK (.int 1)))) (sSeq (sFrz 1 (sFor [6] (iRow (eCall φ_day_sets [(eVar 1)])) w_weakest_0)) (sRet (eVar 4)))))))
def φ_weakest : Fn := runBody b_weakest 8
/-! is_lacking -/
abbrev b_is_lacking : SC := (sSeq (sIf (tOr (tNot (tB (eCall φ_is_choice [(eVar 4), (eK (.int 1)), (eVar 0)]))) (tB (eBin fEq (eUn fLen (eVar 4)) (eK (.int 0))))) (sRet (eK (.bool false))) sPass) (sRet (eBin fLt (eUn fLen (eCall φ_entering_among [(eVar 1), (eVar 2), (eVar 4)])) (eCall φ_bare_count [(eVar 3), (eVar 4)]))))
def φ_is_lacking : Fn := runBody b_is_lacking 5
/-! is_thin -/
abbrev b_is_thin : SC := (sSeq (sUnp [3, 4] (eCall φ_check_house [(eVar 0)])) (sSeq (sFrz 1 (sFrz 3 (sSet 1 (eCall φ_starts_of [(eVar 3), (eVar 1)])))) (sFrz 1 (sFrz 4 (sFrz 3 (sRet (eCall φ_is_lacking [(eVar 3), (eVar 4), (eUn fLRng1 (eUn fLen (eVar 4))), (eVar 1), (eVar 2)])))))))
def φ_is_thin : Fn := runBody b_is_thin 5
/-! check_mending -/
abbrev b_check_mending : SC := (sSeq (sUnp [3, 4] (eCall φ_check_house [(eVar 0)])) (sSeq (sFrz 1 (sFrz 3 (sSet 1 (eCall φ_starts_of [(eVar 3), (eVar 1)])))) (sRetM [.mv 3, .mv 4, .mv 1, .ev (eCall φ_check_fees [(eVar 3), (eVar 2)])])))
def φ_check_mending : Fn := runBody b_check_mending 5
/-! lack_of -/
abbrev b_lack_of : SC := (sRet (eBin fSub (eCall φ_bare_count [(eVar 1), (eVar 2)]) (eUn fLen (eCall φ_entering_among [(eVar 0), (eUn fLRng1 (eUn fLen (eVar 0))), (eVar 2)]))))
def φ_lack_of : Fn := runBody b_lack_of 3
/-! arcs_with -/
abbrev w_arcs_with_0 : SC := (sIf (tB (eBin fGt (eVar 6) (eK (.int 0)))) (sApp (eVar 4) (eTup [(eK (.int 0)), (eBin fAdd (eVar 5) (eK (.int 1))), (eVar 6)])) sPass)
abbrev b_arcs_with : SC := (sSeq (sSet 4 (eCall φ_network [(eVar 0), (eVar 1), (eUn fLRng1 (eUn fLen (eVar 1))), (eVar 2)])) (sSeq (sFor [5, 6] (iEnum (eVar 3)) w_arcs_with_0) (sRet (eVar 4))))
def φ_arcs_with : Fn := runBody b_arcs_with 7
/-! _wall -/
abbrev w__wall_0 : SC := sPass
abbrev b__wall : SC := (sWhile (tB (eK (.bool true))) w__wall_0)
def φ__wall : Fn := runBody b__wall 1
/-! days_at_hand -/
abbrev b_days_at_hand : SC := (sSeq (sIf (tB (eBin fEq (eUn fLen (eVar 0)) (eK (.int 0)))) (sRet (eLst [])) sPass) (sRet (eCall φ_given_days [(eComp [2] (iRow (eVar 1)) (tB (eBin fEq (eBin fIx (eVar 2) (eK (.int 4))) (eK (.str "held")))) (eVar 2)), (eLst [(eUn fLen (eVar 0))])])))
def φ_days_at_hand : Fn := runBody b_days_at_hand 3
/-! with_state -/
abbrev b_with_state : SC := (sRet (eTup [(eBin fIx (eVar 0) (eK (.int 0))), (eBin fIx (eVar 0) (eK (.int 1))), (eBin fIx (eVar 0) (eK (.int 2))), (eBin fIx (eVar 0) (eK (.int 3))), (eVar 1)]))
def φ_with_state : Fn := runBody b_with_state 2
/-! with_drop -/
abbrev b_with_drop : SC := (sSeq (sIf (tB (eBin fGe (eVar 1) (eUn fLen (eVar 0)))) (sRaise "BadDeed" "why" (eK (.str "range"))) sPass) (sSeq (sIf (tB (eBin fNe (eBin fIx (eBin fIx (eVar 0) (eVar 1)) (eK (.int 4))) (eK (.str "held")))) (sRaise "BadDeed" "why" (eK (.str "held"))) sPass) (sRet (eBin fAdd (eBin fAdd (eSlice (eVar 0) none (some (eVar 1))) (eLst [(eCall φ_with_state [(eBin fIx (eVar 0) (eVar 1)), (eK (.str "dropped"))])])) (eSlice (eVar 0) (some (eBin fAdd (eVar 1) (eK (.int 1)))) none)))))
def φ_with_drop : Fn := runBody b_with_drop 2
/-! with_loss -/
abbrev b_with_loss : SC := (sSeq (sIf (tB (eBin fGt (eVar 1) (eK (.int 7)))) (sRaise "BadDeed" "why" (eK (.str "range"))) sPass) (sRet (eComp [2] (iRow (eVar 0)) tYes (eIf (tAnd (tB (eBin fEq (eBin fIx (eVar 2) (eK (.int 3))) (eVar 1))) (tB (eBin fEq (eBin fIx (eVar 2) (eK (.int 4))) (eK (.str "held"))))) (eCall φ_with_state [(eVar 2), (eK (.str "lost"))]) (eVar 2)))))
def φ_with_loss : Fn := runBody b_with_loss 3
/-! check_small_row -/
abbrev w_check_small_row_0 : SC := (sIf (tNot (tB (eCall φ_is_number [(eVar 3), (eK (.int 0)), (eK (.int 7))]))) (sRaise "BadLevels" "at" (eVar 2)) sPass)
abbrev b_check_small_row : SC := (sSeq (sIf (tOr (tNot (tB (eCall φ_is_row [(eVar 0)]))) (tB (eBin fEq (eUn fLen (eVar 0)) (eK (.int 0))))) (sRaise "BadLevels" "at" (eUn fNeg (eK (.int 1)))) sPass) (sSeq (sIf (tB (eBin fGt (eUn fLen (eVar 0)) (eVar 1))) (sRaise "TooMany" "limit" (eVar 1)) sPass) (sSeq (sFor [2, 3] (iEnum (eVar 0)) w_check_small_row_0) (sRet (eUn fList (eVar 0))))))
def φ_check_small_row : Fn := runBody b_check_small_row 4
/-! check_levels -/
abbrev b_check_levels : SC := (sRet (eCall φ_check_small_row [(eVar 0), (eK (.int 12))]))
def φ_check_levels : Fn := runBody b_check_levels 1
/-! base_list -/
abbrev w_base_list_0 : SC := (sIf (tB (eBin fLt (eBin fIx (eVar 0) (eBin fSub (eVar 4) (eK (.int 1)))) (eBin fIx (eVar 0) (eBin fSub (eVar 2) (eK (.int 1)))))) (sSet 3 (eVar 4)) sPass)
abbrev w_base_list_1 : SC := (sSeq (sSet 3 (eK (.int 0))) (sSeq (sFor [4] (iRng2 (eK (.int 1)) (eVar 2)) w_base_list_0) (sFrz 3 (sApp (eVar 1) (eVar 3)))))
abbrev b_base_list : SC := (sSeq (sSet 1 (eLst [])) (sSeq (sFor [2] (iRng2 (eK (.int 1)) (eBin fAdd (eUn fLen (eVar 0)) (eK (.int 1)))) w_base_list_1) (sRet (eVar 1))))
def φ_base_list : Fn := runBody b_base_list 5
/-! chain_of -/
abbrev w_chain_of_0 : SC := (sSeq (sFrz 3 (sApp (eVar 2) (eVar 3))) (sSet 3 (eBin fIx (eVar 0) (eBin fSub (eVar 3) (eK (.int 1))))))
abbrev b_chain_of : SC := (sSeq (sSet 2 (eLst [])) (sSeq (sSet 3 (eVar 1)) (sSeq (sWhile (tB (eBin fGt (eVar 3) (eK (.int 0)))) w_chain_of_0) (sFrzL 2 (sRet (eUn fRev (eVar 2)))))))
def φ_chain_of : Fn := runBody b_chain_of 4
/-! bases -/
abbrev b_bases : SC := (sRet (eCall φ_base_list [(eCall φ_check_levels [(eVar 0)])]))
def φ_bases : Fn := runBody b_bases 1
/-! chain -/
abbrev b_chain : SC := (sSeq (sFrz 0 (sSet 0 (eCall φ_check_levels [(eVar 0)]))) (sSeq (sEx (eCall φ_check_number [(eVar 1), (eK (.int 1)), (eUn fLen (eVar 0)), (eK (.str "day"))])) (sFrz 0 (sRet (eCall φ_chain_of [(eCall φ_base_list [(eVar 0)]), (eVar 1)])))))
def φ_chain : Fn := runBody b_chain 2
/-! future_days -/
abbrev b_future_days : SC := (sSeq (sFrz 0 (sSet 0 (eCall φ_check_levels [(eVar 0)]))) (sSeq (sFrz 0 (sSet 1 (eCall φ_chain_of [(eCall φ_base_list [(eVar 0)]), (eUn fLen (eVar 0))]))) (sFrz 1 (sRet (eComp [2] (iRow (eVar 1)) (tB (eBin fLt (eBin fIx (eVar 0) (eBin fSub (eVar 2) (eK (.int 1)))) (eK (.int 7)))) (eVar 2))))))
def φ_future_days : Fn := runBody b_future_days 3
/-! is_sizes -/
abbrev w_is_sizes_0 : SC := (sIf (tNot (tB (eCall φ_is_number [(eVar 2), (eK (.int 0)), (eK (.int 999))]))) (sRet (eK (.bool false))) sPass)
abbrev b_is_sizes : SC := (sSeq (sIf (tOr (tNot (tB (eCall φ_is_row [(eVar 0)]))) (tB (eBin fNe (eUn fLen (eVar 0)) (eVar 1)))) (sRet (eK (.bool false))) sPass) (sSeq (sFor [2] (iRow (eVar 0)) w_is_sizes_0) (sRet (eK (.bool true)))))
def φ_is_sizes : Fn := runBody b_is_sizes 3
/-! check_weights -/
abbrev w_check_weights_0 : SC := (sIf (tNot (tB (eCall φ_is_sizes [(eVar 2), (eBin fAdd (eVar 1) (eK (.int 1)))]))) (sRaise "BadWeights" "at" (eVar 1)) sPass)
abbrev b_check_weights : SC := (sSeq (sIf (tOr (tNot (tB (eCall φ_is_row [(eVar 0)]))) (tB (eBin fEq (eUn fLen (eVar 0)) (eK (.int 0))))) (sRaise "BadWeights" "at" (eUn fNeg (eK (.int 1)))) sPass) (sSeq (sIf (tB (eBin fGt (eUn fLen (eVar 0)) (eK (.int 12)))) (sRaise "TooMany" "limit" (eK (.int 12))) sPass) (sSeq (sFor [1, 2] (iEnum (eVar 0)) w_check_weights_0) (sRet (eComp [2] (iRow (eVar 0)) tYes (eUn fList (eVar 2)))))))
def φ_check_weights : Fn := runBody b_check_weights 3
/-! check_plan -/
abbrev b_check_plan : SC := (sSeq (sFrz 0 (sSet 0 (eCall φ_check_weights [(eVar 0)]))) (sSeq (sFrz 1 (sSet 1 (eCall φ_check_levels [(eVar 1)]))) (sSeq (sIf (tB (eBin fNe (eUn fLen (eVar 1)) (eUn fLen (eVar 0)))) (sRaise "BadLevels" "at" (eUn fNeg (eK (.int 1)))) sPass) (sRetM [.mv 0, .mv 1]))))
def φ_check_plan : Fn := runBody b_check_plan 2
/-! level_house -/
abbrev w_level_house_0 : SC := (sFrzL 0 (sApp (eVar 2) (eTup [(eVar 4), (eBin fAdd (eVar 3) (eK (.int 1))), (eBin fIx (eBin fIx (eVar 0) (eVar 3)) (eVar 4))])))
abbrev b_level_house : SC := (sSeq (sFrz 1 (sFrz 0 (sUnp [0, 1] (eCall φ_check_plan [(eVar 0), (eVar 1)])))) (sSeq (sIf (tB (eBin fGt (eUn fLen (eVar 1)) (eK (.int 10)))) (sRaise "TooMany" "limit" (eK (.int 10))) sPass) (sSeq (sSet 2 (eLst [])) (sSeq (sFrz 1 (sFor [3, 4] (iEnum (eCall φ_base_list [(eVar 1)])) w_level_house_0)) (sRetM [.ev (eUn fLen (eVar 1)), .mv 2])))))
def φ_level_house : Fn := runBody b_level_house 5
/-! is_steady -/
abbrev w_is_steady_0 : SC := (sIf (tB (eBin fGt (eBin fIx (eVar 1) (eVar 2)) (eBin fIx (eVar 1) (eBin fSub (eVar 2) (eK (.int 1)))))) (sRet (eK (.bool false))) sPass)
abbrev w_is_steady_1 : SC := (sFor [2] (iRng2 (eK (.int 1)) (eUn fLen (eVar 1))) w_is_steady_0)
abbrev b_is_steady : SC := (sSeq (sFor [1] (iRow (eCall φ_check_weights [(eVar 0)])) w_is_steady_1) (sRet (eK (.bool true))))
def φ_is_steady : Fn := runBody b_is_steady 3
/-! check_rotation -/
abbrev b_check_rotation : SC := (sRet (eCall φ_check_small_row [(eVar 0), (eK (.int 16))]))
def φ_check_rotation : Fn := runBody b_check_rotation 1
/-! has_age -/
abbrev w_has_age_0 : SC := (sIf (tB (eChain fLe fLe (eVar 1) (eVar 3) (eVar 2))) (sRet (eK (.bool true))) sPass)
abbrev b_has_age : SC := (sSeq (sFor [3] (iRow (eVar 0)) w_has_age_0) (sRet (eK (.bool false))))
def φ_has_age : Fn := runBody b_has_age 4
/-! tape_of -/
abbrev w_tape_of_0 : SC := (sSeq (sAug 2 (fun i j => i + j) (eK (.int 1))) (sSet 3 (eBin fDiv (eVar 3) (eK (.int 2)))))
abbrev b_tape_of : SC := (sSeq (sSet 2 (eK (.int 0))) (sSeq (sSet 3 (eVar 1)) (sSeq (sWhile (tAnd (tB (eBin fLt (eVar 2) (eBin fSub (eVar 0) (eK (.int 1))))) (tB (eBin fEq (eBin fMod (eVar 3) (eK (.int 2))) (eK (.int 0))))) w_tape_of_0) (sRet (eVar 2)))))
def φ_tape_of : Fn := runBody b_tape_of 4
/-! hanoi_tape -/
abbrev b_hanoi_tape : SC := (sSeq (sEx (eCall φ_check_number [(eVar 0), (eK (.int 1)), (eK (.int 8)), (eK (.str "tapes"))])) (sSeq (sEx (eCall φ_check_number [(eVar 1), (eK (.int 1)), (eK (.int 9999)), (eK (.str "day"))])) (sRet (eCall φ_tape_of [(eVar 0), (eVar 1)]))))
def φ_hanoi_tape : Fn := runBody b_hanoi_tape 2
/-! hanoi_cycle -/
abbrev b_hanoi_cycle : SC := (sSeq (sEx (eCall φ_check_number [(eVar 0), (eK (.int 1)), (eK (.int 5)), (eK (.str "tapes"))])) (sRet (eComp [1] (iRng2 (eK (.int 1)) (eBin fAdd (eBin fShl (eK (.int 1)) (eBin fSub (eVar 0) (eK (.int 1)))) (eK (.int 1)))) tYes (eCall φ_tape_of [(eVar 0), (eVar 1)]))))
def φ_hanoi_cycle : Fn := runBody b_hanoi_cycle 2
/-! is_window -/
abbrev b_is_window : SC := (sSeq (sIf (tOr (tNot (tB (eCall φ_is_row [(eVar 0)]))) (tB (eBin fNe (eUn fLen (eVar 0)) (eK (.int 2))))) (sRet (eK (.bool false))) sPass) (sRet (eAnd (eCall φ_is_number [(eBin fIx (eVar 0) (eK (.int 1))), (eK (.int 0)), (eK (.int 7))]) (eCall φ_is_number [(eBin fIx (eVar 0) (eK (.int 0))), (eK (.int 0)), (eBin fIx (eVar 0) (eK (.int 1)))]))))
def φ_is_window : Fn := runBody b_is_window 1
/-! check_windows -/
abbrev w_check_windows_0 : SC := (sIf (tNot (tB (eCall φ_is_window [(eVar 2)]))) (sRaise "BadWindows" "at" (eVar 1)) sPass)
abbrev b_check_windows : SC := (sSeq (sIf (tNot (tB (eCall φ_is_row [(eVar 0)]))) (sRaise "BadWindows" "at" (eUn fNeg (eK (.int 1)))) sPass) (sSeq (sIf (tB (eBin fGt (eUn fLen (eVar 0)) (eK (.int 4)))) (sRaise "TooMany" "limit" (eK (.int 4))) sPass) (sSeq (sFor [1, 2] (iEnum (eVar 0)) w_check_windows_0) (sRet (eComp [2] (iRow (eVar 0)) tYes (eTup [(eBin fIx (eVar 2) (eK (.int 0))), (eBin fIx (eVar 2) (eK (.int 1)))]))))))
def φ_check_windows : Fn := runBody b_check_windows 3
/-! check_promise -/
abbrev b_check_promise : SC := (sSeq (sFrz 0 (sSet 0 (eCall φ_check_windows [(eVar 0)]))) (sSeq (sEx (eCall φ_check_number [(eVar 1), (eK (.int 0)), (eK (.int 8)), (eK (.str "tapes"))])) (sRet (eVar 0))))
def φ_check_promise : Fn := runBody b_check_promise 2
/-! mask_of -/
abbrev b_mask_of : SC := (sRet (eUn fSum (eComp [1] (iRow (eVar 0)) tYes (eBin fShl (eK (.int 1)) (eVar 1)))))
def φ_mask_of : Fn := runBody b_mask_of 2
/-! free_tape -/
abbrev w_free_tape_0 : SC := (sIf (tB (eBin fNotIn (eVar 3) (eVar 1))) (sRet (eVar 2)) sPass)
abbrev b_free_tape : SC := (sSeq (sFor [2, 3] (iEnum (eVar 0)) w_free_tape_0) (sRet (eK .none)))
def φ_free_tape : Fn := runBody b_free_tape 4
/-! is_held -/
abbrev b_is_held : SC := (sSeq (sIf (tOr (tNot (tB (eCall φ_is_row [(eVar 1)]))) (tOr (tB (eBin fNe (eUn fLen (eVar 1)) (eK (.int 2)))) (tNot (tB (eCall φ_is_number [(eBin fIx (eVar 1) (eK (.int 0))), (eK (.int 0)), (eBin fIx (eVar 0) (eK (.int 2)))]))))) (sRet (eK (.bool false))) sPass) (sRet (eOr (eCall φ_is_number [(eBin fIx (eVar 1) (eK (.int 1))), (eUn fNeg (eK (.int 1))), (eUn fNeg (eK (.int 1)))]) (eCall φ_is_number [(eBin fIx (eVar 1) (eK (.int 1))), (eBin fAdd (eBin fIx (eVar 1) (eK (.int 0))) (eK (.int 1))), (eBin fIx (eVar 0) (eK (.int 2)))]))))
def φ_is_held : Fn := runBody b_is_held 2
/-! held_pairs -/
abbrev b_held_pairs : SC := (sRet (eComp [1] (iRow (eVar 0)) tYes (eTup [(eBin fIx (eVar 1) (eK (.int 0))), (eBin fIx (eVar 1) (eK (.int 1)))])))
def φ_held_pairs : Fn := runBody b_held_pairs 2
/-! inside_one -/
abbrev w_inside_one_0 : SC := (sIf (tAnd (tB (eBin fGt (eUn fLen (eVar 2)) (eUn fLen (eVar 0)))) (tB (eCall φ_is_within [(eVar 0), (eVar 2)]))) (sRet (eK (.bool true))) sPass)
abbrev b_inside_one : SC := (sSeq (sFor [2] (iRow (eVar 1)) w_inside_one_0) (sRet (eK (.bool false))))
def φ_inside_one : Fn := runBody b_inside_one 3
/-! strike_rows -/
abbrev b_strike_rows : SC := (sSeq (sSet 2 (eLst [(eTup [(eK .none), (eVar 1)])])) (sSeq (sIf (tB (eBin fGt (eVar 1) (eK (.int 0)))) (sExt (eVar 2) (eComp [3] (iRng1 (eUn fLen (eVar 0))) tYes (eTup [(eVar 3), (eBin fSub (eVar 1) (eK (.int 1)))]))) sPass) (sRet (eVar 2))))
def φ_strike_rows : Fn := runBody b_strike_rows 4
/-! all_broken -/
abbrev w_all_broken_0 : SC := (sIf (tB (eBin fNotIn (eVar 2) (eVar 1))) (sRet (eK (.bool false))) sPass)
abbrev b_all_broken : SC := (sSeq (sFor [2] (iRow (eVar 0)) w_all_broken_0) (sRet (eK (.bool true))))
def φ_all_broken : Fn := runBody b_all_broken 3
/-! contains_one -/
abbrev w_contains_one_0 : SC := (sIf (tB (eCall φ_is_within [(eVar 2), (eVar 0)])) (sRet (eK (.bool true))) sPass)
abbrev b_contains_one : SC := (sSeq (sFor [2] (iRow (eVar 1)) w_contains_one_0) (sRet (eK (.bool false))))
def φ_contains_one : Fn := runBody b_contains_one 3
end PR

set_option Elab.async false
set_option linter.all false
set_option maxRecDepth 100000
set_option maxHeartbeats 4000000
namespace PR
open PySem PySem.Spec PyProof.Rows L2 VL
/-! _law_mixed_k01 -/
abbrev b__law_mixed_k01 : SC := (sSeq (sSet 2 (eBin fMod (eUn fInt (eBin fAdd (eBin fAdd (eBin fMul (eBin fMod (eUn fInt (eVar 0)) (eK (.int 2147483647))) (eK (.int 48271))) (eBin fMul (eVar 1) (eK (.int 69621)))) (eK (.int 11)))) (eK (.int 2147483647)))) (sSeq (sSet 2 (eBin fMod (eUn fInt (eBin fAdd (eBin fAdd (eBin fMul (eVar 2) (eVar 2)) (eBin fMul (eK (.int 13)) (eVar 1))) (eK (.int 5)))) (eK (.int 2147483629)))) (sRet (eBin fMod (eUn fInt (eBin fAdd (eBin fAdd (eBin fMul (eVar 2) (eVar 2)) (eBin fDiv (eVar 2) (eK (.int 1024)))) (eVar 1))) (eK (.int 2147483587))))))
def φ__law_mixed_k01 : Fn := runBody b__law_mixed_k01 3
/-! _law_cell_k01 -/
abbrev b__law_cell_k01 : SC := (sSeq (sIf (tB (eBin fLt (eVar 1) (eUn fLen (eVar 0)))) (sRet (eBin fIx (eVar 0) (eVar 1))) sPass) (sSeq (sIf (tB (eBin fEq (eUn fLen (eVar 0)) (eK (.int 0)))) (sRet (eVar 1)) sPass) (sRet (eCall φ__law_mixed_k01 [(eBin fIx (eVar 0) (eBin fMod (eUn fInt (eVar 1)) (eUn fLen (eVar 0)))), (eBin fAdd (eK (.int 100)) (eVar 1))]))))
def φ__law_cell_k01 : Fn := runBody b__law_cell_k01 2
/-! _law_row_k01 -/
abbrev w__law_row_k01_0 : SC := (sIf (tAnd (tB (eBin fGe (eVar 0) (eBin fPow (eK (.int 10)) (eK (.int 18))))) (tB (eBin fGt (eVar 4) (eK (.int 0))))) (sSeq (sApp (eVar 3) (eBin fMod (eUn fInt (eVar 4)) (eVar 2))) (sSet 4 (eBin fDiv (eVar 4) (eVar 2)))) (sApp (eVar 3) (eBin fMod (eUn fInt (eBin fAdd (eBin fMul (eCall φ__law_mixed_k01 [(eVar 0), (eBin fMul (eK (.int 2)) (eVar 5))]) (eK (.int 2147483587))) (eCall φ__law_mixed_k01 [(eVar 0), (eBin fAdd (eBin fMul (eK (.int 2)) (eVar 5)) (eK (.int 1)))]))) (eVar 2))))
abbrev b__law_row_k01 : SC := (sSeq (sSet 3 (eLst [])) (sSeq (sSet 4 (eVar 0)) (sSeq (sFor [5] (iRng1 (eVar 1)) w__law_row_k01_0) (sRet (eVar 3)))))
def φ__law_row_k01 : Fn := runBody b__law_row_k01 6
/-! _law_is_number_k01 -/
abbrev b__law_is_number_k01 : SC := (sRet (eAnd (eUn (fIsI .int) (eVar 0)) (eAnd (eUn fNot (eUn (fIsI .bool) (eVar 0))) (eAnd (eBin fLe (eVar 1) (eVar 0)) (eBin fLe (eVar 0) (eVar 2))))))
def φ__law_is_number_k01 : Fn := runBody b__law_is_number_k01 3
/-! _law_same_k01 -/
abbrev w__law_same_k01_0 (φ__law_same_k01 : Fn) : SC := (sIf (tNot (tB (eCall φ__law_same_k01 [(eBin fIx (eVar 0) (eVar 2)), (eBin fIx (eVar 1) (eVar 2))]))) (sRet (eK (.bool false))) sPass)
abbrev b__law_same_k01 (φ__law_same_k01 : Fn) : SC := (sSeq (sIf (tB (eUn fIsN (eVar 1))) (sRet (eUn fIsN (eVar 0))) sPass) (sSeq (sIf (tB (eUn (fIsI .bool) (eVar 1))) (sRet (eAnd (eUn (fIsI .bool) (eVar 0)) (eBin fEq (eVar 0) (eVar 1)))) sPass) (sSeq (sIf (tB (eUn (fIsI .int) (eVar 1))) (sRet (eAnd (eUn (fIsI .int) (eVar 0)) (eAnd (eUn fNot (eUn (fIsI .bool) (eVar 0))) (eBin fEq (eVar 0) (eVar 1))))) sPass) (sSeq (sIf (tB (eUn (fIsI .str) (eVar 1))) (sRet (eAnd (eUn (fIsI .str) (eVar 0)) (eBin fEq (eVar 0) (eVar 1)))) sPass) (sSeq (sIf (tAnd (tB (eUn (fIsI .list) (eVar 1))) (tNot (tB (eUn (fIsI .list) (eVar 0))))) (sRet (eK (.bool false))) sPass) (sSeq (sIf (tAnd (tB (eUn (fIsI .tuple) (eVar 1))) (tNot (tB (eUn (fIsI .tuple) (eVar 0))))) (sRet (eK (.bool false))) sPass) (sSeq (sIf (tB (eBin fNe (eUn fLen (eVar 0)) (eUn fLen (eVar 1)))) (sRet (eK (.bool false))) sPass) (sSeq (sFor [2] (iRng1 (eUn fLen (eVar 1))) (w__law_same_k01_0 φ__law_same_k01)) (sRet (eK (.bool true)))))))))))
def φ__law_same_k01_n : Nat → Fn
  | 0 => fun _ => .stuck
  | n + 1 => runBody (b__law_same_k01 (φ__law_same_k01_n n)) 3
def φ__law_same_k01 : Fn := φ__law_same_k01_n 12
/-! _law_order_k01 -/
abbrev w__law_order_k01_0 : SC := (sIns (eVar 3) (eBin fMod (eUn fInt (eBin fIx (eVar 2) (eVar 4))) (eBin fAdd (eVar 4) (eK (.int 1)))) (eBin fAdd (eVar 4) (eK (.int 1))))
abbrev b__law_order_k01 : SC := (sSeq (sSet 2 (eCall φ__law_row_k01 [(eVar 0), (eVar 1), (eK (.int 60))])) (sSeq (sSet 3 (eLst [])) (sSeq (sFor [4] (iRng1 (eVar 1)) w__law_order_k01_0) (sRet (eVar 3)))))
def φ__law_order_k01 : Fn := runBody b__law_order_k01 5
/-! _law_base_k01 -/
abbrev b__law_base_k01 : SC := (sSeq (sIf (tB (eBin fEq (eVar 0) (eK (.int 2)))) (sRet (eBin fMax (eK (.int 0)) (eBin fSub (eBin fSub (eVar 2) (eK (.int 1))) (eBin fMod (eUn fInt (eVar 1)) (eK (.int 3)))))) sPass) (sSeq (sIf (tB (eBin fEq (eVar 0) (eK (.int 3)))) (sSeq (sSet 4 (eBin fAdd (eBin fAdd (eVar 2) (eK (.int 1))) (eBin fMod (eUn fInt (eVar 1)) (eK (.int 2))))) (sRet (eBin fMul (eVar 4) (eUn fInt (eBin fLe (eVar 4) (eVar 3)))))) sPass) (sSeq (sIf (tB (eBin fEq (eVar 0) (eK (.int 4)))) (sRet (eBin fMod (eUn fInt (eVar 1)) (eVar 2))) sPass) (sSeq (sIf (tAnd (tB (eBin fEq (eVar 0) (eK (.int 5)))) (tAnd (tB (eBin fLt (eVar 1) (eK (.int 9)))) (tB (eBin fGt (eVar 3) (eK (.int 1)))))) (sRet (eBin fAdd (eK (.int 1)) (eBin fMod (eUn fInt (eBin fSub (eBin fAdd (eVar 2) (eVar 3)) (eK (.int 2)))) (eVar 3)))) sPass) (sSeq (sSet 5 (eBin fMod (eUn fInt (eVar 1)) (eBin fAdd (eVar 3) (eK (.int 1))))) (sRet (eBin fMul (eVar 5) (eUn fInt (eBin fNe (eVar 5) (eVar 2))))))))))
def φ__law_base_k01 : Fn := runBody b__law_base_k01 6
/-! _law_house_k01 -/
abbrev w__law_house_k01_0 : SC := (sSeq (sSet 13 (eBin fAdd (eK (.int 1)) (eBin fMod (eUn fInt (eBin fIx (eVar 8) (eVar 12))) (eVar 4)))) (sSeq (sFrz 4 (sFrz 13 (sFrzL 9 (sSet 14 (eCall φ__law_base_k01 [(eVar 6), (eBin fIx (eVar 9) (eVar 12)), (eVar 13), (eVar 4)]))))) (sSeq (sIf (tB (eBin fEq (eVar 6) (eK (.int 6)))) (sSeq (sFrzL 7 (sSet 13 (eBin fIx (eVar 7) (eBin fMod (eUn fInt (eVar 12)) (eVar 4))))) (sFrzL 7 (sSet 14 (eBin fIx (eBin fAdd (eLst [(eK (.int 0))]) (eVar 7)) (eBin fMod (eUn fInt (eBin fIx (eVar 9) (eVar 12))) (eBin fAdd (eK (.int 1)) (eBin fMod (eUn fInt (eVar 12)) (eVar 4)))))))) sPass) (sSeq (sIf (tAnd (tB (eBin fEq (eBin fMod (eUn fInt (eBin fIx (eVar 3) (eK (.int 5)))) (eK (.int 5))) (eK (.int 0)))) (tB (eBin fEq (eBin fMod (eUn fInt (eVar 12)) (eK (.int 2))) (eK (.int 1))))) (sSeq (sSet 14 (eBin fIx (eBin fIx (eVar 11) (eBin fSub (eVar 12) (eK (.int 1)))) (eK (.int 0)))) (sSet 13 (eBin fIx (eBin fIx (eVar 11) (eBin fSub (eVar 12) (eK (.int 1)))) (eK (.int 1))))) sPass) (sSeq (sFrzL 10 (sSet 15 (eBin fIx (eVar 10) (eVar 12)))) (sSeq (sIf (tB (eBin fGe (eVar 15) (eK (.int 1000)))) (sSet 15 (eBin fIx (eLst [(eK (.int 0)), (eK (.int 0)), (eK (.int 999))]) (eBin fMod (eUn fInt (eVar 15)) (eK (.int 3))))) sPass) (sFrz 15 (sFrz 13 (sFrz 14 (sApp (eVar 11) (eTup [(eVar 14), (eVar 13), (eVar 15)])))))))))))
abbrev b__law_house_k01 : SC := (sSeq (sSet 3 (eCall φ__law_row_k01 [(eCall φ__law_cell_k01 [(eVar 0), (eVar 1)]), (eK (.int 6)), (eK (.int 60))])) (sSeq (sSet 4 (eBin fAdd (eK (.int 1)) (eBin fMod (eUn fInt (eBin fIx (eVar 3) (eK (.int 0)))) (eK (.int 10))))) (sSeq (sIf (tB (eBin fEq (eBin fMod (eUn fInt (eBin fIx (eVar 3) (eK (.int 1)))) (eK (.int 3))) (eK (.int 0)))) (sSet 4 (eBin fIx (eLst [(eK (.int 1)), (eK (.int 2)), (eK (.int 9)), (eK (.int 10))]) (eBin fMod (eUn fInt (eBin fIx (eVar 3) (eK (.int 0)))) (eK (.int 4))))) sPass) (sSeq (sSet 5 (eBin fMod (eUn fInt (eBin fIx (eVar 3) (eK (.int 2)))) (eBin fAdd (eVar 2) (eK (.int 1))))) (sSeq (sIf (tB (eBin fEq (eBin fMod (eUn fInt (eBin fIx (eVar 3) (eK (.int 3)))) (eK (.int 4))) (eK (.int 0)))) (sSet 5 (eBin fIx (eLst [(eK (.int 0)), (eK (.int 1)), (eBin fSub (eVar 2) (eK (.int 1))), (eVar 2)]) (eBin fMod (eUn fInt (eBin fIx (eVar 3) (eK (.int 2)))) (eK (.int 4))))) sPass) (sSeq (sSet 6 (eBin fMod (eUn fInt (eBin fIx (eVar 3) (eK (.int 4)))) (eK (.int 7)))) (sSeq (sFrz 4 (sSet 7 (eCall φ__law_order_k01 [(eCall φ__law_cell_k01 [(eVar 0), (eBin fAdd (eVar 1) (eK (.int 1)))]), (eVar 4)]))) (sSeq (sFrz 5 (sSet 8 (eCall φ__law_row_k01 [(eCall φ__law_cell_k01 [(eVar 0), (eBin fAdd (eVar 1) (eK (.int 2)))]), (eVar 5), (eK (.int 10))]))) (sSeq (sFrz 5 (sSet 9 (eCall φ__law_row_k01 [(eCall φ__law_cell_k01 [(eVar 0), (eBin fAdd (eVar 1) (eK (.int 3)))]), (eVar 5), (eK (.int 11))]))) (sSeq (sFrz 5 (sSet 10 (eCall φ__law_row_k01 [(eCall φ__law_cell_k01 [(eVar 0), (eBin fAdd (eVar 1) (eK (.int 4)))]), (eVar 5), (eK (.int 1200))]))) (sSeq (sSet 11 (eLst [])) (sSeq (sFrz 5 (sFor [12] (iRng1 (eVar 5)) w__law_house_k01_0)) (sRetM [.mv 4, .mv 11])))))))))))))
def φ__law_house_k01 : Fn := runBody b__law_house_k01 16
/-! _law_given_k02 -/
abbrev b__law_given_k02 : SC := (sSeq (sSet 2 (eUn fList (eBin fIx (eVar 0) (eK (.int 1))))) (sSeq (sIf (tB (eBin fEq (eBin fMod (eUn fInt (eVar 1)) (eK (.int 2))) (eK (.int 1)))) (sFrz 2 (sSet 2 (eComp [3] (iRow (eVar 2)) tYes (eUn fList (eVar 3))))) sPass) (sSeq (sIf (tB (eBin fEq (eBin fMod (eUn fInt (eVar 1)) (eK (.int 3))) (eK (.int 1)))) (sFrz 2 (sSet 2 (eUn fTuple (eVar 2)))) sPass) (sSeq (sIf (tB (eBin fLt (eBin fMod (eUn fInt (eVar 1)) (eK (.int 5))) (eK (.int 2)))) (sFrz 2 (sRet (eLst [(eBin fIx (eVar 0) (eK (.int 0))), (eVar 2)]))) sPass) (sRetM [.ev (eBin fIx (eVar 0) (eK (.int 0))), .mv 2])))))
def φ__law_given_k02 : Fn := runBody b__law_given_k02 4
/-! _law_kept_k02 -/
abbrev b__law_kept_k02 : SC := (sSeq (sSet 2 (eCall φ__law_row_k01 [(eVar 0), (eK (.int 34)), (eK (.int 60))])) (sSeq (sSet 3 (eBin fMod (eUn fInt (eBin fIx (eVar 2) (eK (.int 0)))) (eK (.int 6)))) (sSeq (sIf (tB (eBin fLt (eVar 3) (eK (.int 2)))) (sRet (eK .none)) sPass) (sSeq (sIf (tB (eBin fEq (eVar 3) (eK (.int 2)))) (sRet (eUn fLRng1 (eVar 1))) sPass) (sSeq (sIf (tB (eBin fEq (eVar 3) (eK (.int 3)))) (sRet (eLst [])) sPass) (sSeq (sIf (tAnd (tB (eBin fEq (eVar 3) (eK (.int 4)))) (tB (eBin fGt (eVar 1) (eK (.int 0))))) (sSeq (sSet 4 (eBin fMod (eUn fInt (eBin fIx (eVar 2) (eK (.int 1)))) (eVar 1))) (sRet (eComp [5] (iRng1 (eVar 1)) (tB (eBin fNe (eVar 5) (eVar 4))) (eVar 5)))) sPass) (sRet (eComp [5] (iRng1 (eVar 1)) (tB (eBin fGt (eBin fMod (eUn fInt (eBin fIx (eVar 2) (eBin fAdd (eK (.int 2)) (eVar 5)))) (eK (.int 3))) (eK (.int 0)))) (eVar 5)))))))))
def φ__law_kept_k02 : Fn := runBody b__law_kept_k02 6
/-! _law_fault_k02 -/
abbrev w__law_fault_k02_0 : SC := (sSeq (sIf (tOr (tNot (tB (eCall φ__law_is_number_k01 [(eBin fIx (eVar 0) (eVar 4)), (eVar 1), (eVar 2)]))) (tB (eBin fLe (eBin fIx (eVar 0) (eVar 4)) (eVar 3)))) (sRet (eVar 4)) sPass) (sSet 3 (eBin fIx (eVar 0) (eVar 4))))
abbrev b__law_fault_k02 : SC := (sSeq (sIf (tNot (tB (eUn (fIsIs [.list, .tuple]) (eVar 0)))) (sRet (eUn fNeg (eK (.int 1)))) sPass) (sSeq (sSet 3 (eBin fSub (eVar 1) (eK (.int 1)))) (sSeq (sFor [4] (iRng1 (eUn fLen (eVar 0))) w__law_fault_k02_0) (sRet (eK .none)))))
def φ__law_fault_k02 : Fn := runBody b__law_fault_k02 5
/-! _law_there_k03 -/
abbrev b__law_there_k03 : SC := (sSeq (sIf (tB (eUn fIsN (eVar 0))) (sRet (eUn fLRng1 (eVar 1))) sPass) (sRet (eUn fList (eVar 0))))
def φ__law_there_k03 : Fn := runBody b__law_there_k03 2
/-! _law_reached_k03 -/
abbrev w__law_reached_k03_0 : SC := (sIf (tAnd (tB (eBin fNotIn (eBin fIx (eBin fIx (eVar 1) (eVar 5)) (eK (.int 1))) (eVar 3))) (tOr (tB (eBin fEq (eBin fIx (eBin fIx (eVar 1) (eVar 5)) (eK (.int 0))) (eK (.int 0)))) (tB (eBin fIn (eBin fIx (eBin fIx (eVar 1) (eVar 5)) (eK (.int 0))) (eVar 3))))) (sApp (eVar 3) (eBin fIx (eBin fIx (eVar 1) (eVar 5)) (eK (.int 1)))) sPass)
abbrev w__law_reached_k03_1 : SC := (sFor [5] (iRow (eVar 2)) w__law_reached_k03_0)
abbrev b__law_reached_k03 : SC := (sSeq (sSet 3 (eLst [])) (sSeq (sFor [4] (iRng1 (eVar 0)) w__law_reached_k03_1) (sFrz 3 (sRet (eUn fSorted (eVar 3))))))
def φ__law_reached_k03 : Fn := runBody b__law_reached_k03 6
/-! _law_name_k08 -/
abbrev w__law_name_k08_0 : SC := (sSeq (sSet 6 (eBin fMod (eUn fInt (eVar 3)) (eK (.int 26)))) (sSeq (sSet 3 (eBin fDiv (eVar 3) (eK (.int 26)))) (sSeq (sIf (tB (eBin fEq (eVar 1) (eK (.int 1)))) (sSet 6 (eBin fMod (eUn fInt (eVar 6)) (eK (.int 2)))) sPass) (sFrzL 4 (sSet 4 (eBin fAdd (eVar 4) (eBin fIx (eVar 2) (eVar 6))))))))
abbrev b__law_name_k08 : SC := (sSeq (sSet 2 (eK (.str "abcdefghijklmnopqrstuvwxyz"))) (sSeq (sSet 3 (eBin fDiv (eVar 0) (eK (.int 8)))) (sSeq (sSet 4 (eK (.str ""))) (sSeq (sFor [5] (iRng1 (eBin fAdd (eK (.int 1)) (eBin fMod (eUn fInt (eVar 0)) (eK (.int 8))))) w__law_name_k08_0) (sRet (eVar 4))))))
def φ__law_name_k08 : Fn := runBody b__law_name_k08 7
/-! _law_names_k08 -/
abbrev w__law_names_k08_0 : SC := (sSeq (sSet 5 (eCall φ__law_name_k08 [(eVar 4), (eVar 2)])) (sIf (tB (eBin fNotIn (eVar 5) (eVar 3))) (sFrz 5 (sApp (eVar 3) (eVar 5))) sPass))
abbrev b__law_names_k08 : SC := (sSeq (sSet 3 (eLst [])) (sSeq (sFor [4] (iRow (eCall φ__law_row_k01 [(eVar 0), (eVar 1), (eBin fMul (eK (.int 8)) (eBin fPow (eK (.int 26)) (eK (.int 8))))])) w__law_names_k08_0) (sFrz 3 (sRet (eUn fSorted (eVar 3))))))
def φ__law_names_k08 : Fn := runBody b__law_names_k08 6
/-! _law_is_name_k08 -/
abbrev w__law_is_name_k08_0 : SC := (sIf (tB (eBin fNotIn (eVar 1) (eK (.str "abcdefghijklmnopqrstuvwxyz")))) (sRet (eK (.bool false))) sPass)
abbrev b__law_is_name_k08 : SC := (sSeq (sIf (tOr (tNot (tB (eUn (fIsI .str) (eVar 0)))) (tOr (tB (eBin fLt (eUn fLen (eVar 0)) (eK (.int 1)))) (tB (eBin fGt (eUn fLen (eVar 0)) (eK (.int 8)))))) (sRet (eK (.bool false))) sPass) (sSeq (sFor [1] (iRow (eVar 0)) w__law_is_name_k08_0) (sRet (eK (.bool true)))))
def φ__law_is_name_k08 : Fn := runBody b__law_is_name_k08 2
/-! _law_has_k08 -/
abbrev w__law_has_k08_0 : SC := (sIf (tB (eBin fEq (eBin fIx (eVar 2) (eK (.int 0))) (eVar 1))) (sRet (eK (.bool true))) sPass)
abbrev b__law_has_k08 : SC := (sSeq (sFor [2] (iRow (eVar 0)) w__law_has_k08_0) (sRet (eK (.bool false))))
def φ__law_has_k08 : Fn := runBody b__law_has_k08 3
/-! _law_value_k08 -/
abbrev w__law_value_k08_0 : SC := (sIf (tB (eBin fEq (eBin fIx (eVar 2) (eK (.int 0))) (eVar 1))) (sRet (eBin fIx (eVar 2) (eK (.int 1)))) sPass)
abbrev b__law_value_k08 : SC := (sSeq (sFor [2] (iRow (eVar 0)) w__law_value_k08_0) (sRet (eK .none)))
def φ__law_value_k08 : Fn := runBody b__law_value_k08 3
/-! _law_all_names_k08 -/
abbrev b__law_all_names_k08 : SC := (sSeq (sSet 2 (eComp [3] (iRow (eVar 0)) tYes (eBin fIx (eVar 3) (eK (.int 0))))) (sFrzL 2 (sRet (eUn fSorted (eBin fAdd (eVar 2) (eComp [3] (iRow (eVar 1)) (tB (eBin fNotIn (eBin fIx (eVar 3) (eK (.int 0))) (eVar 2))) (eBin fIx (eVar 3) (eK (.int 0)))))))))
def φ__law_all_names_k08 : Fn := runBody b__law_all_names_k08 4
/-! _law_history_k09 -/
abbrev w__law_history_k09_0 : SC := (sSeq (sSet 9 (eBin fDiv (eBin fIx (eVar 6) (eVar 8)) (eK (.int 8)))) (sSeq (sIf (tB (eBin fGe (eVar 9) (eK (.int 1000)))) (sSet 9 (eBin fIx (eLst [(eK (.int 0)), (eK (.int 1)), (eK (.int 999))]) (eBin fMod (eUn fInt (eVar 9)) (eK (.int 3))))) sPass) (sSeq (sIf (tB (eVar 3)) (sSet 9 (eBin fMod (eUn fInt (eVar 9)) (eK (.int 3)))) sPass) (sSeq (sSet 10 (eBin fMod (eUn fInt (eBin fIx (eVar 6) (eVar 8))) (eK (.int 8)))) (sSeq (sIf (tB (eBin fEq (eVar 10) (eK (.int 0)))) (sSet 9 (eK .none)) sPass) (sSeq (sIf (tAnd (tB (eBin fGt (eVar 10) (eK (.int 3)))) (tB (eBin fGt (eVar 5) (eK (.int 0))))) (sSet 9 (eCall φ__law_value_k08 [(eBin fIx (eVar 4) (eBin fSub (eVar 5) (eK (.int 1)))), (eBin fIx (eVar 2) (eVar 8))])) sPass) (sIf (tB (eUn fNotN (eVar 9))) (sFrz 9 (sApp (eVar 7) (eTup [(eBin fIx (eVar 2) (eVar 8)), (eVar 9)]))) sPass)))))))
abbrev w__law_history_k09_1 : SC := (sSeq (sSet 6 (eCall φ__law_row_k01 [(eCall φ__law_cell_k01 [(eVar 0), (eBin fAdd (eK (.int 12)) (eVar 5))]), (eUn fLen (eVar 2)), (eK (.int 8800))])) (sSeq (sSet 7 (eLst [])) (sSeq (sFor [8] (iRng1 (eUn fLen (eVar 2))) w__law_history_k09_0) (sApp (eVar 4) (eUn fTuple (eVar 7))))))
abbrev b__law_history_k09 : SC := (sSeq (sSet 4 (eLst [])) (sSeq (sFor [5] (iRng1 (eVar 1)) w__law_history_k09_1) (sRet (eVar 4))))
def φ__law_history_k09 : Fn := runBody b__law_history_k09 11
/-! _law_store_k09 -/
abbrev b__law_store_k09 : SC := (sSeq (sIf (tB (eBin fEq (eVar 1) (eK (.int 0)))) (sRet (eTup [])) sPass) (sRet (eBin fIx (eVar 0) (eBin fSub (eVar 1) (eK (.int 1))))))
def φ__law_store_k09 : Fn := runBody b__law_store_k09 2
/-! _law_fill_k09 -/
abbrev w__law_fill_k09_0 : SC := (sSeq (sFrz 7 (sSet 11 (eCall φ__law_value_k08 [(eCall φ__law_store_k09 [(eVar 3), (eVar 7)]), (eBin fIx (eVar 2) (eVar 10))]))) (sFrz 6 (sIf (tOr (tB (eBin fNe (eCall φ__law_value_k08 [(eCall φ__law_store_k09 [(eVar 3), (eVar 6)]), (eBin fIx (eVar 2) (eVar 10))]) (eVar 11))) (tB (eBin fEq (eBin fIx (eVar 8) (eVar 10)) (eK (.int 0))))) (sFrz 11 (sApp (eVar 9) (eTup [(eBin fIx (eVar 2) (eVar 10)), (eVar 11)]))) sPass)))
abbrev w__law_fill_k09_1 : SC := (sSeq (sSet 6 (eBin fIx (eBin fIx (eBin fIx (eVar 1) (eK (.int 1))) (eVar 5)) (eK (.int 0)))) (sSeq (sSet 7 (eBin fIx (eBin fIx (eBin fIx (eVar 1) (eK (.int 1))) (eVar 5)) (eK (.int 1)))) (sSeq (sSet 8 (eCall φ__law_row_k01 [(eCall φ__law_cell_k01 [(eVar 0), (eBin fAdd (eK (.int 22)) (eVar 5))]), (eUn fLen (eVar 2)), (eK (.int 8))])) (sSeq (sSet 9 (eLst [])) (sSeq (sFor [10] (iRng1 (eUn fLen (eVar 2))) w__law_fill_k09_0) (sFrz 7 (sFrz 6 (sApp (eVar 4) (eTup [(eVar 6), (eVar 7), (eUn fTuple (eVar 9))])))))))))
abbrev b__law_fill_k09 : SC := (sSeq (sSet 4 (eLst [])) (sSeq (sFor [5] (iRng1 (eUn fLen (eBin fIx (eVar 1) (eK (.int 1))))) w__law_fill_k09_1) (sRetM [.ev (eBin fIx (eVar 1) (eK (.int 0))), .mv 4])))
def φ__law_fill_k09 : Fn := runBody b__law_fill_k09 12
/-! _law_spoil_k09 -/
abbrev b__law_spoil_k09 : SC := (sSeq (sSet 3 (eCall φ__law_row_k01 [(eVar 2), (eK (.int 4)), (eK (.int 990))])) (sSeq (sSet 4 (eBin fIx (eVar 0) (eK (.int 1)))) (sSeq (sIf (tOr (tB (eBin fEq (eUn fLen (eVar 4)) (eK (.int 0)))) (tB (eBin fEq (eUn fLen (eVar 1)) (eK (.int 0))))) (sRet (eVar 0)) sPass) (sSeq (sSet 5 (eBin fMod (eUn fInt (eBin fIx (eVar 3) (eK (.int 0)))) (eUn fLen (eVar 4)))) (sSeq (sSet 6 (eBin fIx (eVar 1) (eBin fMod (eUn fInt (eBin fIx (eVar 3) (eK (.int 1)))) (eUn fLen (eVar 1))))) (sSeq (sFrzL 3 (sSet 7 (eBin fIx (eLst [(eK .none), (eK (.int 0)), (eK (.int 1)), (eK (.int 2)), (eK (.int 999)), (eBin fIx (eVar 3) (eK (.int 2)))]) (eBin fMod (eUn fInt (eBin fIx (eVar 3) (eK (.int 2)))) (eK (.int 6)))))) (sSeq (sFrzL 4 (sSet 8 (eComp [10] (iRow (eBin fIx (eBin fIx (eVar 4) (eVar 5)) (eK (.int 2)))) (tB (eBin fNe (eBin fIx (eVar 10) (eK (.int 0))) (eVar 6))) (eVar 10)))) (sSeq (sIf (tB (eBin fGt (eBin fMod (eUn fInt (eBin fIx (eVar 3) (eK (.int 3)))) (eK (.int 4))) (eK (.int 0)))) (sFrz 7 (sFrz 6 (sFrzL 8 (sSet 8 (eUn fSorted (eBin fAdd (eVar 8) (eLst [(eTup [(eVar 6), (eVar 7)])]))))))) sPass) (sSeq (sFrz 8 (sFrzL 4 (sSet 9 (eTup [(eBin fIx (eBin fIx (eVar 4) (eVar 5)) (eK (.int 0))), (eBin fIx (eBin fIx (eVar 4) (eVar 5)) (eK (.int 1))), (eUn fTuple (eVar 8))])))) (sFrz 9 (sFrzL 4 (sRet (eTup [(eBin fIx (eVar 0) (eK (.int 0))), (eBin fAdd (eBin fAdd (eSlice (eVar 4) none (some (eVar 5))) (eLst [(eVar 9)])) (eSlice (eVar 4) (some (eBin fAdd (eVar 5) (eK (.int 1)))) none))])))))))))))))
def φ__law_spoil_k09 : Fn := runBody b__law_spoil_k09 11
/-! _law_given_k09 -/
abbrev w__law_given_k09_0 : SC := (sIf (tB (eBin fEq (eBin fMod (eUn fInt (eVar 1)) (eK (.int 2))) (eK (.int 1)))) (sApp (eVar 2) (eLst [(eBin fIx (eVar 3) (eK (.int 0))), (eBin fIx (eVar 3) (eK (.int 1))), (eComp [4] (iRow (eBin fIx (eVar 3) (eK (.int 2)))) tYes (eUn fList (eVar 4)))])) (sApp (eVar 2) (eTup [(eBin fIx (eVar 3) (eK (.int 0))), (eBin fIx (eVar 3) (eK (.int 1))), (eBin fIx (eVar 3) (eK (.int 2)))])))
abbrev b__law_given_k09 : SC := (sSeq (sSet 2 (eLst [])) (sSeq (sFor [3] (iRow (eBin fIx (eVar 0) (eK (.int 1)))) w__law_given_k09_0) (sSeq (sIf (tB (eBin fEq (eBin fMod (eUn fInt (eVar 1)) (eK (.int 3))) (eK (.int 1)))) (sFrz 2 (sSet 2 (eUn fTuple (eVar 2)))) sPass) (sSeq (sIf (tB (eBin fLt (eBin fMod (eUn fInt (eVar 1)) (eK (.int 5))) (eK (.int 2)))) (sFrz 2 (sRet (eLst [(eBin fIx (eVar 0) (eK (.int 0))), (eVar 2)]))) sPass) (sRetM [.ev (eBin fIx (eVar 0) (eK (.int 0))), .mv 2])))))
def φ__law_given_k09 : Fn := runBody b__law_given_k09 5
/-! _law_is_store_k09 -/
abbrev w__law_is_store_k09_0 : SC := (sSeq (sSet 2 (eBin fIx (eVar 0) (eVar 1))) (sSeq (sFrzL 2 (sIf (tOr (tNot (tB (eUn (fIsIs [.list, .tuple]) (eVar 2)))) (tOr (tB (eBin fNe (eUn fLen (eVar 2)) (eK (.int 2)))) (tNot (tB (eCall φ__law_is_name_k08 [(eBin fIx (eVar 2) (eK (.int 0)))]))))) (sRet (eK (.bool false))) sPass)) (sSeq (sFrzL 2 (sIf (tNot (tB (eCall φ__law_is_number_k01 [(eBin fIx (eVar 2) (eK (.int 1))), (eK (.int 0)), (eK (.int 999))]))) (sRet (eK (.bool false))) sPass)) (sIf (tAnd (tB (eBin fGt (eVar 1) (eK (.int 0)))) (tB (eBin fLe (eBin fIx (eVar 2) (eK (.int 0))) (eBin fIx (eBin fIx (eVar 0) (eBin fSub (eVar 1) (eK (.int 1)))) (eK (.int 0)))))) (sRet (eK (.bool false))) sPass))))
abbrev b__law_is_store_k09 : SC := (sSeq (sIf (tOr (tNot (tB (eUn (fIsIs [.list, .tuple]) (eVar 0)))) (tB (eBin fGt (eUn fLen (eVar 0)) (eK (.int 12))))) (sRet (eK (.bool false))) sPass) (sSeq (sFor [1] (iRng1 (eUn fLen (eVar 0))) w__law_is_store_k09_0) (sRet (eK (.bool true)))))
def φ__law_is_store_k09 : Fn := runBody b__law_is_store_k09 3
/-! _law_frozen_k09 -/
abbrev b__law_frozen_k09 : SC := (sRet (eUn fTuple (eComp [1] (iRow (eVar 0)) tYes (eTup [(eBin fIx (eVar 1) (eK (.int 0))), (eBin fIx (eVar 1) (eK (.int 1)))]))))
def φ__law_frozen_k09 : Fn := runBody b__law_frozen_k09 2
/-! _law_groups_k12 -/
abbrev w__law_groups_k12_0 : SC := (sIf (tNot (tB (eCall φ__law_has_k08 [(eBin fIx (eBin fIx (eVar 1) (eVar 7)) (eK (.int 2))), (eVar 3)]))) (sSeq (sSet 8 (eBin fMin (eBin fIx (eVar 4) (eBin fIx (eBin fIx (eVar 1) (eVar 7)) (eK (.int 0)))) (eBin fIx (eVar 4) (eBin fIx (eBin fIx (eVar 1) (eVar 7)) (eK (.int 1)))))) (sSeq (sFrz 8 (sPut (eVar 4) (eBin fIx (eBin fIx (eVar 1) (eVar 7)) (eK (.int 0))) (eVar 8))) (sFrz 8 (sPut (eVar 4) (eBin fIx (eBin fIx (eVar 1) (eVar 7)) (eK (.int 1))) (eVar 8))))) sPass)
abbrev w__law_groups_k12_1 : SC := (sSeq (sSet 6 (eUn fList (eVar 4))) (sSeq (sFor [7] (iRow (eVar 2)) w__law_groups_k12_0) (sIf (tB (eBin fEq (eVar 4) (eVar 6))) (sRet (eVar 4)) sPass)))
abbrev b__law_groups_k12 : SC := (sSeq (sSet 4 (eUn fLRng1 (eBin fAdd (eVar 0) (eK (.int 1))))) (sSeq (sFor [5] (iRng1 (eVar 0)) w__law_groups_k12_1) (sRet (eVar 4))))
def φ__law_groups_k12 : Fn := runBody b__law_groups_k12 9
/-! _law_end_k12 -/
abbrev b__law_end_k12 : SC := (sSeq (sIf (tNot (tB (eCall φ__law_is_number_k01 [(eVar 3), (eUn fNeg (eK (.int 1))), (eBin fSub (eUn fLen (eVar 0)) (eK (.int 1)))]))) (sRet (eK .none)) sPass) (sSeq (sIf (tB (eBin fEq (eVar 3) (eUn fNeg (eK (.int 1))))) (sRet (eLst [(eK (.int 0)), (eK .none)])) sPass) (sSeq (sIf (tOr (tB (eBin fNotIn (eVar 3) (eVar 1))) (tNot (tB (eCall φ__law_has_k08 [(eBin fIx (eBin fIx (eVar 0) (eVar 3)) (eK (.int 2))), (eVar 2)])))) (sRet (eK .none)) sPass) (sRet (eLst [(eBin fIx (eBin fIx (eVar 0) (eVar 3)) (eK (.int 1))), (eCall φ__law_value_k08 [(eBin fIx (eBin fIx (eVar 0) (eVar 3)) (eK (.int 2))), (eVar 2)])])))))
def φ__law_end_k12 : Fn := runBody b__law_end_k12 4
/-! _law_clashes_k12 -/
abbrev w__law_clashes_k12_0 : SC := (sSeq (sFrz 3 (sIf (tOr (tNot (tB (eCall φ__law_is_number_k01 [(eVar 8), (eK (.int 0)), (eBin fSub (eUn fLen (eVar 0)) (eK (.int 1)))]))) (tOr (tB (eBin fNotIn (eVar 8) (eVar 1))) (tB (eCall φ__law_has_k08 [(eBin fIx (eBin fIx (eVar 0) (eVar 8)) (eK (.int 2))), (eVar 3)])))) (sRet (eK (.bool false))) sPass)) (sIf (tB (eBin fEq (eBin fIx (eBin fIx (eVar 0) (eVar 8)) (eK (.int 0))) (eVar 7))) (sSet 7 (eBin fIx (eBin fIx (eVar 0) (eVar 8)) (eK (.int 1)))) (sIf (tB (eBin fEq (eBin fIx (eBin fIx (eVar 0) (eVar 8)) (eK (.int 1))) (eVar 7))) (sSet 7 (eBin fIx (eBin fIx (eVar 0) (eVar 8)) (eK (.int 0)))) (sRet (eK (.bool false))))))
abbrev b__law_clashes_k12 : SC := (sSeq (sIf (tOr (tNot (tB (eUn (fIsIs [.list, .tuple]) (eVar 2)))) (tB (eBin fNe (eUn fLen (eVar 2)) (eK (.int 4))))) (sRet (eK (.bool false))) sPass) (sSeq (sSet 3 (eBin fIx (eVar 2) (eK (.int 0)))) (sSeq (sSet 4 (eBin fIx (eVar 2) (eK (.int 2)))) (sSeq (sFrz 3 (sIf (tOr (tNot (tB (eCall φ__law_is_name_k08 [(eVar 3)]))) (tNot (tB (eUn (fIsIs [.list, .tuple]) (eVar 4))))) (sRet (eK (.bool false))) sPass)) (sSeq (sFrz 3 (sSet 5 (eCall φ__law_end_k12 [(eVar 0), (eVar 1), (eVar 3), (eBin fIx (eVar 2) (eK (.int 1)))]))) (sSeq (sFrz 3 (sSet 6 (eCall φ__law_end_k12 [(eVar 0), (eVar 1), (eVar 3), (eBin fIx (eVar 2) (eK (.int 3)))]))) (sSeq (sIf (tOr (tB (eUn fIsN (eVar 5))) (tOr (tB (eUn fIsN (eVar 6))) (tB (eBin fEq (eBin fIx (eVar 5) (eK (.int 1))) (eBin fIx (eVar 6) (eK (.int 1))))))) (sRet (eK (.bool false))) sPass) (sSeq (sFrzL 5 (sSet 7 (eBin fIx (eVar 5) (eK (.int 0))))) (sSeq (sFrz 4 (sFor [8] (iRow (eVar 4)) w__law_clashes_k12_0)) (sRet (eBin fEq (eVar 7) (eBin fIx (eVar 6) (eK (.int 0))))))))))))))
def φ__law_clashes_k12 : Fn := runBody b__law_clashes_k12 9
/-! _law_names_in_k12 -/
abbrev w__law_names_in_k12_0 : SC := (sFrzL 1 (sSet 1 (eBin fAdd (eVar 1) (eComp [3] (iRow (eBin fIx (eVar 2) (eK (.int 2)))) (tB (eBin fNotIn (eBin fIx (eVar 3) (eK (.int 0))) (eVar 1))) (eBin fIx (eVar 3) (eK (.int 0)))))))
abbrev b__law_names_in_k12 : SC := (sSeq (sSet 1 (eLst [])) (sSeq (sFor [2] (iRow (eVar 0)) w__law_names_in_k12_0) (sFrz 1 (sRet (eUn fSorted (eVar 1))))))
def φ__law_names_in_k12 : Fn := runBody b__law_names_in_k12 4
/-! _law_cell_k14 -/
abbrev b__law_cell_k14 : SC := (sSeq (sIf (tB (eBin fLt (eVar 1) (eUn fLen (eVar 0)))) (sRet (eBin fIx (eVar 0) (eVar 1))) sPass) (sSeq (sIf (tB (eBin fEq (eUn fLen (eVar 0)) (eK (.int 0)))) (sRet (eBin fMul (eK (.int 7919)) (eVar 1))) sPass) (sRet (eBin fAdd (eBin fMod (eUn fInt (eBin fIx (eVar 0) (eBin fMod (eVar 1) (eUn fLen (eVar 0))))) (eK (.int 1000003))) (eBin fMul (eK (.int 7919)) (eVar 1))))))
def φ__law_cell_k14 : Fn := runBody b__law_cell_k14 2
/-! _law_row_k14 -/
abbrev w__law_row_k14_0 : SC := (sIf (tB (eBin fGe (eVar 0) (eBin fPow (eK (.int 10)) (eK (.int 18))))) (sSeq (sApp (eVar 4) (eBin fMod (eUn fInt (eVar 5)) (eVar 2))) (sSet 5 (eBin fDiv (eVar 5) (eVar 2)))) (sSeq (sSet 7 (eBin fMod (eUn fInt (eBin fAdd (eBin fAdd (eBin fAdd (eBin fMul (eBin fMod (eUn fInt (eVar 0)) (eK (.int 2147483647))) (eK (.int 48271))) (eBin fMul (eVar 6) (eK (.int 69621)))) (eBin fMul (eVar 3) (eK (.int 7919)))) (eK (.int 11)))) (eK (.int 2147483647)))) (sSeq (sSet 7 (eBin fMod (eUn fInt (eBin fAdd (eBin fAdd (eBin fMul (eVar 7) (eVar 7)) (eBin fMul (eK (.int 13)) (eVar 6))) (eK (.int 5)))) (eK (.int 2147483629)))) (sSeq (sSet 7 (eBin fMod (eUn fInt (eBin fAdd (eBin fAdd (eBin fMul (eVar 7) (eVar 7)) (eBin fMul (eK (.int 7)) (eVar 6))) (eK (.int 3)))) (eK (.int 2147483587)))) (sApp (eVar 4) (eBin fMod (eVar 7) (eVar 2)))))))
abbrev b__law_row_k14 : SC := (sSeq (sSet 4 (eLst [])) (sSeq (sSet 5 (eVar 0)) (sSeq (sFor [6] (iRng1 (eVar 1)) w__law_row_k14_0) (sRet (eVar 4)))))
def φ__law_row_k14 : Fn := runBody b__law_row_k14 8
/-! _law_links_k14 -/
abbrev w__law_links_k14_0 : SC := (sApp (eVar 5) (eTup [(eBin fMod (eBin fIx (eVar 4) (eVar 6)) (eBin fAdd (eVar 2) (eK (.int 1)))), (eBin fAdd (eK (.int 1)) (eBin fMod (eBin fIx (eVar 3) (eVar 6)) (eVar 2)))]))
abbrev w__law_links_k14_1 : SC := (sIns (eVar 8) (eBin fMod (eBin fIx (eVar 3) (eBin fSub (eBin fAdd (eBin fMul (eK (.int 10)) (eVar 7)) (eVar 9)) (eK (.int 1)))) (eVar 9)) (eVar 9))
abbrev w__law_links_k14_2 : SC := (sSeq (sSet 12 (eBin fMod (eBin fIx (eVar 4) (eBin fAdd (eBin fMul (eK (.int 10)) (eVar 7)) (eVar 11))) (eBin fAdd (eVar 11) (eK (.int 1))))) (sSeq (sIf (tB (eBin fEq (eBin fMod (eBin fIx (eVar 1) (eK (.int 5))) (eK (.int 3))) (eK (.int 0)))) (sSet 12 (eVar 11)) sPass) (sFrzL 10 (sApp (eVar 5) (eTup [(eBin fIx (eVar 10) (eVar 12)), (eBin fIx (eVar 8) (eVar 11))])))))
abbrev w__law_links_k14_3 : SC := (sSeq (sSet 8 (eLst [])) (sSeq (sFor [9] (iRng2 (eK (.int 1)) (eBin fAdd (eVar 2) (eK (.int 1)))) w__law_links_k14_1) (sSeq (sSet 10 (eBin fAdd (eLst [(eK (.int 0))]) (eVar 8))) (sFor [11] (iRng1 (eVar 2)) w__law_links_k14_2))))
abbrev w__law_links_k14_4 : SC := (sApp (eVar 5) (eTup [(eBin fMod (eBin fIx (eVar 4) (eBin fAdd (eK (.int 30)) (eVar 6))) (eBin fAdd (eVar 2) (eK (.int 1)))), (eBin fAdd (eK (.int 1)) (eBin fMod (eBin fIx (eVar 3) (eBin fAdd (eK (.int 30)) (eVar 6))) (eVar 2)))]))
abbrev b__law_links_k14 : SC := (sSeq (sSet 3 (eCall φ__law_row_k14 [(eCall φ__law_cell_k14 [(eVar 0), (eK (.int 1))]), (eK (.int 40)), (eK (.int 2520)), (eK (.int 2))])) (sSeq (sSet 4 (eCall φ__law_row_k14 [(eCall φ__law_cell_k14 [(eVar 0), (eK (.int 2))]), (eK (.int 40)), (eK (.int 2520)), (eK (.int 3))])) (sSeq (sSet 5 (eLst [])) (sSeq (sIf (tB (eBin fEq (eBin fMod (eBin fIx (eVar 1) (eK (.int 2))) (eK (.int 2))) (eK (.int 0)))) (sSeq (sFor [6] (iRng1 (eBin fMod (eBin fIx (eVar 1) (eK (.int 3))) (eK (.int 31)))) w__law_links_k14_0) (sRet (eVar 5))) sPass) (sSeq (sFor [7] (iRng1 (eBin fAdd (eK (.int 1)) (eBin fMod (eBin fIx (eVar 1) (eK (.int 3))) (eK (.int 3))))) w__law_links_k14_3) (sSeq (sFor [6] (iRng1 (eBin fMod (eBin fDiv (eBin fIx (eVar 1) (eK (.int 3))) (eK (.int 3))) (eK (.int 5)))) w__law_links_k14_4) (sFrzL 5 (sRet (eSlice (eVar 5) none (some (eK (.int 30))))))))))))
def φ__law_links_k14 : Fn := runBody b__law_links_k14 13
/-! _law_mixed_k14 -/
abbrev w__law_mixed_k14_0 : SC := (sSeq (sFrzL 3 (sSet 7 (eBin fIx (eVar 3) (eVar 6)))) (sSeq (sIf (tB (eBin fEq (eBin fIx (eVar 7) (eK (.int 0))) (eBin fIx (eVar 7) (eK (.int 1))))) (sFrzL 7 (sSet 7 (eTup [(eK (.int 0)), (eBin fIx (eVar 7) (eK (.int 1)))]))) sPass) (sFrz 7 (sIns (eVar 5) (eBin fMod (eBin fIx (eVar 4) (eVar 6)) (eBin fAdd (eVar 6) (eK (.int 1)))) (eVar 7)))))
abbrev b__law_mixed_k14 : SC := (sSeq (sSet 3 (eCall φ__law_links_k14 [(eVar 0), (eVar 1), (eVar 2)])) (sSeq (sSet 4 (eCall φ__law_row_k14 [(eCall φ__law_cell_k14 [(eVar 0), (eK (.int 3))]), (eK (.int 30)), (eK (.int 2520)), (eK (.int 4))])) (sSeq (sSet 5 (eLst [])) (sSeq (sFor [6] (iRng1 (eUn fLen (eVar 3))) w__law_mixed_k14_0) (sSeq (sIf (tAnd (tB (eBin fEq (eBin fMod (eBin fIx (eVar 1) (eK (.int 2))) (eK (.int 2))) (eK (.int 1)))) (tB (eBin fEq (eBin fMod (eBin fIx (eVar 1) (eK (.int 4))) (eK (.int 2))) (eK (.int 0))))) (sSeq (sSet 8 (eBin fMod (eBin fDiv (eBin fIx (eVar 1) (eK (.int 4))) (eK (.int 2))) (eUn fLen (eVar 5)))) (sFrzL 5 (sSet 5 (eBin fAdd (eSlice (eVar 5) none (some (eVar 8))) (eSlice (eVar 5) (some (eBin fAdd (eVar 8) (eK (.int 1)))) none))))) sPass) (sSeq (sIf (tB (eBin fEq (eBin fMod (eBin fIx (eVar 1) (eK (.int 5))) (eK (.int 12))) (eK (.int 1)))) (sFrz 5 (sSet 5 (eComp [9] (iRow (eVar 5)) tYes (eTup [(eBin fMin (eBin fIx (eVar 9) (eK (.int 0))) (eBin fIx (eVar 9) (eK (.int 1)))), (eBin fMax (eBin fIx (eVar 9) (eK (.int 0))) (eBin fIx (eVar 9) (eK (.int 1))))])))) sPass) (sSeq (sIf (tAnd (tB (eBin fEq (eBin fMod (eBin fIx (eVar 1) (eK (.int 5))) (eK (.int 12))) (eK (.int 2)))) (tB (eBin fGt (eVar 2) (eK (.int 1))))) (sSet 5 (eComp [10] (iRng2 (eK (.int 1)) (eBin fAdd (eVar 2) (eK (.int 1)))) tYes (eTup [(eBin fAdd (eBin fMod (eVar 10) (eVar 2)) (eK (.int 1))), (eVar 10)]))) sPass) (sSeq (sIf (tB (eBin fEq (eBin fMod (eBin fIx (eVar 1) (eK (.int 5))) (eK (.int 12))) (eK (.int 4)))) (sFrz 5 (sSet 5 (eComp [9] (iRow (eVar 5)) tYes (eBin fIx (eVar 5) (eK (.int 0)))))) sPass) (sRet (eVar 5))))))))))
def φ__law_mixed_k14 : Fn := runBody b__law_mixed_k14 11
/-! _law_house_k14 -/
abbrev w__law_house_k14_0 : SC := (sSeq (sFrzL 5 (sSet 8 (eBin fIx (eLst [(eBin fIx (eVar 5) (eVar 7)), (eBin fMod (eBin fIx (eVar 5) (eVar 7)) (eK (.int 4))), (eK (.int 0)), (eBin fAdd (eK (.int 1)) (eBin fMod (eBin fIx (eVar 5) (eVar 7)) (eK (.int 9)))), (eBin fMul (eK (.int 999)) (eBin fMod (eBin fIx (eVar 5) (eVar 7)) (eK (.int 2)))), (eBin fMod (eBin fIx (eVar 5) (eVar 7)) (eK (.int 100)))]) (eBin fMod (eBin fIx (eVar 1) (eK (.int 6))) (eK (.int 6)))))) (sFrz 8 (sFrzL 4 (sApp (eVar 6) (eTup [(eBin fIx (eBin fIx (eVar 4) (eVar 7)) (eK (.int 0))), (eBin fIx (eBin fIx (eVar 4) (eVar 7)) (eK (.int 1))), (eVar 8)])))))
abbrev b__law_house_k14 : SC := (sSeq (sSet 3 (eBin fAdd (eK (.int 1)) (eBin fMod (eBin fIx (eVar 1) (eK (.int 0))) (eVar 2)))) (sSeq (sIf (tB (eBin fEq (eBin fMod (eBin fIx (eVar 1) (eK (.int 1))) (eK (.int 3))) (eK (.int 0)))) (sSet 3 (eBin fIx (eLst [(eK (.int 1)), (eK (.int 2)), (eBin fSub (eVar 2) (eK (.int 1))), (eVar 2)]) (eBin fMod (eBin fIx (eVar 1) (eK (.int 0))) (eK (.int 4))))) sPass) (sSeq (sFrz 3 (sSet 4 (eCall φ__law_mixed_k14 [(eVar 0), (eVar 1), (eVar 3)]))) (sSeq (sSet 5 (eCall φ__law_row_k14 [(eCall φ__law_cell_k14 [(eVar 0), (eK (.int 4))]), (eK (.int 30)), (eK (.int 1000)), (eK (.int 5))])) (sSeq (sSet 6 (eLst [])) (sSeq (sFor [7] (iRng1 (eUn fLen (eVar 4))) w__law_house_k14_0) (sRetM [.mv 3, .mv 6])))))))
def φ__law_house_k14 : Fn := runBody b__law_house_k14 9
/-! _law_given_k14 -/
abbrev w__law_given_k14_0 : SC := (sIf (tB (eBin fIx (eVar 2) (eBin fIx (eVar 4) (eK (.int 0))))) (sPut (eVar 2) (eBin fIx (eVar 4) (eK (.int 1))) (eK (.bool true))) sPass)
abbrev w__law_given_k14_1 : SC := (sFor [4] (iRow (eVar 0)) w__law_given_k14_0)
abbrev b__law_given_k14 : SC := (sSeq (sSet 2 (eComp [5] (iRng1 (eBin fAdd (eVar 1) (eK (.int 1)))) tYes (eBin fEq (eVar 5) (eK (.int 0))))) (sSeq (sFor [3] (iRng1 (eVar 1)) w__law_given_k14_1) (sRet (eComp [5] (iRng2 (eK (.int 1)) (eBin fAdd (eVar 1) (eK (.int 1)))) (tB (eBin fIx (eVar 2) (eVar 5))) (eVar 5)))))
def φ__law_given_k14 : Fn := runBody b__law_given_k14 6
/-! _law_tapes_k14 -/
abbrev b__law_tapes_k14 : SC := (sSeq (sIf (tB (eBin fEq (eBin fMod (eVar 0) (eK (.int 6))) (eK (.int 0)))) (sRet (eBin fIx (eLst [(eK (.int 0)), (eK (.int 6)), (eK (.int 7)), (eK (.int 8))]) (eBin fMod (eBin fDiv (eVar 0) (eK (.int 6))) (eK (.int 4))))) sPass) (sRet (eBin fAdd (eK (.int 1)) (eBin fMod (eBin fDiv (eVar 0) (eK (.int 6))) (eK (.int 5))))))
def φ__law_tapes_k14 : Fn := runBody b__law_tapes_k14 1
/-! _law_rack_k14 -/
abbrev w__law_rack_k14_0 : SC := (sSeq (sSet 10 (eBin fEq (eBin fMod (eBin fDiv (eBin fIx (eVar 4) (eVar 9)) (eBin fIx (eVar 5) (eVar 7))) (eK (.int 2))) (eK (.int 1)))) (sSeq (sIf (tOr (tB (eBin fEq (eVar 3) (eK (.int 1)))) (tB (eBin fEq (eVar 3) (eK (.int 4))))) (sSet 10 (eBin fEq (eBin fMod (eBin fIx (eVar 4) (eVar 9)) (eVar 2)) (eVar 7))) sPass) (sSeq (sIf (tB (eBin fEq (eVar 3) (eK (.int 2)))) (sSet 10 (eOr (eBin fEq (eBin fMod (eBin fIx (eVar 4) (eVar 9)) (eBin fAdd (eVar 2) (eK (.int 1)))) (eVar 7)) (eBin fEq (eBin fMod (eBin fDiv (eBin fIx (eVar 4) (eVar 9)) (eK (.int 16))) (eBin fAdd (eVar 2) (eK (.int 1)))) (eVar 7)))) sPass) (sSeq (sIf (tB (eBin fEq (eVar 3) (eK (.int 3)))) (sSet 10 (eBin fEq (eVar 9) (eVar 7))) sPass) (sIf (tB (eVar 10)) (sApp (eVar 8) (eVar 9)) sPass)))))
abbrev w__law_rack_k14_1 : SC := (sSeq (sSet 8 (eLst [])) (sSeq (sFor [9] (iRng1 (eVar 1)) w__law_rack_k14_0) (sApp (eVar 6) (eVar 8))))
abbrev b__law_rack_k14 : SC := (sSeq (sSet 4 (eCall φ__law_row_k14 [(eVar 0), (eVar 1), (eK (.int 256)), (eK (.int 6))])) (sSeq (sSet 5 (eLst [(eK (.int 1)), (eK (.int 2)), (eK (.int 4)), (eK (.int 8)), (eK (.int 16)), (eK (.int 32)), (eK (.int 64)), (eK (.int 128))])) (sSeq (sSet 6 (eLst [])) (sSeq (sFor [7] (iRng1 (eVar 2)) w__law_rack_k14_1) (sRet (eVar 6))))))
def φ__law_rack_k14 : Fn := runBody b__law_rack_k14 11
/-! _law_on_k14 -/
abbrev w__law_on_k14_0 : SC := (sPut (eVar 3) (eVar 5) (eK (.bool true)))
abbrev w__law_on_k14_1 : SC := (sFor [5] (iRow (eBin fIx (eVar 0) (eVar 4))) w__law_on_k14_0)
abbrev b__law_on_k14 : SC := (sSeq (sSet 3 (eComp [5] (iRng1 (eVar 2)) tYes (eK (.bool false)))) (sSeq (sFor [4] (iRow (eVar 1)) w__law_on_k14_1) (sRet (eComp [5] (iRng1 (eVar 2)) (tB (eBin fIx (eVar 3) (eVar 5))) (eVar 5)))))
def φ__law_on_k14 : Fn := runBody b__law_on_k14 6
/-! _law_fault_k14 -/
abbrev w__law_fault_k14_0 : SC := (sSeq (sSet 4 (eBin fIx (eVar 0) (eVar 3))) (sSeq (sIf (tOr (tNot (tB (eUn (fIsI .int) (eVar 4)))) (tOr (tB (eUn (fIsI .bool) (eVar 4))) (tOr (tB (eBin fLt (eVar 4) (eVar 1))) (tB (eBin fGt (eVar 4) (eVar 2)))))) (sRet (eVar 3)) sPass) (sIf (tAnd (tB (eBin fGt (eVar 3) (eK (.int 0)))) (tB (eBin fLe (eVar 4) (eBin fIx (eVar 0) (eBin fSub (eVar 3) (eK (.int 1))))))) (sRet (eVar 3)) sPass)))
abbrev b__law_fault_k14 : SC := (sSeq (sIf (tNot (tB (eUn (fIsIs [.list, .tuple]) (eVar 0)))) (sRet (eUn fNeg (eK (.int 1)))) sPass) (sSeq (sFor [3] (iRng1 (eUn fLen (eVar 0))) w__law_fault_k14_0) (sRet (eK .none))))
def φ__law_fault_k14 : Fn := runBody b__law_fault_k14 5
/-! _law_same_k14 -/
abbrev w__law_same_k14_0 (φ__law_same_k14 : Fn) : SC := (sIf (tNot (tB (eCall φ__law_same_k14 [(eBin fIx (eVar 0) (eVar 2)), (eBin fIx (eVar 1) (eVar 2))]))) (sRet (eK (.bool false))) sPass)
abbrev b__law_same_k14 (φ__law_same_k14 : Fn) : SC := (sSeq (sIf (tB (eUn fIsN (eVar 1))) (sRet (eUn fIsN (eVar 0))) sPass) (sSeq (sIf (tB (eUn (fIsI .bool) (eVar 1))) (sRet (eAnd (eUn (fIsI .bool) (eVar 0)) (eBin fEq (eVar 0) (eVar 1)))) sPass) (sSeq (sIf (tB (eUn (fIsI .int) (eVar 1))) (sRet (eAnd (eUn (fIsI .int) (eVar 0)) (eAnd (eUn fNot (eUn (fIsI .bool) (eVar 0))) (eBin fEq (eVar 0) (eVar 1))))) sPass) (sSeq (sIf (tB (eUn (fIsI .str) (eVar 1))) (sRet (eAnd (eUn (fIsI .str) (eVar 0)) (eBin fEq (eVar 0) (eVar 1)))) sPass) (sSeq (sIf (tOr (tB (eBin fNe (eUn (fIsI .list) (eVar 1)) (eUn (fIsI .list) (eVar 0)))) (tB (eBin fNe (eUn (fIsI .tuple) (eVar 1)) (eUn (fIsI .tuple) (eVar 0))))) (sRet (eK (.bool false))) sPass) (sSeq (sIf (tB (eBin fNe (eUn fLen (eVar 0)) (eUn fLen (eVar 1)))) (sRet (eK (.bool false))) sPass) (sSeq (sFor [2] (iRng1 (eUn fLen (eVar 1))) (w__law_same_k14_0 φ__law_same_k14)) (sRet (eK (.bool true))))))))))
def φ__law_same_k14_n : Nat → Fn
  | 0 => fun _ => .stuck
  | n + 1 => runBody (b__law_same_k14 (φ__law_same_k14_n n)) 3
def φ__law_same_k14 : Fn := φ__law_same_k14_n 12
/-! _law_copy_k14 -/
abbrev b__law_copy_k14 (φ__law_copy_k14 : Fn) : SC := (sSeq (sIf (tNot (tB (eUn (fIsIs [.list, .tuple]) (eVar 0)))) (sRet (eVar 0)) sPass) (sSeq (sSet 2 (eComp [3] (iRow (eVar 0)) tYes (eCall φ__law_copy_k14 [(eVar 3), (eVar 1)]))) (sSeq (sIf (tB (eVar 1)) (sFrz 2 (sRet (eUn fTuple (eVar 2)))) sPass) (sRet (eVar 2)))))
def φ__law_copy_k14_n : Nat → Fn
  | 0 => fun _ => .stuck
  | n + 1 => runBody (b__law_copy_k14 (φ__law_copy_k14_n n)) 4
def φ__law_copy_k14 : Fn := φ__law_copy_k14_n 12
/-! _law_spoil_k14 -/
abbrev w__law_spoil_k14_0 (φ__law_spoil_k14 : Fn) : SC := (sEx (eCall φ__law_spoil_k14 [(eVar 1)]))
abbrev b__law_spoil_k14 (φ__law_spoil_k14 : Fn) : SC := (sSeq (sIf (tB (eUn (fIsIs [.list, .tuple]) (eVar 0))) (sFor [1] (iRow (eVar 0)) (w__law_spoil_k14_0 φ__law_spoil_k14)) sPass) (sIf (tB (eUn (fIsI .list) (eVar 0))) (sApp (eVar 0) (eK (.int 77))) sPass))
def φ__law_spoil_k14_n : Nat → Fn
  | 0 => fun _ => .stuck
  | n + 1 => runBody (b__law_spoil_k14 (φ__law_spoil_k14_n n)) 2
def φ__law_spoil_k14 : Fn := φ__law_spoil_k14_n 12
/-! _law_bad_house_k14 -/
abbrev b__law_bad_house_k14 : SC := (sSeq (sSet 2 (eBin fIx (eVar 0) (eK (.int 0)))) (sSeq (sSet 3 (eSlice (eComp [8] (iRow (eBin fIx (eVar 0) (eK (.int 1)))) tYes (eUn fList (eVar 8))) none (some (eK (.int 29))))) (sSeq (sSet 4 (eBin fMod (eVar 1) (eK (.int 28)))) (sSeq (sSet 5 (eBin fMod (eBin fDiv (eVar 1) (eK (.int 28))) (eBin fAdd (eUn fLen (eVar 3)) (eK (.int 1))))) (sSeq (sIf (tB (eBin fLt (eVar 4) (eK (.int 10)))) (sSeq (sFrz 2 (sSet 6 (eBin fIx (eLst [(eK .none), (eK (.str "ab")), (eK (.int 7)), (eK (.bool true)), (eLst [(eVar 2)]), (eLst [(eVar 2), (eVar 3), (eK (.int 0))]), (eLst [(eK (.int 0)), (eVar 3)]), (eLst [(eK (.int 11)), (eVar 3)]), (eLst [(eK (.bool true)), (eVar 3)]), (eLst [(eVar 2), (eK .none)])]) (eVar 4)))) (sFrz 6 (sRet (eLst [(eVar 6), (eTup [(eK (.str "house")), (eUn fNeg (eK (.int 1))), (eK (.bool true))])])))) sPass) (sSeq (sIf (tB (eBin fEq (eVar 4) (eK (.int 10)))) (sRet (eLst [(eLst [(eK (.int 0)), (eComp [9] (iRng1 (eK (.int 31))) tYes (eLst [(eK (.int 0)), (eK (.int 1)), (eK (.int 1))]))]), (eTup [(eK (.str "house")), (eUn fNeg (eK (.int 1))), (eK (.bool true))])])) sPass) (sSeq (sIf (tB (eBin fLt (eVar 4) (eK (.int 13)))) (sSeq (sSet 6 (eBin fIx (eLst [(eLst [(eK (.int 0)), (eK (.int 1)), (eK (.int 1))]), (eK .none)]) (eBin fSub (eVar 4) (eK (.int 11))))) (sFrz 6 (sFrz 2 (sRet (eLst [(eLst [(eVar 2), (eComp [9] (iRng1 (eK (.int 31))) tYes (eVar 6))]), (eTup [(eK (.str "many")), (eK (.int 30)), (eK (.bool true))])]))))) sPass) (sSeq (sFrzL 2 (sSet 7 (eLst [(eLst [(eK (.int 0)), (eBin fAdd (eVar 2) (eK (.int 1))), (eK (.int 5))]), (eLst [(eBin fAdd (eVar 2) (eK (.int 1))), (eK (.int 1)), (eK (.int 5))]), (eLst [(eK (.int 1)), (eK (.int 1)), (eK (.int 5))]), (eLst [(eUn fNeg (eK (.int 1))), (eK (.int 1)), (eK (.int 5))]), (eLst [(eK (.int 0)), (eK (.int 0)), (eK (.int 5))]), (eLst [(eK (.int 0)), (eK (.int 1)), (eK (.int 1000))]), (eLst [(eK (.int 0)), (eK (.int 1)), (eUn fNeg (eK (.int 1)))]), (eLst [(eK (.int 0)), (eK (.int 1))])]))) (sSeq (sFrzL 7 (sSet 7 (eBin fAdd (eVar 7) (eLst [(eLst [(eK (.int 0)), (eK (.int 1)), (eK (.int 5)), (eK (.int 5))]), (eLst [(eK (.int 0)), (eK (.int 1)), (eK (.bool true))]), (eLst [(eK (.int 0)), (eK (.bool true)), (eK (.int 5))]), (eLst [(eK (.bool false)), (eK (.int 1)), (eK (.int 5))]), (eLst [(eK (.int 0)), (eK (.int 1)), (eK .none)]), (eK .none), (eK (.str "abc"))])))) (sSeq (sFrzL 7 (sIns (eVar 3) (eVar 5) (eBin fIx (eVar 7) (eBin fSub (eVar 4) (eK (.int 13)))))) (sFrz 3 (sFrz 2 (sRet (eLst [(eLst [(eVar 2), (eVar 3)]), (eTup [(eK (.str "house")), (eVar 5), (eK (.bool true))])]))))))))))))))
def φ__law_bad_house_k14 : Fn := runBody b__law_bad_house_k14 10
/-! _law_bad_rack_k14 -/
abbrev b__law_bad_rack_k14 : SC := (sSeq (sSet 3 (eSlice (eComp [8] (iRow (eVar 0)) tYes (eUn fList (eVar 8))) none (some (eK (.int 7))))) (sSeq (sSet 4 (eBin fMod (eVar 2) (eK (.int 14)))) (sSeq (sSet 5 (eBin fMod (eBin fDiv (eVar 2) (eK (.int 14))) (eBin fAdd (eUn fLen (eVar 3)) (eK (.int 1))))) (sSeq (sIf (tB (eBin fLt (eVar 4) (eK (.int 4)))) (sRet (eLst [(eBin fIx (eLst [(eK .none), (eK (.str "01")), (eK (.int 5)), (eK (.bool true))]) (eVar 4)), (eTup [(eK (.str "rack")), (eUn fNeg (eK (.int 1))), (eK (.bool true))])])) sPass) (sSeq (sIf (tB (eBin fLt (eVar 4) (eK (.int 6)))) (sSeq (sSet 6 (eBin fIx (eLst [(eLst []), (eK .none)]) (eBin fSub (eVar 4) (eK (.int 4))))) (sFrz 6 (sRet (eLst [(eComp [9] (iRng1 (eK (.int 9))) tYes (eVar 6)), (eTup [(eK (.str "many")), (eK (.int 8)), (eK (.bool true))])])))) sPass) (sSeq (sSet 7 (eLst [(eK .none), (eK (.str "0")), (eLst [(eVar 1)]), (eLst [(eUn fNeg (eK (.int 1)))]), (eLst [(eK (.bool true))]), (eLst [(eK (.int 0)), (eK (.int 0))]), (eLst [(eK (.int 1)), (eK (.int 0))]), (eLst [(eK .none)])])) (sSeq (sFrzL 7 (sIns (eVar 3) (eVar 5) (eBin fIx (eVar 7) (eBin fSub (eVar 4) (eK (.int 6)))))) (sFrz 3 (sRet (eLst [(eVar 3), (eTup [(eK (.str "rack")), (eVar 5), (eK (.bool true))])]))))))))))
def φ__law_bad_rack_k14 : Fn := runBody b__law_bad_rack_k14 10
/-! _law_odd_k14 -/
abbrev w__law_odd_k14_0 : SC := (sSeq (sIf (tB (eBin fEq (eBin fMod (eBin fIx (eVar 3) (eK (.int 0))) (eK (.int 2))) (eK (.int 0)))) (sSet 5 (eBin fAdd (eBin fSub (eVar 1) (eK (.int 1))) (eBin fMod (eBin fIx (eVar 3) (eBin fAdd (eK (.int 3)) (eVar 6))) (eBin fAdd (eBin fSub (eVar 2) (eVar 1)) (eK (.int 3)))))) sPass) (sSeq (sApp (eVar 4) (eVar 5)) (sSet 5 (eBin fSub (eBin fAdd (eVar 5) (eK (.int 1))) (eBin fDiv (eBin fMod (eBin fIx (eVar 3) (eBin fAdd (eK (.int 3)) (eVar 6))) (eK (.int 6))) (eK (.int 5)))))))
abbrev b__law_odd_k14 : SC := (sSeq (sSet 3 (eCall φ__law_row_k14 [(eVar 0), (eK (.int 8)), (eK (.int 5040)), (eK (.int 9))])) (sSeq (sIf (tB (eBin fEq (eBin fMod (eBin fIx (eVar 3) (eK (.int 0))) (eK (.int 8))) (eK (.int 0)))) (sRet (eBin fIx (eLst [(eK .none), (eK (.str "12")), (eK (.int 3)), (eK (.bool true))]) (eBin fMod (eBin fIx (eVar 3) (eK (.int 1))) (eK (.int 4))))) sPass) (sSeq (sSet 4 (eLst [])) (sSeq (sSet 5 (eBin fSub (eVar 1) (eBin fDiv (eBin fMod (eBin fIx (eVar 3) (eK (.int 2))) (eK (.int 6))) (eK (.int 5))))) (sSeq (sFor [6] (iRng1 (eBin fMod (eBin fIx (eVar 3) (eK (.int 1))) (eK (.int 5)))) w__law_odd_k14_0) (sSeq (sIf (tB (eBin fEq (eBin fMod (eBin fIx (eVar 3) (eK (.int 0))) (eK (.int 8))) (eK (.int 1)))) (sApp (eVar 4) (eK (.bool true))) sPass) (sSeq (sIf (tB (eBin fEq (eBin fMod (eBin fIx (eVar 3) (eK (.int 0))) (eK (.int 8))) (eK (.int 2)))) (sApp (eVar 4) (eK .none)) sPass) (sRet (eVar 4)))))))))
def φ__law_odd_k14 : Fn := runBody b__law_odd_k14 7
/-! _law_choice_due_k14 -/
abbrev b__law_choice_due_k14 : SC := (sSeq (sSet 3 (eCall φ__law_fault_k14 [(eVar 0), (eVar 1), (eVar 2)])) (sSeq (sIf (tB (eUn fIsN (eVar 3))) (sRet (eK .none)) sPass) (sRetM [.ev (eK (.str "choice")), .mv 3, .ev (eK (.bool true))])))
def φ__law_choice_due_k14 : Fn := runBody b__law_choice_due_k14 4
/-! _law_due_k14 -/
abbrev w__law_due_k14_0 : SC := (sIf (tB (eUn fNotN (eBin fIx (eVar 1) (eK (.int 1))))) (sRet (eBin fIx (eVar 1) (eK (.int 1)))) sPass)
abbrev b__law_due_k14 : SC := (sSeq (sFor [1] (iRow (eVar 0)) w__law_due_k14_0) (sRet (eK .none)))
def φ__law_due_k14 : Fn := runBody b__law_due_k14 2
/-! _law_want_k15 -/
abbrev b__law_want_k15 : SC := (sSeq (sSet 3 (eCall φ__law_row_k14 [(eVar 1), (eK (.int 11)), (eK (.int 30)), (eK (.int 7))])) (sSeq (sIf (tB (eBin fEq (eBin fMod (eVar 0) (eK (.int 4))) (eK (.int 0)))) (sRet (eComp [4] (iRng2 (eK (.int 1)) (eBin fAdd (eVar 2) (eK (.int 1)))) tYes (eVar 4))) sPass) (sSeq (sIf (tB (eBin fEq (eBin fMod (eVar 0) (eK (.int 4))) (eK (.int 1)))) (sRet (eLst [(eBin fAdd (eK (.int 1)) (eBin fMod (eBin fIx (eVar 3) (eK (.int 0))) (eVar 2)))])) sPass) (sSeq (sIf (tB (eBin fEq (eBin fMod (eVar 0) (eK (.int 12))) (eK (.int 2)))) (sRet (eLst [])) sPass) (sRet (eComp [4] (iRng2 (eK (.int 1)) (eBin fAdd (eVar 2) (eK (.int 1)))) (tB (eBin fEq (eBin fMod (eBin fIx (eVar 3) (eVar 4)) (eK (.int 3))) (eK (.int 0)))) (eVar 4)))))))
def φ__law_want_k15 : Fn := runBody b__law_want_k15 5
/-! _law_subsets_k15 -/
abbrev w__law_subsets_k15_0 : SC := (sApp (eVar 4) (eBin fAdd (eVar 5) (eLst [(eVar 7)])))
abbrev w__law_subsets_k15_1 : SC := (sSeq (sApp (eVar 1) (eVar 5)) (sSeq (sSet 6 (eK (.int 0))) (sSeq (sIf (tB (eBin fGt (eVar 3) (eK (.int 0)))) (sSet 6 (eBin fAdd (eBin fIx (eVar 5) (eUn fNeg (eK (.int 1)))) (eK (.int 1)))) sPass) (sFor [7] (iRng2 (eVar 6) (eVar 0)) w__law_subsets_k15_0))))
abbrev w__law_subsets_k15_2 : SC := (sSeq (sSet 4 (eLst [])) (sSeq (sFrz 2 (sFor [5] (iRow (eVar 2)) w__law_subsets_k15_1)) (sSet 2 (eVar 4))))
abbrev b__law_subsets_k15 : SC := (sSeq (sSet 1 (eLst [])) (sSeq (sSet 2 (eLst [(eLst [])])) (sSeq (sFor [3] (iRng1 (eBin fAdd (eVar 0) (eK (.int 1)))) w__law_subsets_k15_2) (sRet (eVar 1)))))
def φ__law_subsets_k15 : Fn := runBody b__law_subsets_k15 8
/-! _law_mask_k15 -/
abbrev b__law_mask_k15 : SC := (sSeq (sSet 1 (eLst [(eK (.int 1)), (eK (.int 2)), (eK (.int 4)), (eK (.int 8)), (eK (.int 16)), (eK (.int 32)), (eK (.int 64)), (eK (.int 128))])) (sFrzL 1 (sRet (eUn fSum (eComp [2] (iRow (eVar 0)) tYes (eBin fIx (eVar 1) (eVar 2)))))))
def φ__law_mask_k15 : Fn := runBody b__law_mask_k15 3
/-! _law_enough_k15 -/
abbrev w__law_enough_k15_0 : SC := (sSeq (sSet 6 (eComp [9] (iRow (eCall φ__law_on_k14 [(eVar 1), (eVar 5), (eUn fLen (eBin fIx (eVar 0) (eK (.int 1))))])) tYes (eBin fIx (eBin fIx (eVar 0) (eK (.int 1))) (eVar 9)))) (sSeq (sFrz 6 (sSet 7 (eCall φ__law_given_k14 [(eVar 6), (eBin fIx (eVar 0) (eK (.int 0)))]))) (sPut (eVar 4) (eCall φ__law_mask_k15 [(eVar 5)]) (eBin fEq (eUn fLen (eComp [10] (iRow (eVar 2)) (tB (eBin fNotIn (eVar 10) (eVar 7))) (eVar 10))) (eK (.int 0))))))
abbrev b__law_enough_k15 : SC := (sSeq (sSet 4 (eComp [8] (iRng1 (eK (.int 256))) tYes (eK (.bool false)))) (sSeq (sFor [5] (iRow (eVar 3)) w__law_enough_k15_0) (sRet (eVar 4))))
def φ__law_enough_k15 : Fn := runBody b__law_enough_k15 11
/-! _law_harm_k15 -/
abbrev w__law_harm_k15_0 : SC := (sPut (eVar 3) (eCall φ__law_mask_k15 [(eVar 4)]) (eUn fNot (eBin fIx (eVar 1) (eBin fSub (eVar 2) (eCall φ__law_mask_k15 [(eVar 4)])))))
abbrev b__law_harm_k15 : SC := (sSeq (sSet 2 (eCall φ__law_mask_k15 [(eBin fIx (eVar 0) (eUn fNeg (eK (.int 1))))])) (sSeq (sSet 3 (eComp [5] (iRng1 (eK (.int 256))) tYes (eK (.bool false)))) (sSeq (sFor [4] (iRow (eVar 0)) w__law_harm_k15_0) (sRet (eVar 3)))))
def φ__law_harm_k15 : Fn := runBody b__law_harm_k15 6
/-! _law_least_k15 -/
abbrev w__law_least_k15_0 : SC := (sSeq (sSet 4 (eCall φ__law_mask_k15 [(eVar 3)])) (sSeq (sSet 5 (eComp [6] (iRow (eVar 3)) (tB (eBin fIx (eVar 1) (eBin fSub (eVar 4) (eCall φ__law_mask_k15 [(eLst [(eVar 6)])])))) (eVar 6))) (sIf (tAnd (tB (eBin fIx (eVar 1) (eVar 4))) (tB (eBin fEq (eUn fLen (eVar 5)) (eK (.int 0))))) (sApp (eVar 2) (eVar 3)) sPass)))
abbrev b__law_least_k15 : SC := (sSeq (sSet 2 (eLst [])) (sSeq (sFor [3] (iRow (eVar 0)) w__law_least_k15_0) (sRet (eVar 2))))
def φ__law_least_k15 : Fn := runBody b__law_least_k15 7
/-! _law_is_pairs_k18 -/
abbrev w__law_is_pairs_k18_0 : SC := (sIf (tOr (tNot (tB (eUn (fIsIs [.list, .tuple]) (eVar 1)))) (tB (eBin fNe (eUn fLen (eVar 1)) (eK (.int 2))))) (sRet (eK (.bool false))) sPass)
abbrev b__law_is_pairs_k18 : SC := (sSeq (sIf (tNot (tB (eUn (fIsIs [.list, .tuple]) (eVar 0)))) (sRet (eK (.bool false))) sPass) (sSeq (sFor [1] (iRow (eVar 0)) w__law_is_pairs_k18_0) (sRet (eK (.bool true)))))
def φ__law_is_pairs_k18 : Fn := runBody b__law_is_pairs_k18 2
/-! _law_bent_side_k18 -/
abbrev b__law_bent_side_k18 : SC := (sSeq (sSet 4 (eBin fMod (eBin fIx (eVar 3) (eK (.int 2))) (eK (.int 12)))) (sSeq (sSet 5 (eBin fMod (eBin fIx (eVar 3) (eK (.int 3))) (eBin fAdd (eUn fLen (eVar 0)) (eK (.int 1))))) (sSeq (sSet 6 (eBin fAdd (eVar 1) (eBin fMod (eBin fIx (eVar 3) (eK (.int 4))) (eBin fAdd (eBin fSub (eVar 2) (eVar 1)) (eK (.int 2)))))) (sSeq (sIf (tB (eBin fEq (eVar 4) (eK (.int 0)))) (sRet (eLst [])) sPass) (sSeq (sIf (tB (eBin fEq (eVar 4) (eK (.int 1)))) (sRet (eComp [7] (iRng2 (eVar 1) (eBin fAdd (eVar 2) (eK (.int 1)))) tYes (eVar 7))) sPass) (sSeq (sIf (tB (eBin fEq (eVar 4) (eK (.int 2)))) (sRet (eBin fAdd (eSlice (eVar 0) none (some (eVar 5))) (eSlice (eVar 0) (some (eBin fAdd (eVar 5) (eK (.int 1)))) none))) sPass) (sSeq (sIf (tB (eBin fEq (eVar 4) (eK (.int 3)))) (sRet (eUn fSorted (eBin fAdd (eVar 0) (eLst [(eVar 6)])))) sPass) (sSeq (sIf (tB (eBin fEq (eVar 4) (eK (.int 4)))) (sRet (eUn fRev (eVar 0))) sPass) (sSeq (sIf (tB (eBin fEq (eVar 4) (eK (.int 5)))) (sRet (eBin fAdd (eVar 0) (eLst [(eBin fAdd (eVar 2) (eK (.int 1)))]))) sPass) (sSeq (sIf (tB (eBin fEq (eVar 4) (eK (.int 6)))) (sRet (eBin fAdd (eLst [(eBin fSub (eVar 1) (eK (.int 1)))]) (eVar 0))) sPass) (sSeq (sIf (tB (eBin fEq (eVar 4) (eK (.int 7)))) (sRet (eBin fAdd (eVar 0) (eLst [(eK (.bool true))]))) sPass) (sSeq (sIf (tB (eBin fEq (eVar 4) (eK (.int 8)))) (sRet (eBin fAdd (eLst [(eK .none)]) (eVar 0))) sPass) (sSeq (sIf (tB (eBin fEq (eVar 4) (eK (.int 9)))) (sRet (eBin fIx (eLst [(eK .none), (eK (.str "ab")), (eK (.int 5)), (eK (.bool true))]) (eBin fMod (eBin fIx (eVar 3) (eK (.int 4))) (eK (.int 4))))) sPass) (sSeq (sIf (tB (eBin fEq (eVar 4) (eK (.int 10)))) (sRet (eBin fAdd (eBin fAdd (eSlice (eVar 0) none (some (eVar 5))) (eLst [(eK (.bool true))])) (eSlice (eVar 0) (some (eBin fAdd (eVar 5) (eK (.int 1)))) none))) sPass) (sRet (eBin fAdd (eBin fAdd (eSlice (eVar 0) none (some (eVar 5))) (eLst [(eVar 6)])) (eSlice (eVar 0) (some (eVar 5)) none)))))))))))))))))
def φ__law_bent_side_k18 : Fn := runBody b__law_bent_side_k18 8
/-! _law_bent_k18 -/
abbrev b__law_bent_k18 : SC := (sSeq (sSet 5 (eComp [11] (iRow (eVar 0)) tYes (eLst [(eUn fList (eBin fIx (eVar 11) (eK (.int 0)))), (eUn fList (eBin fIx (eVar 11) (eK (.int 1))))]))) (sSeq (sSet 6 (eBin fMod (eBin fIx (eVar 4) (eK (.int 1))) (eUn fLen (eVar 5)))) (sSeq (sTake 7 (eBin fIx (eVar 5) (eVar 6))) (sSeq (sSet 8 (eBin fMod (eBin fIx (eVar 4) (eK (.int 0))) (eK (.int 16)))) (sSeq (sIf (tB (eBin fEq (eVar 8) (eK (.int 0)))) (sFrzL 5 (sRet (eBin fAdd (eSlice (eVar 5) none (some (eVar 6))) (eSlice (eVar 5) (some (eBin fAdd (eVar 6) (eK (.int 1)))) none)))) sPass) (sSeq (sIf (tB (eBin fEq (eVar 8) (eK (.int 1)))) (sFrzL 7 (sFrzL 5 (sRet (eBin fAdd (eVar 5) (eLst [(eLst [(eUn fList (eBin fIx (eVar 7) (eK (.int 0)))), (eUn fList (eBin fIx (eVar 7) (eK (.int 1))))])]))))) sPass) (sSeq (sIf (tB (eBin fEq (eVar 8) (eK (.int 2)))) (sFrzL 5 (sRet (eSlice (eVar 5) (some (eK (.int 1))) none))) sPass) (sSeq (sIf (tB (eBin fEq (eVar 8) (eK (.int 3)))) (sFrzL 5 (sRet (eSlice (eVar 5) none (some (eUn fNeg (eK (.int 1))))))) sPass) (sSeq (sIf (tB (eBin fEq (eVar 8) (eK (.int 4)))) (sFrzL 5 (sRet (eUn fRev (eVar 5)))) sPass) (sSeq (sIf (tB (eBin fEq (eVar 8) (eK (.int 5)))) (sRet (eBin fIx (eLst [(eK .none), (eK (.str "ab")), (eK (.int 5)), (eK (.bool true))]) (eBin fMod (eBin fIx (eVar 4) (eK (.int 2))) (eK (.int 4))))) sPass) (sSeq (sIf (tB (eBin fEq (eVar 8) (eK (.int 6)))) (sFrzL 7 (sPut (eVar 5) (eVar 6) (eBin fIx (eLst [(eK .none), (eK (.str "ab")), (eK (.int 5)), (eK (.bool true)), (eLst [(eBin fIx (eVar 7) (eK (.int 0)))]), (eLst [(eBin fIx (eVar 7) (eK (.int 0))), (eBin fIx (eVar 7) (eK (.int 1))), (eLst [])])]) (eBin fMod (eBin fIx (eVar 4) (eK (.int 2))) (eK (.int 6)))))) (sIf (tB (eBin fEq (eVar 8) (eK (.int 7)))) (sSeq (sTake 9 (eBin fIx (eVar 5) (eBin fMod (eBin fIx (eVar 4) (eK (.int 2))) (eUn fLen (eVar 5))))) (sSeq (sSet 10 (eBin fIx (eVar 7) (eK (.int 1)))) (sSeq (sPut (eVar 7) (eK (.int 1)) (eBin fIx (eVar 9) (eK (.int 1)))) (sFrz 10 (sPut (eVar 9) (eK (.int 1)) (eVar 10)))))) (sIf (tB (eBin fLt (eVar 8) (eK (.int 12)))) (sFrzL 7 (sPut (eVar 7) (eK (.int 0)) (eCall φ__law_bent_side_k18 [(eBin fIx (eVar 7) (eK (.int 0))), (eK (.int 0)), (eBin fSub (eVar 1) (eK (.int 1))), (eVar 4)]))) (sFrzL 7 (sPut (eVar 7) (eK (.int 1)) (eCall φ__law_bent_side_k18 [(eBin fIx (eVar 7) (eK (.int 1))), (eVar 2), (eVar 3), (eVar 4)])))))) (sRet (eVar 5)))))))))))))
def φ__law_bent_k18 : Fn := runBody b__law_bent_k18 12
/-! _law_into_k18 -/
abbrev w__law_into_k18_0 : SC := (sSeq (sSet 5 (eComp [6] (iRow (eBin fIx (eVar 1) (eVar 4))) (tAnd (tB (eBin fIn (eBin fIx (eBin fIx (eBin fIx (eVar 0) (eK (.int 1))) (eVar 6)) (eK (.int 1))) (eVar 2))) (tB (eBin fNotIn (eBin fIx (eBin fIx (eBin fIx (eVar 0) (eK (.int 1))) (eVar 6)) (eK (.int 0))) (eVar 2)))) (eVar 6))) (sIf (tB (eBin fGt (eUn fLen (eVar 5)) (eK (.int 0)))) (sApp (eVar 3) (eVar 4)) sPass))
abbrev b__law_into_k18 : SC := (sSeq (sSet 3 (eLst [])) (sSeq (sFor [4] (iRng1 (eUn fLen (eVar 1))) w__law_into_k18_0) (sRet (eVar 3))))
def φ__law_into_k18 : Fn := runBody b__law_into_k18 7
/-! _law_shut_k18 -/
abbrev w__law_shut_k18_0 : SC := (sIf (tAnd (tB (eBin fIn (eBin fIx (eVar 10) (eK (.int 1))) (eVar 8))) (tB (eBin fNotIn (eBin fIx (eVar 10) (eK (.int 0))) (eVar 8)))) (sApp (eVar 8) (eBin fIx (eVar 10) (eK (.int 0)))) sPass)
abbrev w__law_shut_k18_1 : SC := (sFrz 5 (sFor [10] (iRow (eVar 5)) w__law_shut_k18_0))
abbrev b__law_shut_k18 : SC := (sSeq (sSet 5 (eComp [11] (iRow (eCall φ__law_on_k14 [(eVar 1), (eVar 3), (eUn fLen (eBin fIx (eVar 0) (eK (.int 1))))])) tYes (eBin fIx (eBin fIx (eVar 0) (eK (.int 1))) (eVar 11)))) (sSeq (sFrz 5 (sSet 6 (eCall φ__law_given_k14 [(eVar 5), (eBin fIx (eVar 0) (eK (.int 0)))]))) (sSeq (sSet 7 (eComp [12] (iRow (eVar 2)) (tB (eBin fNotIn (eVar 12) (eVar 6))) (eVar 12))) (sSeq (sIf (tB (eBin fEq (eUn fLen (eVar 7)) (eK (.int 0)))) (sRet (eComp [12] (iRng2 (eK (.int 1)) (eBin fAdd (eBin fIx (eVar 0) (eK (.int 0))) (eK (.int 1)))) tYes (eVar 12))) sPass) (sSeq (sFrzL 7 (sSet 8 (eLst [(eBin fIx (eVar 7) (eBin fMod (eVar 4) (eUn fLen (eVar 7))))]))) (sSeq (sFor [9] (iRng1 (eBin fIx (eVar 0) (eK (.int 0)))) w__law_shut_k18_1) (sFrz 8 (sRet (eUn fSorted (eVar 8))))))))))
def φ__law_shut_k18 : Fn := runBody b__law_shut_k18 13
/-! _law_is_told_k18 -/
abbrev w__law_is_told_k18_0 : SC := (sSeq (sIf (tOr (tNot (tB (eUn (fIsI .tuple) (eVar 1)))) (tB (eBin fNe (eUn fLen (eVar 1)) (eK (.int 2))))) (sRet (eK (.bool false))) sPass) (sIf (tOr (tNot (tB (eUn (fIsI .list) (eBin fIx (eVar 1) (eK (.int 0)))))) (tNot (tB (eUn (fIsI .list) (eBin fIx (eVar 1) (eK (.int 1))))))) (sRet (eK (.bool false))) sPass))
abbrev b__law_is_told_k18 : SC := (sSeq (sIf (tNot (tB (eUn (fIsI .list) (eVar 0)))) (sRet (eK (.bool false))) sPass) (sSeq (sFor [1] (iRow (eVar 0)) w__law_is_told_k18_0) (sRet (eK (.bool true)))))
def φ__law_is_told_k18 : Fn := runBody b__law_is_told_k18 2
/-! _law_is_keep_k22 -/
abbrev b__law_is_keep_k22 : SC := (sSeq (sIf (tB (eUn fNotN (eCall φ__law_fault_k14 [(eVar 2), (eK (.int 0)), (eBin fSub (eUn fLen (eBin fIx (eVar 0) (eK (.int 1)))) (eK (.int 1)))]))) (sRet (eK (.bool false))) sPass) (sSeq (sSet 3 (eComp [4] (iRow (eVar 2)) tYes (eBin fIx (eBin fIx (eVar 0) (eK (.int 1))) (eVar 4)))) (sFrz 3 (sRet (eAnd (eBin fEq (eUn fLen (eCall φ__law_given_k14 [(eVar 3), (eBin fIx (eVar 0) (eK (.int 0)))])) (eBin fIx (eVar 0) (eK (.int 0)))) (eBin fLe (eUn fSum (eComp [5] (iRow (eVar 3)) tYes (eBin fIx (eVar 5) (eK (.int 2))))) (eVar 1)))))))
def φ__law_is_keep_k22 : Fn := runBody b__law_is_keep_k22 6
/-! _law_is_prices_k22 -/
abbrev w__law_is_prices_k22_0 : SC := (sSeq (sIf (tOr (tB (eUn fNotN (eCall φ__law_fault_k14 [(eBin fIx (eVar 3) (eK (.int 0))), (eK (.int 1)), (eBin fIx (eVar 0) (eK (.int 0)))]))) (tB (eBin fEq (eUn fLen (eBin fIx (eVar 3) (eK (.int 0)))) (eK (.int 0))))) (sRet (eK (.bool false))) sPass) (sIf (tOr (tNot (tB (eUn (fIsI .int) (eBin fIx (eVar 3) (eK (.int 1)))))) (tOr (tB (eUn (fIsI .bool) (eBin fIx (eVar 3) (eK (.int 1))))) (tB (eBin fLt (eBin fIx (eVar 3) (eK (.int 1))) (eK (.int 1)))))) (sRet (eK (.bool false))) sPass))
abbrev w__law_is_prices_k22_1 : SC := (sSeq (sSet 5 (eComp [3] (iRow (eVar 2)) (tAnd (tB (eBin fIn (eBin fIx (eVar 4) (eK (.int 1))) (eBin fIx (eVar 3) (eK (.int 0))))) (tB (eBin fNotIn (eBin fIx (eVar 4) (eK (.int 0))) (eBin fIx (eVar 3) (eK (.int 0)))))) (eBin fIx (eVar 3) (eK (.int 1))))) (sFrz 5 (sIf (tB (eBin fGt (eUn fSum (eVar 5)) (eBin fIx (eVar 4) (eK (.int 2))))) (sRet (eK (.bool false))) sPass)))
abbrev b__law_is_prices_k22 : SC := (sSeq (sIf (tNot (tB (eCall φ__law_is_pairs_k18 [(eVar 2)]))) (sRet (eK (.bool false))) sPass) (sSeq (sFor [3] (iRow (eVar 2)) w__law_is_prices_k22_0) (sSeq (sFor [4] (iRow (eBin fIx (eVar 0) (eK (.int 1)))) w__law_is_prices_k22_1) (sRet (eBin fGt (eUn fSum (eComp [3] (iRow (eVar 2)) tYes (eBin fIx (eVar 3) (eK (.int 1))))) (eVar 1))))))
def φ__law_is_prices_k22 : Fn := runBody b__law_is_prices_k22 6
/-! _law_is_told_prices_k22 -/
abbrev w__law_is_told_prices_k22_0 : SC := (sIf (tOr (tNot (tB (eUn (fIsI .tuple) (eVar 1)))) (tOr (tB (eBin fNe (eUn fLen (eVar 1)) (eK (.int 2)))) (tNot (tB (eUn (fIsI .list) (eBin fIx (eVar 1) (eK (.int 0)))))))) (sRet (eK (.bool false))) sPass)
abbrev b__law_is_told_prices_k22 : SC := (sSeq (sIf (tNot (tB (eUn (fIsI .list) (eVar 0)))) (sRet (eK (.bool false))) sPass) (sSeq (sFor [1] (iRow (eVar 0)) w__law_is_told_prices_k22_0) (sRet (eK (.bool true)))))
def φ__law_is_told_prices_k22 : Fn := runBody b__law_is_told_prices_k22 2
/-! _law_is_answer_k22 -/
abbrev b__law_is_answer_k22 : SC := (sSeq (sIf (tOr (tNot (tB (eUn (fIsI .tuple) (eVar 1)))) (tB (eBin fNe (eUn fLen (eVar 1)) (eK (.int 3))))) (sRet (eK (.bool false))) sPass) (sSeq (sIf (tOr (tNot (tB (eUn (fIsI .int) (eBin fIx (eVar 1) (eK (.int 0)))))) (tOr (tB (eUn (fIsI .bool) (eBin fIx (eVar 1) (eK (.int 0))))) (tB (eBin fLt (eBin fIx (eVar 1) (eK (.int 0))) (eK (.int 0)))))) (sRet (eK (.bool false))) sPass) (sSeq (sIf (tOr (tNot (tB (eUn (fIsI .list) (eBin fIx (eVar 1) (eK (.int 1)))))) (tOr (tB (eBin fNe (eUn fLen (eBin fIx (eVar 1) (eK (.int 1)))) (eBin fIx (eVar 0) (eK (.int 0))))) (tNot (tB (eCall φ__law_is_keep_k22 [(eVar 0), (eBin fIx (eVar 1) (eK (.int 0))), (eBin fIx (eVar 1) (eK (.int 1)))]))))) (sRet (eK (.bool false))) sPass) (sSeq (sIf (tOr (tB (eBin fNe (eUn fSum (eComp [2] (iRow (eBin fIx (eVar 1) (eK (.int 1)))) tYes (eBin fIx (eBin fIx (eBin fIx (eVar 0) (eK (.int 1))) (eVar 2)) (eK (.int 2))))) (eBin fIx (eVar 1) (eK (.int 0))))) (tNot (tB (eCall φ__law_is_told_prices_k22 [(eBin fIx (eVar 1) (eK (.int 2)))])))) (sRet (eK (.bool false))) sPass) (sRet (eAnd (eCall φ__law_is_prices_k22 [(eVar 0), (eBin fSub (eBin fIx (eVar 1) (eK (.int 0))) (eK (.int 1))), (eBin fIx (eVar 1) (eK (.int 2)))]) (eBin fEq (eUn fSum (eComp [3] (iRow (eBin fIx (eVar 1) (eK (.int 2)))) tYes (eBin fIx (eVar 3) (eK (.int 1))))) (eBin fIx (eVar 1) (eK (.int 0))))))))))
def φ__law_is_answer_k22 : Fn := runBody b__law_is_answer_k22 4
/-! _law_least_cost_k23 -/
abbrev w__law_least_cost_k23_0 : SC := (sIf (tB (eBin fEq (eBin fIx (eVar 6) (eK (.int 1))) (eVar 3))) (sApp (eVar 4) (eBin fAdd (eVar 5) (eLst [(eVar 6)]))) sPass)
abbrev w__law_least_cost_k23_1 : SC := (sFor [6] (iRow (eVar 1)) w__law_least_cost_k23_0)
abbrev w__law_least_cost_k23_2 : SC := (sSeq (sSet 4 (eLst [])) (sSeq (sFrz 2 (sFor [5] (iRow (eVar 2)) w__law_least_cost_k23_1)) (sSet 2 (eVar 4))))
abbrev w__law_least_cost_k23_3 : SC := (sSeq (sSet 8 (eUn fSum (eComp [6] (iRow (eVar 5)) tYes (eBin fIx (eVar 6) (eK (.int 2)))))) (sIf (tAnd (tOr (tB (eUn fIsN (eVar 7))) (tB (eBin fLt (eVar 8) (eVar 7)))) (tB (eBin fEq (eUn fLen (eCall φ__law_given_k14 [(eVar 5), (eVar 0)])) (eVar 0)))) (sSet 7 (eVar 8)) sPass))
abbrev b__law_least_cost_k23 : SC := (sSeq (sSet 2 (eLst [(eLst [])])) (sSeq (sFor [3] (iRng2 (eK (.int 1)) (eBin fAdd (eVar 0) (eK (.int 1)))) w__law_least_cost_k23_2) (sSeq (sSet 7 (eK .none)) (sSeq (sFrz 2 (sFor [5] (iRow (eVar 2)) w__law_least_cost_k23_3)) (sRet (eVar 7))))))
def φ__law_least_cost_k23 : Fn := runBody b__law_least_cost_k23 9
/-! _law_cell_k27 -/
abbrev b__law_cell_k27 : SC := (sSeq (sIf (tB (eBin fLt (eVar 1) (eUn fLen (eVar 0)))) (sRet (eBin fIx (eVar 0) (eVar 1))) sPass) (sRet (eBin fMod (eUn fInt (eBin fAdd (eBin fMul (eBin fMod (eUn fInt (eUn fSum (eVar 0))) (eK (.int 2147483647))) (eK (.int 16807))) (eBin fMul (eVar 1) (eK (.int 48271))))) (eK (.int 2147483647)))))
def φ__law_cell_k27 : Fn := runBody b__law_cell_k27 2
/-! _law_row_k27 -/
abbrev w__law_row_k27_0 : SC := (sIf (tAnd (tB (eBin fGe (eVar 0) (eBin fPow (eK (.int 10)) (eK (.int 18))))) (tB (eBin fGt (eVar 5) (eK (.int 0))))) (sSeq (sApp (eVar 4) (eBin fMod (eUn fInt (eVar 5)) (eVar 3))) (sSet 5 (eBin fDiv (eVar 5) (eVar 3)))) (sSeq (sSet 7 (eBin fMod (eUn fInt (eBin fAdd (eBin fAdd (eBin fMul (eBin fMod (eUn fInt (eVar 0)) (eK (.int 2147483647))) (eK (.int 48271))) (eBin fMul (eBin fAdd (eBin fMul (eK (.int 64)) (eVar 1)) (eVar 6)) (eK (.int 69621)))) (eK (.int 11)))) (eK (.int 2147483647)))) (sSeq (sSet 7 (eBin fMod (eUn fInt (eBin fAdd (eBin fAdd (eBin fMul (eVar 7) (eVar 7)) (eBin fMul (eK (.int 13)) (eVar 6))) (eK (.int 5)))) (eK (.int 2147483629)))) (sApp (eVar 4) (eBin fMod (eBin fDiv (eVar 7) (eK (.int 7))) (eVar 3))))))
abbrev b__law_row_k27 : SC := (sSeq (sSet 4 (eLst [])) (sSeq (sSet 5 (eVar 0)) (sSeq (sFor [6] (iRng1 (eVar 2)) w__law_row_k27_0) (sRet (eVar 4)))))
def φ__law_row_k27 : Fn := runBody b__law_row_k27 8
/-! _law_starts_k27 -/
abbrev w__law_starts_k27_0 : SC := (sSeq (sFrzL 2 (sSet 6 (eSlice (eVar 2) (some (eBin fMul (eK (.int 10)) (eVar 5))) (some (eBin fAdd (eBin fMul (eK (.int 10)) (eVar 5)) (eVar 1)))))) (sSeq (sSet 7 (eLst [])) (sSeq (sIf (tOr (tB (eBin fEq (eBin fIx (eVar 3) (eVar 5)) (eK (.int 4)))) (tB (eBin fEq (eBin fIx (eVar 3) (eVar 5)) (eK (.int 5))))) (sSet 7 (eComp [8] (iRng1 (eVar 1)) (tB (eBin fEq (eBin fIx (eVar 6) (eVar 8)) (eK (.int 0)))) (eBin fAdd (eVar 8) (eK (.int 1))))) (sIf (tB (eBin fEq (eBin fIx (eVar 3) (eVar 5)) (eK (.int 6)))) (sFrz 6 (sSet 7 (eLst [(eBin fAdd (eK (.int 1)) (eBin fMod (eUn fInt (eUn fSum (eVar 6))) (eVar 1)))]))) (sIf (tB (eBin fEq (eBin fIx (eVar 3) (eVar 5)) (eK (.int 7)))) (sSet 7 (eBin fLRng2 (eK (.int 1)) (eBin fAdd (eVar 1) (eK (.int 1))))) sPass))) (sFrz 7 (sApp (eVar 4) (eVar 7))))))
abbrev b__law_starts_k27 : SC := (sSeq (sSet 2 (eCall φ__law_row_k27 [(eCall φ__law_cell_k27 [(eVar 0), (eK (.int 2))]), (eK (.int 2)), (eK (.int 60)), (eK (.int 4))])) (sSeq (sSet 3 (eCall φ__law_row_k27 [(eCall φ__law_cell_k27 [(eVar 0), (eK (.int 3))]), (eK (.int 3)), (eK (.int 6)), (eK (.int 8))])) (sSeq (sSet 4 (eLst [])) (sSeq (sFor [5] (iRng1 (eBin fIx (eLst [(eK (.int 2)), (eK (.int 1)), (eK (.int 3)), (eK (.int 2)), (eK (.int 0)), (eK (.int 4)), (eK (.int 2)), (eK (.int 6)), (eK (.int 3)), (eK (.int 5)), (eK (.int 2)), (eK (.int 1))]) (eBin fMod (eUn fInt (eCall φ__law_cell_k27 [(eVar 0), (eK (.int 1))])) (eK (.int 12))))) w__law_starts_k27_0) (sRet (eVar 4))))))
def φ__law_starts_k27 : Fn := runBody b__law_starts_k27 9
/-! _law_given_k27 -/
abbrev w__law_given_k27_0 : SC := (sSeq (sSet 7 (eBin fIx (eBin fIx (eVar 1) (eVar 6)) (eK (.int 0)))) (sIf (tAnd (tB (eBin fNotIn (eBin fIx (eBin fIx (eVar 1) (eVar 6)) (eK (.int 1))) (eVar 4))) (tOr (tB (eBin fEq (eVar 7) (eK (.int 0)))) (tB (eBin fIn (eVar 7) (eVar 4))))) (sApp (eVar 4) (eBin fIx (eBin fIx (eVar 1) (eVar 6)) (eK (.int 1)))) sPass))
abbrev w__law_given_k27_1 : SC := (sFor [6] (iRow (eVar 2)) w__law_given_k27_0)
abbrev b__law_given_k27 : SC := (sSeq (sSet 4 (eUn fList (eVar 3))) (sSeq (sFor [5] (iRng1 (eVar 0)) w__law_given_k27_1) (sFrz 4 (sRet (eUn fSorted (eVar 4))))))
def φ__law_given_k27 : Fn := runBody b__law_given_k27 8
/-! _law_is_days_k27 -/
abbrev w__law_is_days_k27_0 : SC := (sIf (tOr (tNot (tB (eUn (fIsI .int) (eBin fIx (eVar 0) (eVar 2))))) (tOr (tB (eUn (fIsI .bool) (eBin fIx (eVar 0) (eVar 2)))) (tB (eBin fNe (eBin fIx (eVar 0) (eVar 2)) (eBin fIx (eVar 1) (eVar 2)))))) (sRet (eK (.bool false))) sPass)
abbrev b__law_is_days_k27 : SC := (sSeq (sIf (tOr (tNot (tB (eUn (fIsI .list) (eVar 0)))) (tB (eBin fNe (eUn fLen (eVar 0)) (eUn fLen (eVar 1))))) (sRet (eK (.bool false))) sPass) (sSeq (sFor [2] (iRng1 (eUn fLen (eVar 1))) w__law_is_days_k27_0) (sRet (eK (.bool true)))))
def φ__law_is_days_k27 : Fn := runBody b__law_is_days_k27 3
/-! _law_bare_k27 -/
abbrev w__law_bare_k27_0 : SC := (sIf (tB (eBin fEq (eUn fLen (eComp [4] (iRow (eVar 3)) (tB (eBin fIn (eVar 4) (eVar 1))) (eVar 4))) (eK (.int 0)))) (sSet 2 (eBin fAdd (eVar 2) (eK (.int 1)))) sPass)
abbrev b__law_bare_k27 : SC := (sSeq (sSet 2 (eK (.int 0))) (sSeq (sFor [3] (iRow (eVar 0)) w__law_bare_k27_0) (sRet (eVar 2))))
def φ__law_bare_k27 : Fn := runBody b__law_bare_k27 5
/-! _law_tree_k28 -/
abbrev w__law_tree_k28_0 : SC := (sSeq (sSet 5 (eComp [7] (iRng2 (eK (.int 1)) (eBin fAdd (eVar 1) (eK (.int 1)))) (tB (eBin fNotIn (eVar 7) (eVar 2))) (eVar 7))) (sSeq (sFrzL 5 (sSet 6 (eBin fIx (eVar 5) (eBin fMod (eUn fInt (eBin fIx (eVar 0) (eBin fMul (eK (.int 2)) (eVar 4)))) (eUn fLen (eVar 5)))))) (sSeq (sFrz 6 (sApp (eVar 3) (eTup [(eBin fIx (eVar 2) (eBin fMod (eUn fInt (eBin fIx (eVar 0) (eBin fAdd (eBin fMul (eK (.int 2)) (eVar 4)) (eK (.int 1))))) (eUn fLen (eVar 2)))), (eVar 6)]))) (sFrz 6 (sApp (eVar 2) (eVar 6))))))
abbrev b__law_tree_k28 : SC := (sSeq (sSet 2 (eLst [(eK (.int 0))])) (sSeq (sSet 3 (eLst [])) (sSeq (sFor [4] (iRng1 (eVar 1)) w__law_tree_k28_0) (sRet (eVar 3)))))
def φ__law_tree_k28 : Fn := runBody b__law_tree_k28 8
/-! _law_free_k28 -/
abbrev w__law_free_k28_0 : SC := (sSeq (sSet 7 (eBin fAdd (eK (.int 1)) (eBin fMod (eUn fInt (eBin fIx (eVar 2) (eVar 6))) (eVar 1)))) (sSeq (sSet 8 (eBin fMod (eUn fInt (eBin fIx (eVar 3) (eVar 6))) (eBin fAdd (eVar 1) (eK (.int 1))))) (sSeq (sIf (tB (eBin fEq (eVar 8) (eVar 7))) (sSet 8 (eK (.int 0))) sPass) (sApp (eVar 5) (eTup [(eVar 8), (eVar 7), (eUn fInt (eBin fIx (eVar 4) (eVar 6)))])))))
abbrev b__law_free_k28 : SC := (sSeq (sSet 2 (eCall φ__law_row_k27 [(eCall φ__law_cell_k27 [(eVar 0), (eK (.int 7))]), (eK (.int 7)), (eK (.int 30)), (eK (.int 1000))])) (sSeq (sSet 3 (eCall φ__law_row_k27 [(eCall φ__law_cell_k27 [(eVar 0), (eK (.int 8))]), (eK (.int 8)), (eK (.int 30)), (eK (.int 1000))])) (sSeq (sSet 4 (eCall φ__law_row_k27 [(eCall φ__law_cell_k27 [(eVar 0), (eK (.int 9))]), (eK (.int 9)), (eK (.int 30)), (eK (.int 1000))])) (sSeq (sSet 5 (eLst [])) (sSeq (sFor [6] (iRng1 (eK (.int 30))) w__law_free_k28_0) (sRet (eVar 5)))))))
def φ__law_free_k28 : Fn := runBody b__law_free_k28 9
/-! _law_sets_k28 -/
abbrev w__law_sets_k28_0 : SC := (sFrz 1 (sSet 1 (eBin fAdd (eVar 1) (eComp [3] (iRow (eVar 1)) tYes (eBin fAdd (eVar 3) (eLst [(eVar 2)]))))))
abbrev b__law_sets_k28 : SC := (sSeq (sSet 1 (eLst [(eLst [])])) (sSeq (sFor [2] (iRng2 (eK (.int 1)) (eBin fAdd (eVar 0) (eK (.int 1)))) w__law_sets_k28_0) (sRet (eVar 1))))
def φ__law_sets_k28 : Fn := runBody b__law_sets_k28 4
/-! _law_says_k28 -/
abbrev b__law_says_k28 : SC := (sRet (eAnd (eUn (fIsI .bool) (eVar 0)) (eBin fEq (eVar 0) (eVar 1))))
def φ__law_says_k28 : Fn := runBody b__law_says_k28 2
/-! _law_tree_k29 -/
abbrev w__law_tree_k29_0 : SC := (sSeq (sSet 6 (eComp [8] (iRng2 (eK (.int 1)) (eBin fAdd (eVar 1) (eK (.int 1)))) (tB (eBin fNotIn (eVar 8) (eVar 3))) (eVar 8))) (sIf (tB (eBin fGt (eUn fLen (eVar 6)) (eK (.int 0)))) (sSeq (sFrzL 6 (sSet 7 (eBin fIx (eVar 6) (eBin fMod (eUn fInt (eBin fIx (eVar 0) (eBin fMul (eK (.int 2)) (eVar 5)))) (eUn fLen (eVar 6)))))) (sSeq (sFrz 7 (sApp (eVar 4) (eTup [(eBin fIx (eVar 3) (eBin fMod (eUn fInt (eBin fIx (eVar 0) (eBin fAdd (eBin fMul (eK (.int 2)) (eVar 5)) (eK (.int 1))))) (eUn fLen (eVar 3)))), (eVar 7)]))) (sFrz 7 (sApp (eVar 3) (eVar 7))))) sPass))
abbrev b__law_tree_k29 : SC := (sSeq (sSet 3 (eBin fAdd (eLst [(eK (.int 0))]) (eUn fList (eVar 2)))) (sSeq (sSet 4 (eLst [])) (sSeq (sFor [5] (iRng1 (eVar 1)) w__law_tree_k29_0) (sRet (eVar 4)))))
def φ__law_tree_k29 : Fn := runBody b__law_tree_k29 9
/-! _law_built_k29 -/
abbrev w__law_built_k29_0 : SC := (sIf (tB (eBin fLt (eUn fLen (eVar 5)) (eK (.int 30)))) (sSeq (sSet 9 (eBin fMod (eUn fInt (eBin fIx (eVar 3) (eUn fLen (eVar 5)))) (eBin fAdd (eUn fLen (eVar 5)) (eK (.int 1))))) (sIns (eVar 5) (eVar 9) (eTup [(eBin fIx (eVar 8) (eK (.int 0))), (eBin fIx (eVar 8) (eK (.int 1))), (eUn fInt (eBin fIx (eVar 4) (eUn fLen (eVar 5))))]))) sPass)
abbrev w__law_built_k29_1 : SC := (sSeq (sSet 7 (eCall φ__law_row_k27 [(eCall φ__law_cell_k27 [(eVar 0), (eBin fAdd (eK (.int 14)) (eVar 6))]), (eBin fAdd (eK (.int 14)) (eVar 6)), (eK (.int 20)), (eK (.int 1000))])) (sFrz 7 (sFor [8] (iRow (eCall φ__law_tree_k29 [(eVar 7), (eVar 1), (eBin fIx (eVar 2) (eVar 6))])) w__law_built_k29_0)))
abbrev b__law_built_k29 : SC := (sSeq (sSet 3 (eCall φ__law_row_k27 [(eCall φ__law_cell_k27 [(eVar 0), (eK (.int 4))]), (eK (.int 4)), (eK (.int 30)), (eK (.int 1000))])) (sSeq (sSet 4 (eCall φ__law_row_k27 [(eCall φ__law_cell_k27 [(eVar 0), (eK (.int 5))]), (eK (.int 5)), (eK (.int 30)), (eK (.int 1000))])) (sSeq (sSet 5 (eLst [])) (sSeq (sFor [6] (iRng1 (eUn fLen (eVar 2))) w__law_built_k29_1) (sRet (eVar 5))))))
def φ__law_built_k29 : Fn := runBody b__law_built_k29 10
/-! _law_lack_k30 -/
abbrev w__law_lack_k30_0 : SC := (sIf (tB (eBin fEq (eUn fLen (eComp [5] (iRow (eVar 4)) (tB (eBin fIn (eVar 5) (eVar 2))) (eVar 5))) (eK (.int 0)))) (sSet 3 (eBin fAdd (eVar 3) (eK (.int 1)))) sPass)
abbrev b__law_lack_k30 : SC := (sSeq (sSet 3 (eK (.int 0))) (sSeq (sFor [4] (iRow (eVar 1)) w__law_lack_k30_0) (sRet (eBin fSub (eVar 3) (eUn fLen (eComp [6] (iRow (eVar 0)) (tAnd (tB (eBin fIn (eBin fIx (eVar 6) (eK (.int 1))) (eVar 2))) (tB (eBin fNotIn (eBin fIx (eVar 6) (eK (.int 0))) (eVar 2)))) (eVar 6)))))))
def φ__law_lack_k30 : Fn := runBody b__law_lack_k30 7
/-! _law_is_number_k30 -/
abbrev b__law_is_number_k30 : SC := (sSeq (sIf (tOr (tNot (tB (eUn (fIsI .int) (eVar 0)))) (tB (eUn (fIsI .bool) (eVar 0)))) (sRet (eK (.bool false))) sPass) (sRet (eChain fLe fLe (eVar 1) (eVar 0) (eVar 2))))
def φ__law_is_number_k30 : Fn := runBody b__law_is_number_k30 3
/-! _law_is_choice_k31 -/
abbrev w__law_is_choice_k31_0 : SC := (sSeq (sIf (tOr (tNot (tB (eUn (fIsI .int) (eVar 4)))) (tOr (tB (eUn (fIsI .bool) (eVar 4))) (tOr (tB (eBin fLe (eVar 4) (eVar 3))) (tB (eBin fGt (eVar 4) (eVar 2)))))) (sRet (eK (.bool false))) sPass) (sSet 3 (eVar 4)))
abbrev b__law_is_choice_k31 : SC := (sSeq (sIf (tNot (tB (eUn (fIsIs [.list, .tuple]) (eVar 0)))) (sRet (eK (.bool false))) sPass) (sSeq (sSet 3 (eBin fSub (eVar 1) (eK (.int 1)))) (sSeq (sFor [4] (iRow (eVar 0)) w__law_is_choice_k31_0) (sRet (eK (.bool true))))))
def φ__law_is_choice_k31 : Fn := runBody b__law_is_choice_k31 5
/-! _law_with_k31 -/
abbrev b__law_with_k31 : SC := (sSeq (sSet 3 (eComp [4] (iRow (eVar 0)) tYes (eUn fList (eVar 4)))) (sSeq (sPut (eVar 3) (eVar 1) (eVar 2)) (sRet (eVar 3))))
def φ__law_with_k31 : Fn := runBody b__law_with_k31 5
/-! _law_is_number_k33 -/
abbrev b__law_is_number_k33 : SC := (sSeq (sIf (tOr (tNot (tB (eUn (fIsI .int) (eVar 0)))) (tB (eUn (fIsI .bool) (eVar 0)))) (sRet (eK (.bool false))) sPass) (sRet (eChain fLe fLe (eVar 1) (eVar 0) (eVar 2))))
def φ__law_is_number_k33 : Fn := runBody b__law_is_number_k33 3
/-! _law_name_k34 -/
abbrev w__law_name_k34_0 : SC := (sSeq (sFrzL 1 (sSet 1 (eBin fAdd (eVar 1) (eBin fIx (eK (.str "abcdefghijklmnopqrstuvwxyz")) (eBin fMod (eUn fInt (eVar 2)) (eK (.int 26))))))) (sSet 2 (eBin fDiv (eVar 2) (eK (.int 26)))))
abbrev b__law_name_k34 : SC := (sSeq (sSet 1 (eK (.str ""))) (sSeq (sSet 2 (eBin fDiv (eVar 0) (eK (.int 8)))) (sSeq (sFor [3] (iRng1 (eBin fAdd (eK (.int 1)) (eBin fMod (eUn fInt (eVar 0)) (eK (.int 8))))) w__law_name_k34_0) (sRet (eVar 1)))))
def φ__law_name_k34 : Fn := runBody b__law_name_k34 4
/-! _law_changes_k34 -/
abbrev w__law_changes_k34_0 : SC := (sIf (tB (eBin fEq (eBin fMod (eUn fInt (eBin fIx (eVar 3) (eVar 6))) (eBin fAdd (eVar 4) (eK (.int 2)))) (eK (.int 0)))) (sSeq (sSet 7 (eUn fInt (eBin fIx (eVar 3) (eBin fAdd (eK (.int 14)) (eVar 6))))) (sIf (tB (eBin fLt (eVar 7) (eK (.int 200)))) (sApp (eVar 5) (eTup [(eBin fIx (eVar 1) (eVar 6)), (eK .none)])) (sIf (tB (eBin fLt (eVar 7) (eK (.int 500)))) (sApp (eVar 5) (eTup [(eBin fIx (eVar 1) (eVar 6)), (eBin fMod (eUn fInt (eVar 7)) (eK (.int 3)))])) (sApp (eVar 5) (eTup [(eBin fIx (eVar 1) (eVar 6)), (eBin fAdd (eBin fMul (eBin fSub (eVar 7) (eK (.int 500))) (eK (.int 2))) (eBin fMod (eBin fDiv (eUn fInt (eBin fIx (eVar 3) (eVar 6))) (eK (.int 6))) (eK (.int 2))))]))))) sPass)
abbrev b__law_changes_k34 : SC := (sSeq (sSet 3 (eCall φ__law_row_k27 [(eCall φ__law_cell_k27 [(eVar 0), (eBin fAdd (eK (.int 20)) (eBin fMod (eUn fInt (eVar 2)) (eK (.int 20))))]), (eBin fAdd (eK (.int 20)) (eVar 2)), (eK (.int 28)), (eK (.int 1000))])) (sSeq (sSet 4 (eBin fMod (eBin fDiv (eUn fInt (eCall φ__law_cell_k27 [(eVar 0), (eK (.int 1))])) (eK (.int 2))) (eK (.int 3)))) (sSeq (sSet 5 (eLst [])) (sSeq (sFor [6] (iRng1 (eUn fLen (eVar 1))) w__law_changes_k34_0) (sFrz 5 (sRet (eUn fTuple (eVar 5))))))))
def φ__law_changes_k34 : Fn := runBody b__law_changes_k34 8
/-! _law_exact_k34 -/
abbrev w__law_exact_k34_0 (φ__law_exact_k34 : Fn) : SC := (sIf (tNot (tB (eCall φ__law_exact_k34 [(eBin fIx (eVar 0) (eVar 2)), (eBin fIx (eVar 1) (eVar 2))]))) (sRet (eK (.bool false))) sPass)
abbrev b__law_exact_k34 (φ__law_exact_k34 : Fn) : SC := (sSeq (sIf (tB (eUn (fIsIs [.list, .tuple]) (eVar 1))) (sSeq (sIf (tOr (tB (eBin fNe (eUn (fIsI .list) (eVar 0)) (eUn (fIsI .list) (eVar 1)))) (tB (eBin fNe (eUn (fIsI .tuple) (eVar 0)) (eUn (fIsI .tuple) (eVar 1))))) (sRet (eK (.bool false))) sPass) (sSeq (sIf (tB (eBin fNe (eUn fLen (eVar 0)) (eUn fLen (eVar 1)))) (sRet (eK (.bool false))) sPass) (sSeq (sFor [2] (iRng1 (eUn fLen (eVar 1))) (w__law_exact_k34_0 φ__law_exact_k34)) (sRet (eK (.bool true)))))) sPass) (sSeq (sIf (tB (eUn fIsN (eVar 1))) (sRet (eUn fIsN (eVar 0))) sPass) (sSeq (sIf (tB (eUn (fIsI .str) (eVar 1))) (sRet (eAnd (eUn (fIsI .str) (eVar 0)) (eBin fEq (eVar 0) (eVar 1)))) sPass) (sRet (eAnd (eUn (fIsI .int) (eVar 0)) (eAnd (eUn fNot (eUn (fIsI .bool) (eVar 0))) (eBin fEq (eVar 0) (eVar 1))))))))
def φ__law_exact_k34_n : Nat → Fn
  | 0 => fun _ => .stuck
  | n + 1 => runBody (b__law_exact_k34 (φ__law_exact_k34_n n)) 3
def φ__law_exact_k34 : Fn := φ__law_exact_k34_n 12
/-! _law_worth_k34 -/
abbrev w__law_worth_k34_0 : SC := (sIf (tB (eBin fEq (eBin fIx (eVar 2) (eK (.int 0))) (eVar 1))) (sRet (eBin fIx (eVar 2) (eK (.int 1)))) sPass)
abbrev b__law_worth_k34 : SC := (sSeq (sFor [2] (iRow (eVar 0)) w__law_worth_k34_0) (sRet (eK .none)))
def φ__law_worth_k34 : Fn := runBody b__law_worth_k34 3
/-! _law_near_k34 -/
abbrev w__law_near_k34_0 : SC := (sIf (tAnd (tB (eBin fEq (eBin fIx (eVar 4) (eK (.int 4))) (eK (.str "held")))) (tAnd (tB (eBin fIn (eBin fIx (eVar 4) (eK (.int 0))) (eVar 2))) (tB (eBin fNotIn (eBin fIx (eVar 4) (eK (.int 1))) (eVar 2))))) (sApp (eVar 2) (eBin fIx (eVar 4) (eK (.int 1)))) sPass)
abbrev w__law_near_k34_1 : SC := (sFor [4] (iRow (eVar 1)) w__law_near_k34_0)
abbrev b__law_near_k34 : SC := (sSeq (sSet 2 (eLst [(eK (.int 0))])) (sSeq (sIf (tB (eBin fGt (eUn fLen (eVar 0)) (eK (.int 0)))) (sApp (eVar 2) (eUn fLen (eVar 0))) sPass) (sSeq (sFor [3] (iRng1 (eUn fLen (eVar 0))) w__law_near_k34_1) (sFrz 2 (sRet (eUn fSorted (eVar 2)))))))
def φ__law_near_k34 : Fn := runBody b__law_near_k34 5
/-! _law_number_k37 -/
abbrev b__law_number_k37 : SC := (sSeq (sIf (tOr (tB (eBin fEq (eUn fLen (eVar 0)) (eK (.int 0)))) (tOr (tB (eBin fGt (eUn fLen (eVar 0)) (eK (.int 3)))) (tAnd (tB (eBin fEq (eBin fIx (eVar 0) (eK (.int 0))) (eK (.str "0")))) (tB (eBin fNe (eVar 0) (eK (.str "0"))))))) (sRet (eK .none)) sPass) (sSeq (sIf (tB (eBin fGt (eUn fLen (eComp [1] (iRow (eVar 0)) (tB (eBin fNotIn (eVar 1) (eK (.str "0123456789")))) (eVar 1))) (eK (.int 0)))) (sRet (eK .none)) sPass) (sRet (eUn fInt (eVar 0)))))
def φ__law_number_k37 : Fn := runBody b__law_number_k37 2
/-! _law_changes_k38 -/
abbrev w__law_changes_k38_0 : SC := (sIf (tB (eBin fEq (eBin fMod (eUn fInt (eBin fIx (eVar 3) (eVar 6))) (eBin fAdd (eVar 4) (eK (.int 2)))) (eK (.int 0)))) (sSeq (sSet 7 (eUn fInt (eBin fIx (eVar 3) (eBin fAdd (eK (.int 14)) (eVar 6))))) (sIf (tB (eBin fLt (eVar 7) (eK (.int 200)))) (sApp (eVar 5) (eTup [(eBin fIx (eVar 1) (eVar 6)), (eK .none)])) (sIf (tB (eBin fLt (eVar 7) (eK (.int 500)))) (sApp (eVar 5) (eTup [(eBin fIx (eVar 1) (eVar 6)), (eBin fMod (eUn fInt (eVar 7)) (eK (.int 3)))])) (sApp (eVar 5) (eTup [(eBin fIx (eVar 1) (eVar 6)), (eBin fAdd (eBin fMul (eBin fSub (eVar 7) (eK (.int 500))) (eK (.int 2))) (eBin fMod (eBin fDiv (eUn fInt (eBin fIx (eVar 3) (eVar 6))) (eK (.int 6))) (eK (.int 2))))]))))) sPass)
abbrev b__law_changes_k38 : SC := (sSeq (sSet 3 (eCall φ__law_row_k27 [(eCall φ__law_cell_k27 [(eVar 0), (eBin fAdd (eK (.int 20)) (eBin fMod (eUn fInt (eVar 2)) (eK (.int 20))))]), (eBin fAdd (eK (.int 20)) (eVar 2)), (eK (.int 28)), (eK (.int 1000))])) (sSeq (sSet 4 (eBin fMod (eBin fDiv (eUn fInt (eCall φ__law_cell_k27 [(eVar 0), (eK (.int 40))])) (eK (.int 2))) (eK (.int 3)))) (sSeq (sSet 5 (eLst [])) (sSeq (sFor [6] (iRng1 (eUn fLen (eVar 1))) w__law_changes_k38_0) (sFrz 5 (sRet (eUn fTuple (eVar 5))))))))
def φ__law_changes_k38 : Fn := runBody b__law_changes_k38 8
/-! _law_merge_of_k38 -/
abbrev w__law_merge_of_k38_0 : SC := (sSeq (sSet 3 (eBin fMod (eUn fInt (eBin fAdd (eUn fInt (eBin fIx (eVar 0) (eK (.int 0)))) (eVar 2))) (eUn fLen (eVar 1)))) (sSeq (sSet 4 (eComp [5] (iRng1 (eUn fLen (eVar 1))) (tAnd (tB (eBin fEq (eBin fIx (eBin fIx (eVar 1) (eVar 5)) (eK (.int 0))) (eBin fIx (eBin fIx (eVar 1) (eVar 3)) (eK (.int 1))))) (tB (eBin fNe (eBin fIx (eBin fIx (eVar 1) (eVar 5)) (eK (.int 1))) (eBin fIx (eBin fIx (eVar 1) (eVar 3)) (eK (.int 0)))))) (eVar 5))) (sIf (tB (eBin fGt (eUn fLen (eVar 4)) (eK (.int 0)))) (sFrzL 4 (sRet (eTup [(eVar 3), (eBin fIx (eVar 4) (eBin fMod (eUn fInt (eBin fIx (eVar 0) (eK (.int 1)))) (eUn fLen (eVar 4))))]))) sPass)))
abbrev b__law_merge_of_k38 : SC := (sSeq (sFor [2] (iRng1 (eUn fLen (eVar 1))) w__law_merge_of_k38_0) (sRet (eK .none)))
def φ__law_merge_of_k38 : Fn := runBody b__law_merge_of_k38 6
/-! _law_made_k38 -/
abbrev w__law_made_k38_0 : SC := (sSeq (sSet 8 (eBin fMul (eBin fSub (eVar 7) (eK (.int 1))) (eUn fInt (eBin fGt (eBin fMod (eUn fInt (eBin fIx (eVar 6) (eBin fSub (eBin fAdd (eK (.int 30)) (eVar 7)) (eK (.int 1))))) (eK (.int 3))) (eK (.int 0)))))) (sSeq (sApp (eVar 4) (eTup [(eK (.str "day")), (eCall φ__law_changes_k38 [(eVar 0), (eVar 1), (eVar 7)])])) (sSeq (sApp (eVar 5) (eTup [(eVar 8), (eVar 7), (eBin fMod (eUn fInt (eBin fIx (eVar 6) (eVar 7))) (eK (.int 8))), (eK (.str "held"))])) (sApp (eVar 4) (eTup [(eK (.str "copy")), (eVar 8), (eVar 7), (eBin fMod (eUn fInt (eBin fIx (eVar 6) (eVar 7))) (eK (.int 8)))])))))
abbrev w__law_made_k38_1 : SC := (sIf (tB (eBin fLt (eUn fLen (eVar 5)) (eK (.int 28)))) (sSeq (sSet 12 (eBin fMod (eUn fInt (eBin fIx (eVar 6) (eUn fLen (eVar 5)))) (eK (.int 8)))) (sSeq (sApp (eVar 5) (eTup [(eBin fIx (eVar 11) (eK (.int 0))), (eBin fIx (eVar 11) (eK (.int 1))), (eVar 12), (eK (.str "held"))])) (sApp (eVar 4) (eTup [(eK (.str "copy")), (eBin fIx (eVar 11) (eK (.int 0))), (eBin fIx (eVar 11) (eK (.int 1))), (eVar 12)])))) sPass)
abbrev w__law_made_k38_2 : SC := (sSeq (sSet 10 (eCall φ__law_row_k27 [(eCall φ__law_cell_k27 [(eVar 0), (eBin fAdd (eK (.int 14)) (eVar 9))]), (eBin fAdd (eK (.int 14)) (eVar 9)), (eK (.int 20)), (eK (.int 1000))])) (sFrz 10 (sFor [11] (iRow (eCall φ__law_tree_k29 [(eVar 10), (eVar 2), (eBin fIx (eVar 3) (eVar 9))])) w__law_made_k38_1)))
abbrev w__law_made_k38_3 : SC := (sSeq (sFrzL 10 (sSet 14 (eCall φ__law_merge_of_k38 [(eSlice (eVar 10) (some (eBin fMul (eK (.int 2)) (eVar 13))) none), (eVar 5)]))) (sIf (tB (eUn fNotN (eVar 14))) (sSeq (sApp (eVar 5) (eTup [(eBin fIx (eBin fIx (eVar 5) (eBin fIx (eVar 14) (eK (.int 0)))) (eK (.int 0))), (eBin fIx (eBin fIx (eVar 5) (eBin fIx (eVar 14) (eK (.int 1)))) (eK (.int 1))), (eVar 13), (eK (.str "held"))])) (sFrzL 14 (sApp (eVar 4) (eTup [(eK (.str "merge")), (eBin fIx (eVar 14) (eK (.int 0))), (eBin fIx (eVar 14) (eK (.int 1))), (eVar 13)])))) sPass))
abbrev b__law_made_k38 : SC := (sSeq (sSet 4 (eLst [])) (sSeq (sSet 5 (eLst [])) (sSeq (sSet 6 (eCall φ__law_row_k27 [(eCall φ__law_cell_k27 [(eVar 0), (eK (.int 4))]), (eK (.int 4)), (eK (.int 40)), (eK (.int 1000))])) (sSeq (sFor [7] (iRng2 (eK (.int 1)) (eBin fAdd (eVar 2) (eK (.int 1)))) w__law_made_k38_0) (sSeq (sFor [9] (iRng2 (eK (.int 1)) (eUn fLen (eVar 3))) w__law_made_k38_2) (sSeq (sSet 10 (eCall φ__law_row_k27 [(eCall φ__law_cell_k27 [(eVar 0), (eK (.int 5))]), (eK (.int 5)), (eK (.int 6)), (eK (.int 1000))])) (sSeq (sFor [13] (iRng1 (eBin fMod (eUn fInt (eCall φ__law_cell_k27 [(eVar 0), (eK (.int 6))])) (eK (.int 3)))) w__law_made_k38_3) (sFrz 5 (sFrz 4 (sRet (eLst [(eVar 4), (eVar 5)])))))))))))
def φ__law_made_k38 : Fn := runBody b__law_made_k38 15
/-! _law_lessened_k38 -/
abbrev w__law_lessened_k38_0 : SC := (sSeq (sFrz 6 (sSet 5 (eComp [6] (iRng1 (eUn fLen (eVar 2))) (tB (eBin fEq (eBin fIx (eBin fIx (eVar 2) (eVar 6)) (eK (.int 3))) (eK (.str "held")))) (eVar 6)))) (sIf (tB (eBin fGt (eUn fLen (eVar 5)) (eK (.int 0)))) (sSeq (sFrzL 5 (sSet 6 (eBin fIx (eVar 5) (eBin fMod (eUn fInt (eBin fIx (eVar 3) (eVar 4))) (eUn fLen (eVar 5)))))) (sSeq (sFrz 6 (sApp (eVar 1) (eTup [(eK (.str "drop")), (eVar 6)]))) (sPut (eVar 2) (eVar 6) (eTup [(eBin fIx (eBin fIx (eVar 2) (eVar 6)) (eK (.int 0))), (eBin fIx (eBin fIx (eVar 2) (eVar 6)) (eK (.int 1))), (eBin fIx (eBin fIx (eVar 2) (eVar 6)) (eK (.int 2))), (eK (.str "dropped"))])))) sPass))
abbrev w__law_lessened_k38_1 : SC := (sIf (tAnd (tB (eBin fEq (eBin fIx (eBin fIx (eVar 2) (eVar 6)) (eK (.int 2))) (eVar 7))) (tB (eBin fEq (eBin fIx (eBin fIx (eVar 2) (eVar 6)) (eK (.int 3))) (eK (.str "held"))))) (sPut (eVar 2) (eVar 6) (eTup [(eBin fIx (eBin fIx (eVar 2) (eVar 6)) (eK (.int 0))), (eBin fIx (eBin fIx (eVar 2) (eVar 6)) (eK (.int 1))), (eVar 7), (eK (.str "lost"))])) sPass)
abbrev b__law_lessened_k38 : SC := (sSeq (sSet 3 (eCall φ__law_row_k27 [(eCall φ__law_cell_k27 [(eVar 0), (eK (.int 7))]), (eK (.int 7)), (eK (.int 8)), (eK (.int 1000))])) (sSeq (sFor [4] (iRng1 (eBin fIx (eLst [(eK (.int 0)), (eK (.int 1)), (eK (.int 2)), (eK (.int 0)), (eK (.int 3)), (eK (.int 1)), (eK (.int 0)), (eK (.int 6))]) (eBin fMod (eUn fInt (eCall φ__law_cell_k27 [(eVar 0), (eK (.int 8))])) (eK (.int 8))))) w__law_lessened_k38_0) (sIf (tB (eBin fEq (eBin fMod (eBin fDiv (eUn fInt (eCall φ__law_cell_k27 [(eVar 0), (eK (.int 8))])) (eK (.int 8))) (eK (.int 4))) (eK (.int 1)))) (sSeq (sSet 7 (eBin fMod (eUn fInt (eBin fIx (eVar 3) (eK (.int 7)))) (eK (.int 8)))) (sSeq (sApp (eVar 1) (eTup [(eK (.str "lose")), (eVar 7)])) (sFor [6] (iRng1 (eUn fLen (eVar 2))) w__law_lessened_k38_1))) sPass)))
def φ__law_lessened_k38 : Fn := runBody b__law_lessened_k38 8
/-! _law_cell_k40 -/
abbrev b__law_cell_k40 : SC := (sSeq (sIf (tB (eBin fLt (eVar 1) (eUn fLen (eVar 0)))) (sRet (eBin fIx (eVar 0) (eVar 1))) sPass) (sSeq (sIf (tB (eBin fEq (eUn fLen (eVar 0)) (eK (.int 0)))) (sRet (eBin fMul (eK (.int 7919)) (eVar 1))) sPass) (sRet (eBin fAdd (eBin fMod (eUn fInt (eBin fIx (eVar 0) (eBin fMod (eUn fInt (eVar 1)) (eUn fLen (eVar 0))))) (eK (.int 1000003))) (eBin fMul (eK (.int 7919)) (eVar 1))))))
def φ__law_cell_k40 : Fn := runBody b__law_cell_k40 2
/-! _law_row_k40 -/
abbrev w__law_row_k40_0 : SC := (sIf (tB (eBin fGe (eVar 0) (eBin fPow (eK (.int 10)) (eK (.int 18))))) (sSeq (sApp (eVar 3) (eBin fMod (eUn fInt (eVar 4)) (eVar 2))) (sSet 4 (eBin fDiv (eVar 4) (eVar 2)))) (sSeq (sSet 6 (eBin fMod (eUn fInt (eBin fAdd (eBin fAdd (eBin fMul (eBin fMod (eUn fInt (eVar 0)) (eK (.int 2147483647))) (eK (.int 48271))) (eBin fMul (eVar 5) (eK (.int 69621)))) (eK (.int 11)))) (eK (.int 2147483647)))) (sSeq (sSet 6 (eBin fMod (eUn fInt (eBin fAdd (eBin fAdd (eBin fMul (eVar 6) (eVar 6)) (eBin fMul (eK (.int 13)) (eVar 5))) (eK (.int 5)))) (eK (.int 2147483629)))) (sApp (eVar 3) (eBin fMod (eBin fMod (eUn fInt (eBin fAdd (eBin fMul (eVar 6) (eBin fAdd (eVar 6) (eK (.int 7)))) (eVar 5))) (eK (.int 2147483587))) (eVar 2))))))
abbrev b__law_row_k40 : SC := (sSeq (sSet 3 (eLst [])) (sSeq (sSet 4 (eUn fInt (eVar 0))) (sSeq (sFor [5] (iRng1 (eVar 1)) w__law_row_k40_0) (sRet (eVar 3)))))
def φ__law_row_k40 : Fn := runBody b__law_row_k40 7
/-! _law_is_number_k40 -/
abbrev b__law_is_number_k40 : SC := (sRet (eAnd (eUn (fIsI .int) (eVar 0)) (eUn fNot (eUn (fIsI .bool) (eVar 0)))))
def φ__law_is_number_k40 : Fn := runBody b__law_is_number_k40 1
/-! _law_are_numbers_k40 -/
abbrev w__law_are_numbers_k40_0 : SC := (sIf (tOr (tNot (tB (eCall φ__law_is_number_k40 [(eBin fIx (eVar 0) (eVar 2))]))) (tB (eBin fNe (eBin fIx (eVar 0) (eVar 2)) (eBin fIx (eVar 1) (eVar 2))))) (sRet (eK (.bool false))) sPass)
abbrev b__law_are_numbers_k40 : SC := (sSeq (sIf (tOr (tNot (tB (eUn (fIsI .list) (eVar 0)))) (tB (eBin fNe (eUn fLen (eVar 0)) (eUn fLen (eVar 1))))) (sRet (eK (.bool false))) sPass) (sSeq (sFor [2] (iRng1 (eUn fLen (eVar 1))) w__law_are_numbers_k40_0) (sRet (eK (.bool true)))))
def φ__law_are_numbers_k40 : Fn := runBody b__law_are_numbers_k40 3
/-! _law_base_k41 -/
abbrev w__law_base_k41_0 : SC := (sIf (tB (eBin fLt (eBin fIx (eVar 0) (eBin fSub (eVar 3) (eK (.int 1)))) (eBin fIx (eVar 0) (eBin fSub (eVar 1) (eK (.int 1)))))) (sSet 2 (eVar 3)) sPass)
abbrev b__law_base_k41 : SC := (sSeq (sSet 2 (eK (.int 0))) (sSeq (sFor [3] (iRng2 (eK (.int 1)) (eVar 1)) w__law_base_k41_0) (sRet (eVar 2))))
def φ__law_base_k41 : Fn := runBody b__law_base_k41 4
/-! _law_chain_k41 -/
abbrev w__law_chain_k41_0 : SC := (sIf (tB (eBin fGt (eVar 3) (eK (.int 0)))) (sSeq (sFrz 3 (sFrzL 2 (sSet 2 (eBin fAdd (eLst [(eVar 3)]) (eVar 2))))) (sFrz 3 (sSet 3 (eCall φ__law_base_k41 [(eVar 0), (eVar 3)])))) sPass)
abbrev b__law_chain_k41 : SC := (sSeq (sSet 2 (eLst [])) (sSeq (sSet 3 (eVar 1)) (sSeq (sFor [4] (iRng1 (eUn fLen (eVar 0))) w__law_chain_k41_0) (sRet (eVar 2)))))
def φ__law_chain_k41 : Fn := runBody b__law_chain_k41 5
/-! _law_power_k48 -/
abbrev b__law_power_k48 : SC := (sRet (eBin fIx (eLst [(eK (.int 1)), (eK (.int 2)), (eK (.int 4)), (eK (.int 8)), (eK (.int 16)), (eK (.int 32)), (eK (.int 64)), (eK (.int 128)), (eK (.int 256))]) (eVar 0)))
def φ__law_power_k48 : Fn := runBody b__law_power_k48 1
/-! _law_mask_k48 -/
abbrev b__law_mask_k48 : SC := (sRet (eUn fSum (eComp [1] (iRow (eVar 0)) tYes (eCall φ__law_power_k48 [(eVar 1)]))))
def φ__law_mask_k48 : Fn := runBody b__law_mask_k48 2
/-! _law_terms_k50 -/
abbrev b__law_terms_k50 : SC := (sRet (eTup [(eBin fAdd (eK (.int 1)) (eBin fMod (eBin fIx (eVar 0) (eK (.int 0))) (eK (.int 4)))), (eBin fAdd (eK (.int 1)) (eBin fMod (eBin fIx (eVar 0) (eK (.int 1))) (eK (.int 3)))), (eBin fMod (eBin fIx (eVar 0) (eK (.int 2))) (eK (.int 5)))]))
def φ__law_terms_k50 : Fn := runBody b__law_terms_k50 1
/-! _law_are_copies_k50 -/
abbrev w__law_are_copies_k50_0 : SC := (sIf (tOr (tNot (tB (eUn (fIsI .tuple) (eVar 2)))) (tB (eBin fGt (eUn fLen (eComp [3] (iRow (eVar 2)) (tNot (tB (eCall φ__law_is_number_k40 [(eVar 3)]))) (eVar 3))) (eK (.int 0))))) (sRet (eK (.bool false))) sPass)
abbrev b__law_are_copies_k50 : SC := (sSeq (sIf (tOr (tNot (tB (eUn (fIsI .list) (eVar 0)))) (tB (eBin fNe (eUn fLen (eVar 0)) (eUn fLen (eVar 1))))) (sRet (eK (.bool false))) sPass) (sSeq (sFor [2] (iRow (eVar 0)) w__law_are_copies_k50_0) (sRet (eBin fEq (eVar 0) (eVar 1)))))
def φ__law_are_copies_k50 : Fn := runBody b__law_are_copies_k50 4
/-! _law_within_k52 -/
abbrev b__law_within_k52 : SC := (sRet (eBin fEq (eUn fLen (eComp [2] (iRow (eVar 0)) (tB (eBin fNotIn (eVar 2) (eVar 1))) (eVar 2))) (eK (.int 0))))
def φ__law_within_k52 : Fn := runBody b__law_within_k52 3
/-! _law_inside_k52 -/
abbrev w__law_inside_k52_0 : SC := (sIf (tAnd (tB (eBin fGt (eUn fLen (eVar 2)) (eUn fLen (eVar 0)))) (tB (eCall φ__law_within_k52 [(eVar 0), (eVar 2)]))) (sRet (eK (.bool true))) sPass)
abbrev b__law_inside_k52 : SC := (sSeq (sFor [2] (iRow (eVar 1)) w__law_inside_k52_0) (sRet (eK (.bool false))))
def φ__law_inside_k52 : Fn := runBody b__law_inside_k52 3
/-! _law_draw_windows_k52 -/
abbrev w__law_draw_windows_k52_0 : SC := (sSeq (sSet 6 (eBin fMod (eBin fIx (eVar 1) (eBin fAdd (eBin fAdd (eVar 2) (eK (.int 1))) (eBin fMul (eK (.int 2)) (eVar 5)))) (eBin fIx (eLst [(eK (.int 8)), (eBin fAdd (eBin fIx (eVar 0) (eK (.int 2))) (eK (.int 1))), (eBin fAdd (eBin fIx (eVar 0) (eK (.int 2))) (eK (.int 2)))]) (eBin fMod (eBin fDiv (eBin fIx (eVar 1) (eVar 2)) (eK (.int 7))) (eK (.int 3)))))) (sSeq (sFrzL 6 (sSet 7 (eBin fMod (eBin fIx (eVar 1) (eBin fAdd (eBin fAdd (eVar 2) (eK (.int 2))) (eBin fMul (eK (.int 2)) (eVar 5)))) (eBin fAdd (eVar 6) (eK (.int 1)))))) (sSeq (sIf (tAnd (tB (eBin fNe (eBin fMod (eBin fDiv (eBin fIx (eVar 1) (eVar 2)) (eK (.int 21))) (eK (.int 4))) (eK (.int 0)))) (tB (eBin fGt (eUn fLen (eVar 3)) (eK (.int 0))))) (sSeq (sSet 8 (eBin fIx (eVar 3) (eBin fMod (eBin fIx (eVar 1) (eBin fAdd (eBin fAdd (eVar 2) (eK (.int 1))) (eBin fMul (eK (.int 2)) (eVar 5)))) (eUn fLen (eVar 3))))) (sSeq (sFrzL 8 (sSet 6 (eBin fMin (eK (.int 7)) (eBin fAdd (eVar 8) (eBin fMod (eBin fIx (eVar 1) (eBin fAdd (eBin fAdd (eVar 2) (eK (.int 2))) (eBin fMul (eK (.int 2)) (eVar 5)))) (eK (.int 3))))))) (sFrzL 8 (sSet 7 (eBin fSub (eVar 8) (eBin fMod (eBin fDiv (eBin fIx (eVar 1) (eBin fAdd (eBin fAdd (eVar 2) (eK (.int 2))) (eBin fMul (eK (.int 2)) (eVar 5)))) (eK (.int 3))) (eBin fAdd (eVar 8) (eK (.int 1))))))))) sPass) (sFrz 6 (sApp (eVar 4) (eTup [(eVar 7), (eVar 6)]))))))
abbrev b__law_draw_windows_k52 : SC := (sSeq (sSet 4 (eLst [])) (sSeq (sFor [5] (iRng1 (eBin fIx (eLst [(eK (.int 0)), (eK (.int 1)), (eK (.int 1)), (eK (.int 2)), (eK (.int 2)), (eK (.int 3)), (eK (.int 4))]) (eBin fMod (eBin fIx (eVar 1) (eVar 2)) (eK (.int 7))))) w__law_draw_windows_k52_0) (sRet (eVar 4))))
def φ__law_draw_windows_k52 : Fn := runBody b__law_draw_windows_k52 9
/-! _law_draw_terms_k54 -/
abbrev b__law_draw_terms_k54 : SC := (sSeq (sIf (tB (eBin fEq (eBin fMod (eBin fIx (eVar 0) (eK (.int 0))) (eK (.int 24))) (eK (.int 0)))) (sRet (eTup [(eK (.int 4)), (eK (.int 1)), (eK (.int 4))])) sPass) (sSeq (sSet 1 (eBin fAdd (eK (.int 1)) (eBin fMod (eBin fIx (eVar 0) (eK (.int 0))) (eK (.int 4))))) (sSeq (sSet 2 (eBin fAdd (eK (.int 1)) (eBin fMod (eBin fIx (eVar 0) (eK (.int 1))) (eK (.int 3))))) (sSeq (sIf (tB (eBin fNe (eBin fMod (eBin fDiv (eBin fIx (eVar 0) (eK (.int 1))) (eK (.int 3))) (eK (.int 8))) (eK (.int 0)))) (sFrz 2 (sSet 2 (eBin fMin (eVar 2) (eVar 1)))) sPass) (sRetM [.ev (eVar 1), .mv 2, .ev (eBin fMod (eBin fIx (eVar 0) (eK (.int 2))) (eK (.int 5)))])))))
def φ__law_draw_terms_k54 : Fn := runBody b__law_draw_terms_k54 3
/-! _law_is_int_k56 -/
abbrev b__law_is_int_k56 : SC := (sSeq (sIf (tOr (tNot (tB (eUn (fIsI .int) (eVar 0)))) (tB (eUn (fIsI .bool) (eVar 0)))) (sRet (eK (.bool false))) sPass) (sRet (eChain fLe fLe (eVar 1) (eVar 0) (eVar 2))))
def φ__law_is_int_k56 : Fn := runBody b__law_is_int_k56 3
end PR

set_option Elab.async false
set_option linter.all false
set_option maxRecDepth 100000
set_option maxHeartbeats 4000000
namespace K02
open PySem PySem.Spec PyProof.Rows L2 VL PR
def ecls : List Str := ["BadChoice", "BadHouse", "TooMany"]
def eys : List Str := ["BadChoice", "VaultError", "BadHouse"]
def eflds : List Str := ["at"]
def esub : Str → Str → Option Bool := subOf ecls eys
/-! _law_days -/
abbrev b__law_days : SC := (sSeq (sSet 2 (eCall φ__law_row_k01 [(eVar 0), (eK (.int 12)), (eK (.int 60))])) (sSeq (sSet 3 (eBin fMod (eUn fInt (eBin fIx (eVar 2) (eK (.int 0)))) (eK (.int 5)))) (sSeq (sIf (tB (eBin fEq (eVar 3) (eK (.int 0)))) (sRet (eLst [])) sPass) (sSeq (sIf (tB (eBin fEq (eVar 3) (eK (.int 1)))) (sRet (eLst [(eBin fAdd (eK (.int 1)) (eBin fMod (eUn fInt (eBin fIx (eVar 2) (eK (.int 1)))) (eVar 1)))])) sPass) (sSeq (sIf (tB (eBin fEq (eVar 3) (eK (.int 2)))) (sRet (eBin fLRng2 (eK (.int 1)) (eBin fAdd (eVar 1) (eK (.int 1))))) sPass) (sRet (eComp [4] (iRng2 (eK (.int 1)) (eBin fAdd (eVar 1) (eK (.int 1)))) (tB (eBin fEq (eBin fMod (eUn fInt (eBin fIx (eVar 2) (eBin fAdd (eK (.int 1)) (eVar 4)))) (eK (.int 2))) (eK (.int 1)))) (eVar 4))))))))
def φ__law_days : Fn := runBody b__law_days 5
/-! _law_spoilt -/
abbrev b__law_spoilt : SC := (sSeq (sSet 3 (eCall φ__law_row_k01 [(eVar 1), (eK (.int 3)), (eK (.int 990))])) (sSeq (sSet 4 (eLst [(eK .none), (eK (.bool true)), (eK (.bool false)), (eUn fNeg (eK (.int 1))), (eK (.int 0)), (eK (.int 1)), (eVar 2), (eBin fAdd (eVar 2) (eK (.int 1))), (eBin fPow (eK (.int 10)) (eK (.int 12))), (eK (.str "1")), (eK (.str "")), (eLst []), (eLst [(eK (.int 0))]), (eTup [(eK (.int 1))])])) (sSeq (sFrzL 4 (sSet 5 (eBin fIx (eVar 4) (eBin fMod (eUn fInt (eBin fIx (eVar 3) (eK (.int 0)))) (eK (.int 14)))))) (sSeq (sSet 6 (eBin fMod (eUn fInt (eBin fIx (eVar 3) (eK (.int 1)))) (eBin fAdd (eUn fLen (eVar 0)) (eK (.int 1))))) (sSeq (sSet 7 (eBin fMod (eUn fInt (eBin fIx (eVar 3) (eK (.int 2)))) (eK (.int 5)))) (sSeq (sIf (tB (eBin fEq (eVar 7) (eK (.int 0)))) (sRet (eVar 5)) sPass) (sSeq (sIf (tB (eBin fEq (eVar 7) (eK (.int 1)))) (sFrz 5 (sRet (eBin fAdd (eBin fAdd (eSlice (eVar 0) none (some (eVar 6))) (eLst [(eVar 5)])) (eSlice (eVar 0) (some (eVar 6)) none)))) sPass) (sSeq (sIf (tAnd (tB (eBin fEq (eVar 7) (eK (.int 2)))) (tB (eBin fLt (eVar 6) (eUn fLen (eVar 0))))) (sFrz 5 (sRet (eBin fAdd (eBin fAdd (eSlice (eVar 0) none (some (eVar 6))) (eLst [(eVar 5)])) (eSlice (eVar 0) (some (eBin fAdd (eVar 6) (eK (.int 1)))) none)))) sPass) (sSeq (sIf (tAnd (tB (eBin fEq (eVar 7) (eK (.int 3)))) (tB (eBin fLt (eVar 6) (eUn fLen (eVar 0))))) (sRet (eBin fAdd (eBin fAdd (eSlice (eVar 0) none (some (eVar 6))) (eLst [(eBin fIx (eVar 0) (eVar 6))])) (eSlice (eVar 0) (some (eVar 6)) none))) sPass) (sRet (eUn fRev (eVar 0))))))))))))
def φ__law_spoilt : Fn := runBody b__law_spoilt 8
/-! _law_due -/
abbrev b__law_due : SC := (sSeq (sSet 4 (eBin fIx (eVar 1) (eK (.int 1)))) (sSeq (sSet 5 (eVar 2)) (sSeq (sIf (tB (eUn fIsN (eVar 2))) (sSet 5 (eUn fLRng1 (eUn fLen (eVar 4)))) sPass) (sSeq (sFrz 5 (sSet 6 (eCall φ__law_fault_k02 [(eVar 5), (eK (.int 0)), (eBin fSub (eUn fLen (eVar 4)) (eK (.int 1)))]))) (sSeq (sIf (tB (eUn fNotN (eVar 6))) (sRetM [.ev (eK (.str "choice")), .mv 6, .ev (eK (.bool true))]) sPass) (sSeq (sIf (tB (eBin fEq (eVar 0) (eK (.int 1)))) (sFrzL 4 (sFrz 5 (sRet (eTup [(eK (.str "good")), (eTup [(eBin fIx (eVar 1) (eK (.int 0))), (eComp [7] (iRow (eVar 5)) tYes (eBin fIx (eVar 4) (eVar 7)))]), (eK (.bool true))])))) sPass) (sSeq (sIf (tB (eBin fEq (eVar 0) (eK (.int 2)))) (sFrzL 4 (sFrz 5 (sRet (eTup [(eK (.str "good")), (eUn fSum (eComp [7] (iRow (eVar 5)) tYes (eBin fIx (eBin fIx (eVar 4) (eVar 7)) (eK (.int 2))))), (eK (.bool true))])))) sPass) (sSeq (sSet 6 (eCall φ__law_fault_k02 [(eVar 3), (eK (.int 1)), (eBin fIx (eVar 1) (eK (.int 0)))])) (sSeq (sIf (tB (eUn fNotN (eVar 6))) (sRetM [.ev (eK (.str "choice")), .mv 6, .ev (eK (.bool true))]) sPass) (sFrz 5 (sRet (eTup [(eK (.str "good")), (eComp [7] (iRow (eVar 5)) (tAnd (tB (eBin fIn (eBin fIx (eBin fIx (eVar 4) (eVar 7)) (eK (.int 1))) (eVar 3))) (tB (eBin fNotIn (eBin fIx (eBin fIx (eVar 4) (eVar 7)) (eK (.int 0))) (eVar 3)))) (eVar 7)), (eK (.bool true))]))))))))))))
def φ__law_due : Fn := runBody b__law_due 8
/-! _law_told -/
abbrev b__law_told : SC := (sTry2 esub (sSeq (sIf (tB (eBin fEq (eVar 0) (eK (.int 0)))) (sRet (eTup [(eK (.str "good")), (eCall φ_entering [(eVar 1), (eVar 2), (eVar 3)]), (eK (.bool true))])) sPass) (sSeq (sIf (tB (eBin fEq (eVar 0) (eK (.int 1)))) (sRet (eTup [(eK (.str "good")), (eCall φ_part_of [(eVar 1), (eVar 2)]), (eK (.bool true))])) sPass) (sRet (eTup [(eK (.str "good")), (eCall φ_total_size [(eVar 1), (eVar 2)]), (eK (.bool true))])))) [⟨"BadChoice", 4, (hsRetT [(fun _ _ => some (.str "choice")), (hFld ecls "at"), (hAnd (hIs esub "VaultError") (hNot (hIs esub "BadHouse")))])⟩])
def φ__law_told : Fn := runBody b__law_told 5
/-! law -/
abbrev w_law_0 : SC := (sSeq (sFrz 4 (sFrz 3 (sFrz 2 (sSet 6 (eCall φ__law_due [(eVar 5), (eVar 2), (eVar 3), (eVar 4)]))))) (sSeq (sFrzL 1 (sFrz 2 (sSet 7 (eCall φ__law_given_k02 [(eVar 2), (eBin fIx (eVar 1) (eBin fAdd (eK (.int 4)) (eVar 5)))])))) (sSeq (sFrz 4 (sFrz 3 (sFrz 7 (sSet 8 (eUn fRepr (eLst [(eVar 7), (eVar 3), (eVar 4)])))))) (sSeq (sFrz 4 (sFrz 3 (sFrz 7 (sSet 9 (eCall φ__law_told [(eVar 5), (eVar 7), (eVar 3), (eVar 4)]))))) (sSeq (sFrz 4 (sFrz 3 (sFrz 7 (sFrz 6 (sIf (tOr (tNot (tB (eCall φ__law_same_k01 [(eVar 9), (eVar 6)]))) (tB (eBin fNeS (eUn fRepr (eLst [(eVar 7), (eVar 3), (eVar 4)])) (eVar 8)))) (sRet (eK (.bool false))) sPass))))) (sSeq (sIf (tAnd (tB (eBin fEq (eVar 5) (eK (.int 0)))) (tB (eBin fEq (eBin fIx (eVar 6) (eK (.int 0))) (eK (.str "good"))))) (sSeq (sTake 10 (eBin fIx (eVar 9) (eK (.int 1)))) (sApp (eVar 10) (eK (.int 0)))) sPass) (sSeq (sIf (tAnd (tB (eBin fEq (eVar 5) (eK (.int 1)))) (tB (eBin fEq (eBin fIx (eVar 6) (eK (.int 0))) (eK (.str "good"))))) (sSeq (sTake 10 (eBin fIx (eBin fIx (eVar 9) (eK (.int 1))) (eK (.int 1)))) (sApp (eVar 10) (eTup [(eK (.int 0)), (eK (.int 1)), (eK (.int 0))]))) sPass) (sFrz 4 (sFrz 3 (sFrz 7 (sFrz 6 (sIf (tOr (tNot (tB (eCall φ__law_same_k01 [(eCall φ__law_told [(eVar 5), (eVar 7), (eVar 3), (eVar 4)]), (eVar 6)]))) (tB (eBin fNeS (eUn fRepr (eLst [(eVar 7), (eVar 3), (eVar 4)])) (eVar 8)))) (sRet (eK (.bool false))) sPass))))))))))))
abbrev b_law : SC := (sSeq (sSet 1 (eCall φ__law_row_k01 [(eCall φ__law_cell_k01 [(eVar 0), (eK (.int 5))]), (eK (.int 8)), (eK (.int 60))])) (sSeq (sSet 2 (eCall φ__law_house_k01 [(eVar 0), (eK (.int 0)), (eK (.int 30))])) (sSeq (sSet 3 (eCall φ__law_kept_k02 [(eCall φ__law_cell_k01 [(eVar 0), (eK (.int 6))]), (eUn fLen (eBin fIx (eVar 2) (eK (.int 1))))])) (sSeq (sFrzL 2 (sSet 4 (eCall φ__law_days [(eCall φ__law_cell_k01 [(eVar 0), (eK (.int 7))]), (eBin fIx (eVar 2) (eK (.int 0)))]))) (sSeq (sIf (tAnd (tB (eBin fEq (eBin fMod (eUn fInt (eBin fIx (eVar 1) (eK (.int 0)))) (eK (.int 4))) (eK (.int 0)))) (tB (eUn fNotN (eVar 3)))) (sFrz 3 (sSet 3 (eCall φ__law_spoilt [(eVar 3), (eCall φ__law_cell_k01 [(eVar 0), (eK (.int 8))]), (eBin fSub (eUn fLen (eBin fIx (eVar 2) (eK (.int 1)))) (eK (.int 1)))]))) sPass) (sSeq (sIf (tB (eBin fEq (eBin fMod (eUn fInt (eBin fIx (eVar 1) (eK (.int 1)))) (eK (.int 4))) (eK (.int 0)))) (sFrzL 2 (sFrz 4 (sSet 4 (eCall φ__law_spoilt [(eVar 4), (eCall φ__law_cell_k01 [(eVar 0), (eK (.int 9))]), (eBin fIx (eVar 2) (eK (.int 0)))])))) sPass) (sSeq (sIf (tAnd (tB (eBin fEq (eBin fMod (eUn fInt (eBin fIx (eVar 1) (eK (.int 2)))) (eK (.int 2))) (eK (.int 1)))) (tB (eUn (fIsI .list) (eVar 3)))) (sFrz 3 (sSet 3 (eUn fTuple (eVar 3)))) sPass) (sSeq (sIf (tAnd (tB (eBin fEq (eBin fMod (eUn fInt (eBin fIx (eVar 1) (eK (.int 3)))) (eK (.int 2))) (eK (.int 1)))) (tB (eUn (fIsI .list) (eVar 4)))) (sFrz 4 (sSet 4 (eUn fTuple (eVar 4)))) sPass) (sSeq (sFor [5] (iRng1 (eK (.int 3))) w_law_0) (sRet (eK (.bool true))))))))))))
def φ_law : Fn := runBody b_law 11
end K02

set_option Elab.async false
set_option linter.all false
set_option maxRecDepth 100000
set_option maxHeartbeats 4000000
namespace PR
open PySem VL
abbrev I (n : Int) : Sl := .own (.fz (.int n))
abbrev Lx (L : List Int) : Sl := .own (.fz (.list (dI L)))
local macro_rules | `(tactic| sizeOf_list_dec) => `(tactic| with_reducible rfl)
local macro_rules | `(tactic| sizeOf_list_dec) => `(tactic| first
  | ((with_reducible apply le_V); sizeOf_list_dec; sizeOf_list_dec) | ((with_reducible apply ne_V); sizeOf_list_dec; sizeOf_list_dec)
  | ((with_reducible apply bin_v); sizeOf_list_dec; sizeOf_list_dec; sizeOf_list_dec)
  | ((with_reducible apply ev_f); exact rfl) | ((with_reducible apply ev_l); exact rfl) | ((with_reducible apply ev_p); exact rfl)
  | with_reducible exact ek_v _ _
  | ((with_reducible apply un_v); sizeOf_list_dec; sizeOf_list_dec)
  | with_reducible exact add_s _ _ | with_reducible exact sub_s _ _ | with_reducible exact int_s _ | with_reducible exact intb_T (by simp; omega) | with_reducible exact intb_F (by simp; omega) | with_reducible exact mod_s _ _ (by omega) | with_reducible exact div_s _ _ (by omega) | with_reducible exact mul_r _ _ (by omega) | with_reducible exact mul_l _ _ (by omega)
  | with_reducible exact ix_r (by omega) | with_reducible exact ix_f (by omega) | with_reducible exact ix_l (by simp only [List.length_cons, List.length_nil]; omega) | with_reducible exact len_I (isI_ref _ _ _) | with_reducible exact len_I (isI_fz _) | with_reducible exact len_I (isI_ls _)
  | with_reducible exact max_s _ _ | with_reducible exact min_s _ _ | with_reducible exact pow_s _ _ (by decide)
  | ((with_reducible apply call_a); sizeOf_list_dec; sizeOf_list_dec)
  | with_reducible exact ArgsE.nil | ((with_reducible apply arg_f); sizeOf_list_dec; sizeOf_list_dec) | ((with_reducible apply arg_l); sizeOf_list_dec; sizeOf_list_dec) | ((with_reducible apply arg_r); sizeOf_list_dec; sizeOf_list_dec)
  | with_reducible exact lst_nil
  | ((with_reducible apply lst_I); sizeOf_list_dec; decide)
  | with_reducible exact IntsE.nil | ((with_reducible apply IntsE.cons); sizeOf_list_dec; sizeOf_list_dec))
local macro_rules | `(tactic| sizeOf_list_dec) => `(tactic| first
  | with_reducible exact p18 _ | with_reducible exact p12 _
  | ((with_reducible apply lt_T); sizeOf_list_dec; sizeOf_list_dec; omega) | ((with_reducible apply lt_F); sizeOf_list_dec; sizeOf_list_dec; omega) | ((with_reducible apply le_T); sizeOf_list_dec; sizeOf_list_dec; omega) | ((with_reducible apply le_F); sizeOf_list_dec; sizeOf_list_dec; omega)
  | ((with_reducible apply gt_T); sizeOf_list_dec; sizeOf_list_dec; omega) | ((with_reducible apply gt_F); sizeOf_list_dec; sizeOf_list_dec; omega) | ((with_reducible apply ge_T); sizeOf_list_dec; sizeOf_list_dec; omega) | ((with_reducible apply ge_F); sizeOf_list_dec; sizeOf_list_dec; omega)
  | ((with_reducible apply eq_T); sizeOf_list_dec; sizeOf_list_dec; omega) | ((with_reducible apply eq_F); sizeOf_list_dec; sizeOf_list_dec; omega) | ((with_reducible apply ne_T); sizeOf_list_dec; sizeOf_list_dec; omega) | ((with_reducible apply ne_F); sizeOf_list_dec; sizeOf_list_dec; omega)
  | ((with_reducible apply not_T); sizeOf_list_dec) | ((with_reducible apply not_F); sizeOf_list_dec)
  | ((with_reducible apply and_T); sizeOf_list_dec; sizeOf_list_dec) | ((with_reducible apply and_F); sizeOf_list_dec; sizeOf_list_dec) | ((with_reducible apply and_f); sizeOf_list_dec)
  | ((with_reducible apply or_t); sizeOf_list_dec) | ((with_reducible apply or_T); sizeOf_list_dec; sizeOf_list_dec) | ((with_reducible apply or_F); sizeOf_list_dec; sizeOf_list_dec))
local macro_rules | `(tactic| sizeOf_list_dec) => `(tactic| first
  | ((with_reducible apply set_w); sizeOf_list_dec; exact rfl) | ((with_reducible apply ret_v); sizeOf_list_dec) | ((with_reducible apply app_w); sizeOf_list_dec; sizeOf_list_dec; exact rfl; omega; exact rfl)
  | ((with_reducible apply seq_r); ((with_reducible apply if_t); sizeOf_list_dec; sizeOf_list_dec)) | ((with_reducible apply seq_n); ((with_reducible apply if_f); sizeOf_list_dec; (with_reducible exact pass_v _)); sizeOf_list_dec)
  | ((with_reducible apply seq_n); sizeOf_list_dec; sizeOf_list_dec)
  | ((with_reducible apply if_t); sizeOf_list_dec; sizeOf_list_dec) | ((with_reducible apply if_f); sizeOf_list_dec; sizeOf_list_dec)
  | ((with_reducible apply frz_id); exact rfl; sizeOf_list_dec) | ((with_reducible apply frz_li); exact rfl; sizeOf_list_dec) | ((with_reducible apply frz_bo); exact rfl; sizeOf_list_dec) | ((with_reducible apply frzL_n); sizeOf_list_dec) | ((with_reducible apply frzL_r); sizeOf_list_dec)
  | (with_reducible exact pass_v _))
theorem mixed_e (c k : Int) : ∃ z, φ__law_mixed_k01 [I c, I k] = .ok (.fz (.int z)) ∧ 0 ≤ z ∧ z < 2147483587 :=
  ⟨_, run_ret [some (I c), some (I k), none] (by sizeOf_list_dec), Int.emod_nonneg _ (by decide), Int.emod_lt_of_pos _ (by decide)⟩
noncomputable def mixV (c k : Int) : Int := Classical.choose (mixed_e c k)
theorem mixed_s (c k : Int) : φ__law_mixed_k01 [I c, I k] = .ok (.fz (.int (mixV c k))) := (Classical.choose_spec (mixed_e c k)).1
theorem mixV_b (c k : Int) : 0 ≤ mixV c k ∧ mixV c k < 2147483587 := (Classical.choose_spec (mixed_e c k)).2
local macro_rules | `(tactic| sizeOf_list_dec) => `(tactic| with_reducible exact mixed_s _ _)
theorem cell_e (ns : List Int) (k : Nat) : ∃ z, φ__law_cell_k01 [Lx ns, I k] = .ok (.fz (.int z)) := by
  by_cases h : (k : Int) < ns.length
  · exact ⟨_, run_ret [some (Lx ns), some (I k)] (by sizeOf_list_dec)⟩
  · by_cases h0 : (ns.length : Int) = 0
    · exact ⟨_, run_ret [some (Lx ns), some (I k)] (by sizeOf_list_dec)⟩
    · have b1 := Int.emod_nonneg (k : Int) (show (ns.length : Int) ≠ 0 by omega)
      have b2 := Int.emod_lt_of_pos (k : Int) (show (0 : Int) < ns.length by omega)
      exact ⟨_, run_ret [some (Lx ns), some (I k)] (by sizeOf_list_dec)⟩
theorem cell_e2 (ns : List Int) (k : Int) : ∃ z, 0 ≤ k → φ__law_cell_k01 [Lx ns, I k] = .ok (.fz (.int z)) := by
  by_cases h : 0 ≤ k
  · obtain ⟨n, rfl⟩ : ∃ n : Nat, k = n := ⟨k.toNat, by omega⟩
    obtain ⟨z, h⟩ := cell_e ns n
    exact ⟨z, fun _ => h⟩
  · exact ⟨0, fun z => absurd z h⟩
noncomputable def cellV (ns : List Int) (k : Int) : Int := Classical.choose (cell_e2 ns k)
theorem cell_s (ns : List Int) {k : Int} (h : 0 ≤ k) : φ__law_cell_k01 [Lx ns, I k] = .ok (.fz (.int (cellV ns k))) := Classical.choose_spec (cell_e2 ns k) h
local macro_rules | `(tactic| sizeOf_list_dec) => `(tactic| with_reducible exact cell_s _ (by omega))
def In (size : Int) (L : List Int) : Prop := ∀ x ∈ L, 0 ≤ x ∧ x < size
theorem In.app {size : Int} {L : List Int} {x : Int} (h : In size L) (h0 : 0 ≤ x ∧ x < size) : In size (L ++ [x]) := fun y hy => by
  rcases List.mem_append.mp hy with q | q
  · exact h y q
  · simp only [List.mem_singleton] at q
    subst q; exact h0
theorem In.gD {size : Int} {L : List Int} (h : In size L) {k : Int} (hk : k.toNat < L.length) : 0 ≤ VL.gD L k ∧ VL.gD L k < size := h _ (gD_mem hk)
theorem row_e (cell size : Int) (count : Nat) (h0 : 0 < size) (h1 : size < 1073741824) (hc : count ≤ 1000) :
    ∃ L, φ__law_row_k01 [I cell, I count, I size] = .ok (.ls (oI L)) ∧ L.length = count ∧ In size L := by
  obtain ⟨ρ', e, L, r, a, rfl, hL, hI⟩ := forL_n (tg := [5]) (b := w__law_row_k01_0) (vs := rangeS 0 count) (fun k ρ => ∃ L r a, ρ = [some (I cell), some (I count), some (I size), some (.own (.ls (oI L))), some (I r), a] ∧ L.length = k ∧ In size L)
    (ρ := [some (I cell), some (I count), some (I size), some (.own (.ls (oI []))), some (I cell), none]) ⟨[], cell, none, rfl, rfl, fun _ h => by cases h⟩ (by
    rintro k v ρ hv ⟨L, r, a, rfl, hL, hI⟩
    obtain ⟨rfl, hk⟩ := rangeS_get hv
    have hk' : k < count := by omega
    show ∃ ρ', (w__law_row_k01_0 [some (I cell), some (I count), some (I size), some (.own (.ls (oI L))), some (I r), some (I (0 + (k : Nat)))] = .next ρ' ∨ w__law_row_k01_0 [some (I cell), some (I count), some (I size), some (.own (.ls (oI L))), some (I r), some (I (0 + (k : Nat)))] = .cont ρ') ∧ _
    by_cases hb : 10 ^ 18 ≤ cell
    · by_cases hr : 0 < r
      · refine nx_of (by sizeOf_list_dec) ?_
        exact ⟨_, _, _, rfl, by simp [hL], hI.app ⟨Int.emod_nonneg _ (by omega), Int.emod_lt_of_pos _ h0⟩⟩
      · refine nx_of (by sizeOf_list_dec) ?_
        exact ⟨_, _, _, rfl, by simp [hL], hI.app ⟨Int.emod_nonneg _ (by omega), Int.emod_lt_of_pos _ h0⟩⟩
    · refine nx_of (by sizeOf_list_dec) ?_
      exact ⟨_, _, _, rfl, by simp [hL], hI.app ⟨Int.emod_nonneg _ (by omega), Int.emod_lt_of_pos _ h0⟩⟩)
  refine ⟨L, ?_, ?_, hI⟩
  · refine run_ret _ ?_
    exact seq_n (set_v rfl) (seq_n (set_v rfl) (seq_n (for_n (rng1_s (n := count) rfl (by omega) (by omega)) e) rfl))
  · rw [hL, rangeS_len]; omega
end PR

set_option Elab.async false
set_option linter.all false
set_option maxRecDepth 100000
set_option maxHeartbeats 4000000
namespace PR
open PySem VL
local macro_rules | `(tactic| sizeOf_list_dec) => `(tactic| with_reducible rfl)
local macro_rules | `(tactic| sizeOf_list_dec) => `(tactic| first
  | ((with_reducible apply le_V); sizeOf_list_dec; sizeOf_list_dec) | ((with_reducible apply ne_V); sizeOf_list_dec; sizeOf_list_dec)
  | ((with_reducible apply bin_v); sizeOf_list_dec; sizeOf_list_dec; sizeOf_list_dec)
  | ((with_reducible apply ev_f); exact rfl) | ((with_reducible apply ev_l); exact rfl) | ((with_reducible apply ev_p); exact rfl)
  | with_reducible exact ek_v _ _
  | ((with_reducible apply un_v); sizeOf_list_dec; sizeOf_list_dec)
  | with_reducible exact add_s _ _ | with_reducible exact sub_s _ _ | with_reducible exact int_s _ | with_reducible exact intb_T (by simp; omega) | with_reducible exact intb_F (by simp; omega) | with_reducible exact mod_s _ _ (by omega) | with_reducible exact div_s _ _ (by omega) | with_reducible exact mul_r _ _ (by omega) | with_reducible exact mul_l _ _ (by omega)
  | with_reducible exact ix_r (by omega) | with_reducible exact ix_f (by omega) | with_reducible exact ix_l (by simp only [List.length_cons, List.length_nil]; omega) | with_reducible exact len_I (isI_ref _ _ _) | with_reducible exact len_I (isI_fz _) | with_reducible exact len_I (isI_ls _)
  | with_reducible exact max_s _ _ | with_reducible exact min_s _ _ | with_reducible exact pow_s _ _ (by decide)
  | ((with_reducible apply call_a); sizeOf_list_dec; sizeOf_list_dec)
  | with_reducible exact ArgsE.nil | ((with_reducible apply arg_f); sizeOf_list_dec; sizeOf_list_dec) | ((with_reducible apply arg_l); sizeOf_list_dec; sizeOf_list_dec) | ((with_reducible apply arg_r); sizeOf_list_dec; sizeOf_list_dec)
  | with_reducible exact lst_nil
  | ((with_reducible apply lst_I); sizeOf_list_dec; decide)
  | with_reducible exact IntsE.nil | ((with_reducible apply IntsE.cons); sizeOf_list_dec; sizeOf_list_dec))
local macro_rules | `(tactic| sizeOf_list_dec) => `(tactic| first
  | with_reducible exact p18 _ | with_reducible exact p12 _
  | ((with_reducible apply lt_T); sizeOf_list_dec; sizeOf_list_dec; omega) | ((with_reducible apply lt_F); sizeOf_list_dec; sizeOf_list_dec; omega) | ((with_reducible apply le_T); sizeOf_list_dec; sizeOf_list_dec; omega) | ((with_reducible apply le_F); sizeOf_list_dec; sizeOf_list_dec; omega)
  | ((with_reducible apply gt_T); sizeOf_list_dec; sizeOf_list_dec; omega) | ((with_reducible apply gt_F); sizeOf_list_dec; sizeOf_list_dec; omega) | ((with_reducible apply ge_T); sizeOf_list_dec; sizeOf_list_dec; omega) | ((with_reducible apply ge_F); sizeOf_list_dec; sizeOf_list_dec; omega)
  | ((with_reducible apply eq_T); sizeOf_list_dec; sizeOf_list_dec; omega) | ((with_reducible apply eq_F); sizeOf_list_dec; sizeOf_list_dec; omega) | ((with_reducible apply ne_T); sizeOf_list_dec; sizeOf_list_dec; omega) | ((with_reducible apply ne_F); sizeOf_list_dec; sizeOf_list_dec; omega)
  | ((with_reducible apply not_T); sizeOf_list_dec) | ((with_reducible apply not_F); sizeOf_list_dec)
  | ((with_reducible apply and_T); sizeOf_list_dec; sizeOf_list_dec) | ((with_reducible apply and_F); sizeOf_list_dec; sizeOf_list_dec) | ((with_reducible apply and_f); sizeOf_list_dec)
  | ((with_reducible apply or_t); sizeOf_list_dec) | ((with_reducible apply or_T); sizeOf_list_dec; sizeOf_list_dec) | ((with_reducible apply or_F); sizeOf_list_dec; sizeOf_list_dec))
local macro_rules | `(tactic| sizeOf_list_dec) => `(tactic| first
  | ((with_reducible apply set_w); sizeOf_list_dec; exact rfl) | ((with_reducible apply ret_v); sizeOf_list_dec) | ((with_reducible apply app_w); sizeOf_list_dec; sizeOf_list_dec; exact rfl; omega; exact rfl)
  | ((with_reducible apply seq_r); ((with_reducible apply if_t); sizeOf_list_dec; sizeOf_list_dec)) | ((with_reducible apply seq_n); ((with_reducible apply if_f); sizeOf_list_dec; (with_reducible exact pass_v _)); sizeOf_list_dec)
  | ((with_reducible apply seq_n); sizeOf_list_dec; sizeOf_list_dec)
  | ((with_reducible apply if_t); sizeOf_list_dec; sizeOf_list_dec) | ((with_reducible apply if_f); sizeOf_list_dec; sizeOf_list_dec)
  | ((with_reducible apply frz_id); exact rfl; sizeOf_list_dec) | ((with_reducible apply frz_li); exact rfl; sizeOf_list_dec) | ((with_reducible apply frz_bo); exact rfl; sizeOf_list_dec) | ((with_reducible apply frzL_n); sizeOf_list_dec) | ((with_reducible apply frzL_r); sizeOf_list_dec)
  | (with_reducible exact pass_v _))
local macro_rules | `(tactic| sizeOf_list_dec) => `(tactic| first | with_reducible exact mixed_s _ _ | with_reducible exact cell_s _ (by omega))
/-! ### rows -/
theorem row_e2 (c n size : Int) : ∃ L : List Int, 0 ≤ n ∧ n ≤ 1000 ∧ 0 < size ∧ size < 1073741824 → φ__law_row_k01 [I c, I n, I size] = .ok (.ls (oI L)) ∧ (L.length : Int) = n ∧ In size L := by
  by_cases h : 0 ≤ n ∧ n ≤ 1000 ∧ 0 < size ∧ size < 1073741824
  · obtain ⟨k, rfl⟩ : ∃ k : Nat, n = k := ⟨n.toNat, by omega⟩
    obtain ⟨L, e, l, b⟩ := row_e c size k h.2.2.1 h.2.2.2 (by omega)
    exact ⟨L, fun _ => ⟨e, by omega, b⟩⟩
  · exact ⟨[], fun z => absurd z h⟩
noncomputable def rowV (c n size : Int) : List Int := Classical.choose (row_e2 c n size)
theorem row_c {c n size : Int} (h : 0 ≤ n ∧ n ≤ 1000 ∧ 0 < size ∧ size < 1073741824) : φ__law_row_k01 [I c, I n, I size] = .ok (.ls (oI (rowV c n size))) ∧ ((rowV c n size).length : Int) = n ∧ In size (rowV c n size) := Classical.choose_spec (row_e2 c n size) h
theorem row_s {c n size : Int} (h : 0 ≤ n ∧ n ≤ 1000 ∧ 0 < size ∧ size < 1073741824) : φ__law_row_k01 [I c, I n, I size] = .ok (.ls (oI (rowV c n size))) := (row_c h).1
theorem row_len {c n size : Int} (h : 0 ≤ n ∧ n ≤ 1000 ∧ 0 < size ∧ size < 1073741824) : ((rowV c n size).length : Int) = n := (row_c h).2.1
theorem row_in {c n size : Int} (h : 0 ≤ n ∧ n ≤ 1000 ∧ 0 < size ∧ size < 1073741824) : In size (rowV c n size) := (row_c h).2.2
theorem row_b {c n size k : Int} (h : 0 ≤ n ∧ n ≤ 1000 ∧ 0 < size ∧ size < 1073741824) (hk : 0 ≤ k ∧ k < n) : 0 ≤ gD (rowV c n size) k ∧ gD (rowV c n size) k < size := (row_in h).gD (by have := row_len (c := c) h; omega)
local macro_rules | `(tactic| sizeOf_list_dec) => `(tactic| with_reducible exact row_s (by omega))
/-! ### the order of days -/
theorem ins_s {i : Nat} {o a j : EC} {ρ ρ' : Rho} {L : List Int} {z k : Int} (h : o ρ = .ok (.ref i [] (.ls (oI L)))) (hj : IntE j ρ k) (h' : IntE a ρ z) (hr : ρ[i]? = some (some (.own (.ls (oI L))))) (hl : L.length < 16777216 ∧ 0 ≤ k ∧ k < 1000000) (e : ρ.set i (some (.own (.ls (oI (L.take k.toNat ++ [z] ++ L.drop k.toNat))))) = ρ') :
    sIns o j a ρ = .next ρ' := by
  rw [← e]
  unfold sIns
  rw [h]
  simp only
  rw [hj]
  simp only [RV.d, Ow.toD]
  rw [h']
  simp only
  rw [if_pos ⟨hl.2.1, hl.2.2, by rw [oI_len]; exact hl.1⟩]
  unfold VL.putAt
  rw [hr]
  simp only [Ow.put]
  unfold oI
  simp [List.map_take, List.map_drop]
local macro_rules | `(tactic| sizeOf_list_dec) => `(tactic| ((with_reducible apply ins_s); sizeOf_list_dec; sizeOf_list_dec; sizeOf_list_dec; exact rfl; omega; exact rfl))
theorem nodup_ins {L : List Int} {x : Int} (n : Nat) (h : L.Nodup) (hx : x ∉ L) : (L.take n ++ [x] ++ L.drop n).Nodup := by
  have : (L.take n ++ [x] ++ L.drop n).Perm (x :: L) := by
    rw [List.append_assoc]
    refine List.perm_middle.trans (List.Perm.cons _ ?_)
    simp
  exact this.nodup_iff.mpr (List.nodup_cons.mpr ⟨hx, h⟩)
theorem mem_ins {L : List Int} {x y : Int} (n : Nat) : y ∈ L.take n ++ [x] ++ L.drop n ↔ y = x ∨ y ∈ L := by
  have : (L.take n ++ [x] ++ L.drop n).Perm (x :: L) := by
    rw [List.append_assoc]
    refine List.perm_middle.trans (List.Perm.cons _ ?_)
    simp
  rw [this.mem_iff, List.mem_cons]
theorem order_e (c : Int) (days : Nat) (h1 : days ≤ 100) : ∃ L, φ__law_order_k01 [I c, I days] = .ok (.ls (oI L)) ∧ L.length = days ∧ L.Nodup ∧ ∀ x ∈ L, 1 ≤ x ∧ x ≤ days := by
  have rl := row_len (c := c) (n := days) (size := 60) (by omega)
  obtain ⟨ρ', e, L, a, rfl, hL, hN, hI⟩ := for_rng (i := 4) (b := w__law_order_k01_0) (a := eVar 1) (n := days) (fun k ρ => ∃ L a, ρ = [some (I c), some (I days), some (.own (.ls (oI (rowV c days 60)))), some (.own (.ls (oI L))), a] ∧ L.length = k ∧ L.Nodup ∧ ∀ x ∈ L, 1 ≤ x ∧ x ≤ k)
    (ρ := [some (I c), some (I days), some (.own (.ls (oI (rowV c days 60)))), some (.own (.ls (oI []))), none]) rfl (by omega) ⟨[], none, rfl, rfl, .nil, fun _ h => by cases h⟩ (by
    rintro k ρ hk ⟨L, a, rfl, hL, hN, hI⟩
    have b1 := Int.emod_nonneg (gD (rowV c days 60) (k : Nat)) (show ((k : Nat) : Int) + 1 ≠ 0 by omega)
    have b2 := Int.emod_lt_of_pos (gD (rowV c days 60) (k : Nat)) (show 0 < ((k : Nat) : Int) + 1 by omega)
    refine nx_of (by sizeOf_list_dec) ?_
    refine ⟨_, _, rfl, ?_, nodup_ins _ hN fun hx => ?_, fun x hx => ?_⟩
    · simp; omega
    · have := hI _ hx; omega
    · rcases (mem_ins _).mp hx with rfl | hx
      · omega
      · have := hI _ hx; omega)
  refine ⟨L, ?_, hL, hN, hI⟩
  refine run_ret [some (I c), some (I days), none, none, none] ?_
  exact seq_n (by sizeOf_list_dec) (seq_n (by sizeOf_list_dec) (seq_n e rfl))
theorem ord_e2 (c days : Int) : ∃ L : List Int, 0 ≤ days ∧ days ≤ 100 → φ__law_order_k01 [I c, I days] = .ok (.ls (oI L)) ∧ (L.length : Int) = days ∧ L.Nodup ∧ ∀ x ∈ L, 1 ≤ x ∧ x ≤ days := by
  by_cases h : 0 ≤ days ∧ days ≤ 100
  · obtain ⟨k, rfl⟩ : ∃ k : Nat, days = k := ⟨days.toNat, by omega⟩
    obtain ⟨L, e, l, b⟩ := order_e c k (by omega)
    exact ⟨L, fun _ => ⟨e, by omega, b⟩⟩
  · exact ⟨[], fun z => absurd z h⟩
noncomputable def ordV (c days : Int) : List Int := Classical.choose (ord_e2 c days)
theorem ord_c {c days : Int} (h : 0 ≤ days ∧ days ≤ 100) : φ__law_order_k01 [I c, I days] = .ok (.ls (oI (ordV c days))) ∧ ((ordV c days).length : Int) = days ∧ (ordV c days).Nodup ∧ ∀ x ∈ ordV c days, 1 ≤ x ∧ x ≤ days := Classical.choose_spec (ord_e2 c days) h
theorem ord_s {c days : Int} (h : 0 ≤ days ∧ days ≤ 100) : φ__law_order_k01 [I c, I days] = .ok (.ls (oI (ordV c days))) := (ord_c h).1
/-! ### a base -/
theorem base_e {style n day days : Int} (hn : 0 ≤ n) (h : 1 ≤ day ∧ day ≤ days ∧ days ≤ 10) : ∃ z, φ__law_base_k01 [I style, I n, I day, I days] = .ok (.fz (.int z)) ∧ 0 ≤ z ∧ z ≤ days ∧ z ≠ day := by
  by_cases s2 : style = 2
  · refine ret_of (run_ret [some (I style), some (I n), some (I day), some (I days), none, none] (by sizeOf_list_dec)) ?_
    omega
  by_cases s3 : style = 3
  · by_cases hl : day + 1 + n % 2 ≤ days
    · refine ret_of (run_ret [some (I style), some (I n), some (I day), some (I days), none, none] (by sizeOf_list_dec)) ?_
      omega
    · refine ret_of (run_ret [some (I style), some (I n), some (I day), some (I days), none, none] (by sizeOf_list_dec)) ?_
      omega
  by_cases s4 : style = 4
  · have b1 := Int.emod_nonneg n (show day ≠ 0 by omega)
    have b2 := Int.emod_lt_of_pos n (show 0 < day by omega)
    refine ret_of (run_ret [some (I style), some (I n), some (I day), some (I days), none, none] (by sizeOf_list_dec)) ?_
    omega
  by_cases s5 : style = 5 ∧ n < 9 ∧ 1 < days
  · obtain ⟨s5, s6, s7⟩ := s5
    refine ret_of (run_ret [some (I style), some (I n), some (I day), some (I days), none, none] (by sizeOf_list_dec)) ?_
    by_cases d1 : day = 1
    · have : (day + days - 2) % days = days - 1 := by rw [d1, Int.emod_eq_of_lt (by omega) (by omega)]; omega
      omega
    · have : (day + days - 2) % days = day - 2 := by
        rw [show day + days - 2 = (day - 2) + days by omega, Int.add_emod_right, Int.emod_eq_of_lt (by omega) (by omega)]
      omega
  have b1 := Int.emod_nonneg n (show days + 1 ≠ 0 by omega)
  have b2 := Int.emod_lt_of_pos n (show 0 < days + 1 by omega)
  have s5' : style = 5 → ¬ (n < 9 ∧ 1 < days) := fun a b => s5 ⟨a, b⟩
  have key : ∀ (q : VL.tAnd (VL.tB (eBin fEq (eVar 0) (eK (.int 5)))) (VL.tAnd (VL.tB (eBin fLt (eVar 1) (eK (.int 9)))) (VL.tB (eBin fGt (eVar 3) (eK (.int 1))))) [some (I style), some (I n), some (I day), some (I days), none, none] = .ok false), ∃ z, φ__law_base_k01 [I style, I n, I day, I days] = .ok (.fz (.int z)) ∧ 0 ≤ z ∧ z ≤ days ∧ z ≠ day := fun q => by
    by_cases hb : n % (days + 1) = day
    · refine ret_of (run_ret [some (I style), some (I n), some (I day), some (I days), none, none] (seq_n (if_f (by sizeOf_list_dec) rfl) (seq_n (if_f (by sizeOf_list_dec) rfl) (seq_n (if_f (by sizeOf_list_dec) rfl) (seq_n (if_f q rfl) (by sizeOf_list_dec)))))) ?_
      omega
    · refine ret_of (run_ret [some (I style), some (I n), some (I day), some (I days), none, none] (seq_n (if_f (by sizeOf_list_dec) rfl) (seq_n (if_f (by sizeOf_list_dec) rfl) (seq_n (if_f (by sizeOf_list_dec) rfl) (seq_n (if_f q rfl) (by sizeOf_list_dec)))))) ?_
      omega
  by_cases t5 : style = 5
  · by_cases n9 : n < 9
    · have : ¬ 1 < days := fun z => s5 ⟨t5, n9, z⟩
      exact key (by sizeOf_list_dec)
    · exact key (by sizeOf_list_dec)
  · exact key (by sizeOf_list_dec)
end PR

set_option Elab.async false
set_option linter.all false
set_option maxRecDepth 100000
set_option maxHeartbeats 4000000
namespace PR
open PySem VL
local macro_rules | `(tactic| sizeOf_list_dec) => `(tactic| with_reducible rfl)
local macro_rules | `(tactic| sizeOf_list_dec) => `(tactic| first
  | ((with_reducible apply le_V); sizeOf_list_dec; sizeOf_list_dec) | ((with_reducible apply ne_V); sizeOf_list_dec; sizeOf_list_dec)
  | ((with_reducible apply bin_v); sizeOf_list_dec; sizeOf_list_dec; sizeOf_list_dec)
  | ((with_reducible apply ev_f); exact rfl) | ((with_reducible apply ev_l); exact rfl) | ((with_reducible apply ev_p); exact rfl)
  | with_reducible exact ek_v _ _
  | ((with_reducible apply un_v); sizeOf_list_dec; sizeOf_list_dec)
  | with_reducible exact add_s _ _ | with_reducible exact sub_s _ _ | with_reducible exact int_s _ | with_reducible exact intb_T (by simp; omega) | with_reducible exact intb_F (by simp; omega) | with_reducible exact mod_s _ _ (by omega) | with_reducible exact div_s _ _ (by omega) | with_reducible exact mul_r _ _ (by omega) | with_reducible exact mul_l _ _ (by omega)
  | with_reducible exact ix_r (by omega) | with_reducible exact ix_f (by omega) | with_reducible exact ix_l (by simp only [List.length_cons, List.length_nil]; omega) | with_reducible exact len_I (isI_ref _ _ _) | with_reducible exact len_I (isI_fz _) | with_reducible exact len_I (isI_ls _)
  | with_reducible exact max_s _ _ | with_reducible exact min_s _ _ | with_reducible exact pow_s _ _ (by decide)
  | ((with_reducible apply call_a); sizeOf_list_dec; sizeOf_list_dec)
  | with_reducible exact ArgsE.nil | ((with_reducible apply arg_f); sizeOf_list_dec; sizeOf_list_dec) | ((with_reducible apply arg_l); sizeOf_list_dec; sizeOf_list_dec) | ((with_reducible apply arg_r); sizeOf_list_dec; sizeOf_list_dec)
  | with_reducible exact lst_nil
  | ((with_reducible apply lst_I); sizeOf_list_dec; exact Nat.le_of_ble_eq_true rfl)
  | with_reducible exact IntsE.nil | ((with_reducible apply IntsE.cons); sizeOf_list_dec; sizeOf_list_dec))
local macro_rules | `(tactic| sizeOf_list_dec) => `(tactic| first
  | with_reducible exact p18 _ | with_reducible exact p12 _
  | ((with_reducible apply lt_T); sizeOf_list_dec; sizeOf_list_dec; omega) | ((with_reducible apply lt_F); sizeOf_list_dec; sizeOf_list_dec; omega) | ((with_reducible apply le_T); sizeOf_list_dec; sizeOf_list_dec; omega) | ((with_reducible apply le_F); sizeOf_list_dec; sizeOf_list_dec; omega)
  | ((with_reducible apply gt_T); sizeOf_list_dec; sizeOf_list_dec; omega) | ((with_reducible apply gt_F); sizeOf_list_dec; sizeOf_list_dec; omega) | ((with_reducible apply ge_T); sizeOf_list_dec; sizeOf_list_dec; omega) | ((with_reducible apply ge_F); sizeOf_list_dec; sizeOf_list_dec; omega)
  | ((with_reducible apply eq_T); sizeOf_list_dec; sizeOf_list_dec; omega) | ((with_reducible apply eq_F); sizeOf_list_dec; sizeOf_list_dec; omega) | ((with_reducible apply ne_T); sizeOf_list_dec; sizeOf_list_dec; omega) | ((with_reducible apply ne_F); sizeOf_list_dec; sizeOf_list_dec; omega)
  | ((with_reducible apply not_T); sizeOf_list_dec) | ((with_reducible apply not_F); sizeOf_list_dec)
  | ((with_reducible apply and_T); sizeOf_list_dec; sizeOf_list_dec) | ((with_reducible apply and_F); sizeOf_list_dec; sizeOf_list_dec) | ((with_reducible apply and_f); sizeOf_list_dec)
  | ((with_reducible apply or_t); sizeOf_list_dec) | ((with_reducible apply or_T); sizeOf_list_dec; sizeOf_list_dec) | ((with_reducible apply or_F); sizeOf_list_dec; sizeOf_list_dec))
local macro_rules | `(tactic| sizeOf_list_dec) => `(tactic| first
  | ((with_reducible apply set_w); sizeOf_list_dec; exact rfl) | ((with_reducible apply ret_v); sizeOf_list_dec) | ((with_reducible apply app_w); sizeOf_list_dec; sizeOf_list_dec; exact rfl; omega; exact rfl)
  | ((with_reducible apply seq_r); ((with_reducible apply if_t); sizeOf_list_dec; sizeOf_list_dec)) | ((with_reducible apply seq_n); ((with_reducible apply if_f); sizeOf_list_dec; (with_reducible exact pass_v _)); sizeOf_list_dec)
  | ((with_reducible apply seq_n); sizeOf_list_dec; sizeOf_list_dec)
  | ((with_reducible apply if_t); sizeOf_list_dec; sizeOf_list_dec) | ((with_reducible apply if_f); sizeOf_list_dec; sizeOf_list_dec)
  | ((with_reducible apply frz_id); exact rfl; sizeOf_list_dec) | ((with_reducible apply frz_li); exact rfl; sizeOf_list_dec) | ((with_reducible apply frz_bo); exact rfl; sizeOf_list_dec) | ((with_reducible apply frzL_n); sizeOf_list_dec) | ((with_reducible apply frzL_r); sizeOf_list_dec)
  | (with_reducible exact pass_v _))
local macro_rules | `(tactic| sizeOf_list_dec) => `(tactic| first | with_reducible exact mixed_s _ _ | with_reducible exact cell_s _ (by omega) | with_reducible exact row_s (by omega) | with_reducible exact ord_s (by omega))
theorem base_e2 (style n day days : Int) : ∃ z, 0 ≤ n ∧ 1 ≤ day ∧ day ≤ days ∧ days ≤ 10 → φ__law_base_k01 [I style, I n, I day, I days] = .ok (.fz (.int z)) ∧ 0 ≤ z ∧ z ≤ days ∧ z ≠ day := by
  by_cases h : 0 ≤ n ∧ 1 ≤ day ∧ day ≤ days ∧ days ≤ 10
  · obtain ⟨z, e⟩ := base_e (style := style) h.1 h.2
    exact ⟨z, fun _ => e⟩
  · exact ⟨0, fun z => absurd z h⟩
noncomputable def basV (style n day days : Int) : Int := Classical.choose (base_e2 style n day days)
theorem bas_c {style n day days : Int} (h : 0 ≤ n ∧ 1 ≤ day ∧ day ≤ days ∧ days ≤ 10) : φ__law_base_k01 [I style, I n, I day, I days] = .ok (.fz (.int (basV style n day days))) ∧ 0 ≤ basV style n day days ∧ basV style n day days ≤ days ∧ basV style n day days ≠ day := Classical.choose_spec (base_e2 style n day days) h
theorem bas_s {style n day days : Int} (h : 0 ≤ n ∧ 1 ≤ day ∧ day ≤ days ∧ days ≤ 10) : φ__law_base_k01 [I style, I n, I day, I days] = .ok (.fz (.int (basV style n day days))) := (bas_c h).1
local macro_rules | `(tactic| sizeOf_list_dec) => `(tactic| with_reducible exact bas_s (by omega))
/-! ### copies -/
abbrev Cp := Int × Int × Int
abbrev cpD (c : Cp) : D := .tuple [.int c.1, .int c.2.1, .int c.2.2]
abbrev cpsO (cs : List Cp) : List Ow := cs.map fun c => .fz (cpD c)
def Cok (days : Int) (c : Cp) : Prop := 0 ≤ c.1 ∧ c.1 ≤ days ∧ 1 ≤ c.2.1 ∧ c.2.1 ≤ days ∧ c.1 ≠ c.2.1 ∧ 0 ≤ c.2.2 ∧ c.2.2 ≤ 999
theorem tup3 {a b c : EC} {ρ : Rho} {i j k : Int} (h1 : IntE a ρ i) (h2 : IntE b ρ j) (h3 : IntE c ρ k) : eTup [a, b, c] ρ = .ok (.val (.fz (cpD (i, j, k)))) := by
  unfold eTup
  rw [ev_cons h1 (ev_cons h2 (ev_cons h3 rfl))]
  rfl
theorem app_cp {i : Nat} {o a : EC} {ρ ρ' : Rho} {cs : List Cp} {c : Cp} (h : o ρ = .ok (.ref i [] (.ls (cpsO cs)))) (h' : a ρ = .ok (.val (.fz (cpD c)))) (hr : ρ[i]? = some (some (.own (.ls (cpsO cs))))) (hl : cs.length < 16777216)
    (e : ρ.set i (some (.own (.ls (cpsO (cs ++ [c]))))) = ρ') : sApp o a ρ = .next ρ' := by
  rw [app_s h h' hr (by simpa using hl), ← e]
  simp [cpsO]
theorem ix_cp {i : Nat} {cs : List Cp} {k : Nat} {c : Cp} (h : cs[k]? = some c) : fIx (.ref i [] (.ls (cpsO cs))) (.val (.fz (.int k))) = .ok (.val (.fz (cpD c))) := by
  have hk := (List.getElem?_eq_some_iff.mp h).1
  have e1 : L2.ixN (cpsO cs).length (k : Int) = some k := by
    unfold L2.ixN
    rw [if_pos (by omega), if_pos (by simp; omega)]
    simp
  show (match L2.ixN (cpsO cs).length (k : Int) with | some j => _ | none => _) = _
  rw [e1]
  show (match (cpsO cs)[k]? with | some ow => _ | none => _) = _
  rw [List.getElem?_map, h]
  rfl
theorem lit_mem {L : List Int} {c : Int} {m : Int} (h : (L.length : Int) = m) (hm : 0 < m) : gD L (c % m) ∈ L := by
  have b1 := Int.emod_nonneg c (show m ≠ 0 by omega)
  have b2 := Int.emod_lt_of_pos c hm
  exact gD_mem (by omega)
/-- the row behind [0] + order -/
theorem cat0 {ρ : Rho} {O : List Int} {i : Nat} (h : eVar i ρ = .ok (.ref i [] (.ls (oI O)))) (hl : O.length ≤ 1000) : eBin fAdd (eLst [eK (.int 0)]) (eVar i) ρ = .ok (.val (.ls (oI (0 :: O)))) :=
  bin_v (lst_I (L := [0]) (.cons rfl .nil) (by decide)) h (cat_I (isI_ls [0]) (isI_ref i [] O) (by simp; omega))
abbrev st16 (a0 a1 a2 : Sl) (P : List Int) (days many style : Int) (O : List Int) (Hd B Sz : List Int) (cs : List Cp) (x12 x13 x14 x15 : Option Sl) : Rho :=
  [some a0, some a1, some a2, some (.own (.ls (oI P))), some (I days), some (I many), some (I style), some (.own (.ls (oI O))), some (.own (.ls (oI Hd))), some (.own (.ls (oI B))), some (.own (.ls (oI Sz))), some (.own (.ls (cpsO cs))), x12, x13, x14, x15]
theorem house_turn {a0 a1 a2 : Sl} {P O Hd B Sz : List Int} {days style : Int} {many k : Nat} {cs : List Cp} {x13 x14 x15 : Option Sl} (hd : 1 ≤ days ∧ days ≤ 10) (hP : P.length = 6) (hO : (O.length : Int) = days) (nO : O.Nodup) (iO : ∀ x ∈ O, 1 ≤ x ∧ x ≤ days)
    (hH : Hd.length = many) (iH : In 10 Hd) (hB : B.length = many) (iB : In 11 B) (hS : Sz.length = many) (iS : In 1200 Sz) (hk : k < many) (hm : many ≤ 100) (hc : cs.length = k) (ok : ∀ c ∈ cs, Cok days c) :
    ∃ c y12 y13 y14 y15, Cok days c ∧ w__law_house_k01_0 (st16 a0 a1 a2 P days many style O Hd B Sz cs (some (I k)) x13 x14 x15) = .next (st16 a0 a1 a2 P days many style O Hd B Sz (cs ++ [c]) y12 y13 y14 y15) := by
  have bH := iH.gD (k := (k : Int)) (by omega)
  have bB := iB.gD (k := (k : Int)) (by omega)
  have bS := iS.gD (k := (k : Int)) (by omega)
  have d1 := Int.emod_nonneg (gD Hd k) (show days ≠ 0 by omega)
  have d2 := Int.emod_lt_of_pos (gD Hd k) (show 0 < days by omega)
  have d3 := Int.emod_nonneg (k : Int) (show days ≠ 0 by omega)
  have d4 := Int.emod_lt_of_pos (k : Int) (show 0 < days by omega)
  obtain ⟨_, c1, c2, c3⟩ := bas_c (style := style) (n := gD B k) (day := 1 + gD Hd k % days) (days := days) (by omega)
  -- the day and the base
  obtain ⟨day, base, l1, l2, l3, l4, l5, e1⟩ : ∃ day base : Int, 1 ≤ day ∧ day ≤ days ∧ 0 ≤ base ∧ base ≤ days ∧ base ≠ day ∧ ∀ (R : SC) (r : SRes), R (st16 a0 a1 a2 P days many style O Hd B Sz cs (some (I k)) (some (I day)) (some (I base)) x15) = r →
      sSeq (sSet 13 (eBin fAdd (eK (.int 1)) (eBin fMod (eUn fInt (eBin fIx (eVar 8) (eVar 12))) (eVar 4)))) (sSeq (sFrz 4 (sFrz 13 (sFrzL 9 (sSet 14 (eCall φ__law_base_k01 [(eVar 6), (eBin fIx (eVar 9) (eVar 12)), (eVar 13), (eVar 4)]))))) (sSeq (sIf (tB (eBin fEq (eVar 6) (eK (.int 6)))) (sSeq (sFrzL 7 (sSet 13 (eBin fIx (eVar 7) (eBin fMod (eUn fInt (eVar 12)) (eVar 4))))) (sFrzL 7 (sSet 14 (eBin fIx (eBin fAdd (eLst [(eK (.int 0))]) (eVar 7)) (eBin fMod (eUn fInt (eBin fIx (eVar 9) (eVar 12))) (eBin fAdd (eK (.int 1)) (eBin fMod (eUn fInt (eVar 12)) (eVar 4)))))))) sPass) R)) (st16 a0 a1 a2 P days many style O Hd B Sz cs (some (I k)) x13 x14 x15) = r := by
    by_cases s6 : style = 6
    · have f1 := Int.emod_nonneg (gD B k) (show 1 + (k : Int) % days ≠ 0 by omega)
      have f2 := Int.emod_lt_of_pos (gD B k) (show 0 < 1 + (k : Int) % days by omega)
      have m1 : gD O ((k : Int) % days) ∈ O := gD_mem (by omega)
      have m1' := iO _ m1
      have key : gD (0 :: O) (gD B k % (1 + (k : Int) % days)) = 0 ∨ ∃ j : Nat, j < ((k : Int) % days).toNat ∧ gD (0 :: O) (gD B k % (1 + (k : Int) % days)) = gD O j := by
        by_cases z : gD B k % (1 + (k : Int) % days) = 0
        · left; rw [z]; rfl
        · right
          refine ⟨(gD B k % (1 + (k : Int) % days)).toNat - 1, by omega, ?_⟩
          obtain ⟨t, ht⟩ : ∃ t : Nat, gD B k % (1 + (k : Int) % days) = (t : Int) + 1 := ⟨(gD B k % (1 + (k : Int) % days)).toNat - 1, by omega⟩
          rw [ht]
          show (0 :: O).getD ((t : Int) + 1).toNat 0 = O.getD _ 0
          have e1 : ((t : Int) + 1).toNat = t + 1 := by omega
          rw [e1]
          have e2 : (((t + 1 - 1 : Nat) : Int)).toNat = t := by omega
          rw [e2]; rfl
      refine ⟨gD O ((k : Int) % days), gD (0 :: O) (gD B k % (1 + (k : Int) % days)), m1'.1, m1'.2, ?_, ?_, ?_, fun R r h => ?_⟩
      · rcases key with q | ⟨j, hj, q⟩ <;> rw [q]
        · exact Int.le_refl _
        · have := iO _ (gD_mem (L := O) (k := (j : Int)) (by omega)); omega
      · rcases key with q | ⟨j, hj, q⟩ <;> rw [q]
        · omega
        · have := iO _ (gD_mem (L := O) (k := (j : Int)) (by omega)); omega
      · rcases key with q | ⟨j, hj, q⟩ <;> rw [q]
        · omega
        · intro q2
          have i1 : j < O.length := by omega
          have i2 : ((k : Int) % days).toNat < O.length := by omega
          have g1 := gD_get (L := O) (k := (j : Int)) (by omega)
          have g2 := gD_get (L := O) (k := (k : Int) % days) i2
          rw [← q2, ← g1] at g2
          have e9 : ((j : Int)).toNat = j := by omega
          rw [e9] at g2
          have := (List.getElem?_inj i2 nO).mp g2
          omega
      · refine seq_n (by sizeOf_list_dec) ?_
        refine seq_n (by sizeOf_list_dec) ?_
        refine seq_n (ρ' := st16 a0 a1 a2 P days many style O Hd B Sz cs (some (I k)) (some (I (gD O ((k : Int) % days)))) (some (I (gD (0 :: O) (gD B k % (1 + (k : Int) % days))))) x15) ?_ h
        refine if_t (by sizeOf_list_dec) ?_
        refine seq_n (by sizeOf_list_dec) ?_
        apply frzL_n
        apply set_w
        · exact bin_v (cat0 (by sizeOf_list_dec) (by omega)) (by sizeOf_list_dec) (by exact ix_l (by simp only [List.length_cons]; omega))
        · rfl
    · refine ⟨1 + gD Hd k % days, basV style (gD B k) (1 + gD Hd k % days) days, by omega, by omega, c1, c2, c3, fun R r h => ?_⟩
      exact seq_n (by sizeOf_list_dec) (seq_n (by sizeOf_list_dec) (seq_n (if_f (by sizeOf_list_dec) rfl) h))
  -- as the copy before
  obtain ⟨day', base', l1', l2', l3', l4', l5', e2⟩ : ∃ day' base' : Int, 1 ≤ day' ∧ day' ≤ days ∧ 0 ≤ base' ∧ base' ≤ days ∧ base' ≠ day' ∧ (sIf (tAnd (tB (eBin fEq (eBin fMod (eUn fInt (eBin fIx (eVar 3) (eK (.int 5)))) (eK (.int 5))) (eK (.int 0)))) (tB (eBin fEq (eBin fMod (eUn fInt (eVar 12)) (eK (.int 2))) (eK (.int 1))))) (sSeq (sSet 14 (eBin fIx (eBin fIx (eVar 11) (eBin fSub (eVar 12) (eK (.int 1)))) (eK (.int 0)))) (sSet 13 (eBin fIx (eBin fIx (eVar 11) (eBin fSub (eVar 12) (eK (.int 1)))) (eK (.int 1))))) sPass)
      (st16 a0 a1 a2 P days many style O Hd B Sz cs (some (I k)) (some (I day)) (some (I base)) x15) = .next (st16 a0 a1 a2 P days many style O Hd B Sz cs (some (I k)) (some (I day')) (some (I base')) x15) := by
    by_cases q1 : gD P 5 % 5 = 0
    · by_cases q2 : (k : Int) % 2 = 1
      · have hk1 : k - 1 < cs.length := by omega
        have hc1 : cs[k - 1]? = some cs[k - 1] := List.getElem?_eq_getElem hk1
        have o1 := ok _ (List.getElem_mem hk1)
        refine ⟨cs[k - 1].2.1, cs[k - 1].1, o1.2.2.1, o1.2.2.2.1, o1.1, o1.2.1, o1.2.2.2.2.1, ?_⟩
        have e0 : (k : Int) - 1 = ((k - 1 : Nat) : Int) := by omega
        refine if_t (by sizeOf_list_dec) (seq_n (set_w (bin_v (bin_v (by sizeOf_list_dec) (by sizeOf_list_dec) (by rw [e0]; exact ix_cp hc1)) rfl rfl) rfl) (set_w (bin_v (bin_v (by sizeOf_list_dec) (by sizeOf_list_dec) (by rw [e0]; exact ix_cp hc1)) rfl rfl) rfl))
      · exact ⟨day, base, l1, l2, l3, l4, l5, if_f (by sizeOf_list_dec) rfl⟩
    · exact ⟨day, base, l1, l2, l3, l4, l5, if_f (by sizeOf_list_dec) rfl⟩
  -- the size
  obtain ⟨sz, z1, z2, e3⟩ : ∃ sz : Int, 0 ≤ sz ∧ sz ≤ 999 ∧ ∀ (R : SC) (r : SRes), R (st16 a0 a1 a2 P days many style O Hd B Sz cs (some (I k)) (some (I day')) (some (I base')) (some (I sz))) = r →
      sSeq (sFrzL 10 (sSet 15 (eBin fIx (eVar 10) (eVar 12)))) (sSeq (sIf (tB (eBin fGe (eVar 15) (eK (.int 1000)))) (sSet 15 (eBin fIx (eLst [(eK (.int 0)), (eK (.int 0)), (eK (.int 999))]) (eBin fMod (eUn fInt (eVar 15)) (eK (.int 3))))) sPass) R) (st16 a0 a1 a2 P days many style O Hd B Sz cs (some (I k)) (some (I day')) (some (I base')) x15) = r := by
    by_cases q1 : 1000 ≤ gD Sz k
    · refine ⟨gD [0, 0, 999] (gD Sz k % 3), ?_, ?_, fun R r h => seq_n (by sizeOf_list_dec) (seq_n (if_t (by sizeOf_list_dec) (by sizeOf_list_dec)) h)⟩
      · have := lit_mem (L := [0, 0, 999]) (c := gD Sz k) (m := 3) rfl (by decide)
        simp only [List.mem_cons, List.not_mem_nil, or_false] at this; omega
      · have := lit_mem (L := [0, 0, 999]) (c := gD Sz k) (m := 3) rfl (by decide)
        simp only [List.mem_cons, List.not_mem_nil, or_false] at this; omega
    · exact ⟨gD Sz k, by omega, by omega, fun R r h => seq_n (by sizeOf_list_dec) (seq_n (if_f (by sizeOf_list_dec) rfl) h)⟩
  refine ⟨(base', day', sz), _, _, _, _, ⟨l3', l4', l1', l2', l5', z1, z2⟩, e1 _ _ (seq_n e2 (e3 _ _ (frz_id rfl (frz_id rfl (frz_id rfl (app_cp (by sizeOf_list_dec) (tup3 (by sizeOf_list_dec) (by sizeOf_list_dec) (by sizeOf_list_dec)) rfl (by omega) rfl))))))⟩
theorem house_e (ns : List Int) (start most : Int) (h : 0 ≤ start ∧ 1 ≤ most ∧ most ≤ 100) : ∃ (days : Int) (cs : List Cp), φ__law_house_k01 [Lx ns, I start, I most] = .ok (.tp [.fz (.int days), .ls (cpsO cs)]) ∧ 1 ≤ days ∧ days ≤ 10 ∧ (cs.length : Int) ≤ most ∧ ∀ c ∈ cs, Cok days c := by
  obtain ⟨P, hP⟩ : ∃ P, P = rowV (cellV ns start) 6 60 := ⟨_, rfl⟩
  have lP := row_len (c := cellV ns start) (n := 6) (size := 60) (by omega)
  rw [← hP] at lP
  -- the number of days
  obtain ⟨days, d1, d2, e1⟩ : ∃ days : Int, 1 ≤ days ∧ days ≤ 10 ∧ ∀ (R : SC) (r : SRes), R [some (Lx ns), some (I start), some (I most), some (.own (.ls (oI P))), some (I days), none, none, none, none, none, none, none, none, none, none, none] = r →
      sSeq (sSet 4 (eBin fAdd (eK (.int 1)) (eBin fMod (eUn fInt (eBin fIx (eVar 3) (eK (.int 0)))) (eK (.int 10))))) (sSeq (sIf (tB (eBin fEq (eBin fMod (eUn fInt (eBin fIx (eVar 3) (eK (.int 1)))) (eK (.int 3))) (eK (.int 0)))) (sSet 4 (eBin fIx (eLst [(eK (.int 1)), (eK (.int 2)), (eK (.int 9)), (eK (.int 10))]) (eBin fMod (eUn fInt (eBin fIx (eVar 3) (eK (.int 0)))) (eK (.int 4))))) sPass) R)
        [some (Lx ns), some (I start), some (I most), some (.own (.ls (oI P))), none, none, none, none, none, none, none, none, none, none, none, none] = r := by
    by_cases q : gD P 1 % 3 = 0
    · have m := lit_mem (L := [1, 2, 9, 10]) (c := gD P 0) (m := 4) rfl (by decide)
      refine ⟨gD [1, 2, 9, 10] (gD P 0 % 4), ?_, ?_, fun R r h => seq_n (by sizeOf_list_dec) (seq_n (if_t (by sizeOf_list_dec) (by sizeOf_list_dec)) h)⟩
      · simp only [List.mem_cons, List.not_mem_nil, or_false] at m; omega
      · simp only [List.mem_cons, List.not_mem_nil, or_false] at m; omega
    · exact ⟨1 + gD P 0 % 10, by omega, by omega, fun R r h => seq_n (by sizeOf_list_dec) (seq_n (if_f (by sizeOf_list_dec) rfl) h)⟩
  -- the number of copies
  obtain ⟨many, m1, m2, e2⟩ : ∃ many : Int, 0 ≤ many ∧ many ≤ most ∧ ∀ (R : SC) (r : SRes), R [some (Lx ns), some (I start), some (I most), some (.own (.ls (oI P))), some (I days), some (I many), none, none, none, none, none, none, none, none, none, none] = r →
      sSeq (sSet 5 (eBin fMod (eUn fInt (eBin fIx (eVar 3) (eK (.int 2)))) (eBin fAdd (eVar 2) (eK (.int 1))))) (sSeq (sIf (tB (eBin fEq (eBin fMod (eUn fInt (eBin fIx (eVar 3) (eK (.int 3)))) (eK (.int 4))) (eK (.int 0)))) (sSet 5 (eBin fIx (eLst [(eK (.int 0)), (eK (.int 1)), (eBin fSub (eVar 2) (eK (.int 1))), (eVar 2)]) (eBin fMod (eUn fInt (eBin fIx (eVar 3) (eK (.int 2)))) (eK (.int 4))))) sPass) R)
        [some (Lx ns), some (I start), some (I most), some (.own (.ls (oI P))), some (I days), none, none, none, none, none, none, none, none, none, none, none] = r := by
    by_cases q : gD P 3 % 4 = 0
    · have m := lit_mem (L := [0, 1, most - 1, most]) (c := gD P 2) (m := 4) rfl (by decide)
      refine ⟨gD [0, 1, most - 1, most] (gD P 2 % 4), ?_, ?_, fun R r h => seq_n (by sizeOf_list_dec) (seq_n (if_t (by sizeOf_list_dec) (by sizeOf_list_dec)) h)⟩
      · simp only [List.mem_cons, List.not_mem_nil, or_false] at m; omega
      · simp only [List.mem_cons, List.not_mem_nil, or_false] at m; omega
    · have b1 := Int.emod_nonneg (gD P 2) (show most + 1 ≠ 0 by omega)
      have b2 := Int.emod_lt_of_pos (gD P 2) (show 0 < most + 1 by omega)
      exact ⟨gD P 2 % (most + 1), b1, by omega, fun R r h => seq_n (by sizeOf_list_dec) (seq_n (if_f (by sizeOf_list_dec) rfl) h)⟩
  obtain ⟨n, rfl⟩ : ∃ n : Nat, many = n := ⟨many.toNat, by omega⟩
  obtain ⟨_, oL, oN, oI'⟩ := ord_c (c := cellV ns (start + 1)) (days := days) (by omega)
  obtain ⟨_, hL, hI⟩ := row_c (c := cellV ns (start + 2)) (n := n) (size := 10) (by omega)
  obtain ⟨_, bL, bI⟩ := row_c (c := cellV ns (start + 3)) (n := n) (size := 11) (by omega)
  obtain ⟨_, sL, sI⟩ := row_c (c := cellV ns (start + 4)) (n := n) (size := 1200) (by omega)
  obtain ⟨ρ', ef, cs, x13, x14, x15, x12, rfl, hc, ok⟩ := for_rng (i := 12) (b := w__law_house_k01_0) (a := eVar 5) (n := n)
    (ρ := st16 (Lx ns) (I start) (I most) P days n (gD P 4 % 7) (ordV (cellV ns (start + 1)) days) (rowV (cellV ns (start + 2)) n 10) (rowV (cellV ns (start + 3)) n 11) (rowV (cellV ns (start + 4)) n 1200) [] none none none none)
    (fun k ρ => ∃ cs x13 x14 x15 x12, ρ = st16 (Lx ns) (I start) (I most) P days n (gD P 4 % 7) (ordV (cellV ns (start + 1)) days) (rowV (cellV ns (start + 2)) n 10) (rowV (cellV ns (start + 3)) n 11) (rowV (cellV ns (start + 4)) n 1200) cs x12 x13 x14 x15 ∧ cs.length = k ∧ ∀ c ∈ cs, Cok days c)
    rfl (by omega) ⟨[], none, none, none, none, rfl, rfl, fun _ h => by cases h⟩ (by
      rintro k ρ hk ⟨cs, x13, x14, x15, x12, rfl, hc, ok⟩
      obtain ⟨c, y12, y13, y14, y15, hok, e⟩ := house_turn (a0 := Lx ns) (a1 := I start) (a2 := I most) (P := P) (O := ordV (cellV ns (start + 1)) days) (Hd := rowV (cellV ns (start + 2)) n 10) (B := rowV (cellV ns (start + 3)) n 11) (Sz := rowV (cellV ns (start + 4)) n 1200) (days := days) (style := gD P 4 % 7) (many := n) (k := k) (cs := cs) (x13 := x13) (x14 := x14) (x15 := x15)
        ⟨d1, d2⟩ (by omega) oL oN oI' (by omega) hI (by omega) bI (by omega) sI hk (by omega) hc ok
      refine nx_of e ⟨cs ++ [c], y13, y14, y15, y12, rfl, by simp [hc], fun z hz => ?_⟩
      rcases List.mem_append.mp hz with q | q
      · exact ok z q
      · rw [List.mem_singleton.mp q]; exact hok)
  refine ⟨days, cs, ?_, d1, d2, by omega, ok⟩
  refine run_ret [some (Lx ns), some (I start), some (I most), none, none, none, none, none, none, none, none, none, none, none, none, none] ?_
  refine seq_n (ρ' := [some (Lx ns), some (I start), some (I most), some (.own (.ls (oI P))), none, none, none, none, none, none, none, none, none, none, none, none]) (by rw [hP]; sizeOf_list_dec) (e1 _ _ (e2 _ _ ?_))
  refine seq_n (by sizeOf_list_dec) ?_
  refine seq_n (by sizeOf_list_dec) ?_
  refine seq_n (by sizeOf_list_dec) ?_
  refine seq_n (by sizeOf_list_dec) ?_
  refine seq_n (by sizeOf_list_dec) ?_
  refine seq_n (ρ' := st16 (Lx ns) (I start) (I most) P days n (gD P 4 % 7) (ordV (cellV ns (start + 1)) days) (rowV (cellV ns (start + 2)) n 10) (rowV (cellV ns (start + 3)) n 11) (rowV (cellV ns (start + 4)) n 1200) [] none none none none) (by sizeOf_list_dec) ?_
  exact seq_n (frz_id rfl ef) rfl
end PR

set_option Elab.async false
set_option linter.all false
set_option maxRecDepth 100000
set_option maxHeartbeats 4000000
namespace PR
open PySem VL
theorem is_row_D {s : Sl} {d : D} (h : Is s d) : φ_is_row [s] = .ok (.fz (.bool (rowOf d).isSome)) := by
  rcases h with rfl | rfl <;> cases d <;> rfl
theorem chain_v {a b c : EC} {ρ : Rho} {i j k : Int} (h1 : IntE a ρ i) (h2 : IntE b ρ j) (h3 : IntE c ρ k) : eChain fLe fLe a b c ρ = .ok (.val (.fz (.bool (decide (i ≤ j) && decide (j ≤ k))))) := by
  unfold eChain
  rw [h1]; simp only [VL.Res.bind]
  rw [h2]; simp only [VL.Res.bind]
  rw [le_s]; simp only [RV.d, Ow.toD]
  by_cases q : i ≤ j
  · simp only [q, decide_true]
    rw [h3]; simp only [VL.Res.bind]
    rw [le_s]; rfl
  · simp only [q, decide_false, Bool.false_and]
    rfl
theorem is_number_D {s : Sl} {d : D} (h : Is s d) (lo hi : Int) : φ_is_number [s, I lo, I hi] = .ok (.fz (.bool (isNum d lo hi))) := by
  cases d with
  | int v =>
    have ev : eVar 0 [some s, some (I lo), some (I hi)] = .ok (.val (.fz (.int v))) := by rw [ev_var (s := s) rfl, h.intv]
    exact run_ret [some s, some (I lo), some (I hi)] (seq_n (if_f (or_F (not_F (tb_v (un_v ev rfl))) (tb_v (un_v ev rfl))) rfl) (ret_v (chain_v rfl ev rfl)))
  | _ => rcases h with rfl | rfl <;> rfl
theorem and_v' {a b : EC} {ρ : Rho} {x : Bool} {r : Res RV} (h : a ρ = .ok (.val (.fz (.bool x)))) (k : x = true → b ρ = r) (k' : x = false → r = .ok (.val (.fz (.bool false)))) : eAnd a b ρ = r := by
  unfold eAnd
  rw [h]
  simp only [VL.Res.bind, RV.d, Ow.toD]
  cases x with
  | true => exact k rfl
  | false => exact (k' rfl).symm
theorem eand_s {a b : EC} {ρ : Rho} {x y : Bool} (h : a ρ = .ok (.val (.fz (.bool x)))) (k : x = true → b ρ = .ok (.val (.fz (.bool y)))) : eAnd a b ρ = .ok (.val (.fz (.bool (x && y)))) :=
  and_v' h (fun e => by rw [k e, e]; rfl) fun e => by rw [e]; rfl
theorem lnum_D {s : Sl} {d : D} (h : Is s d) (lo hi : Int) : φ__law_is_number_k01 [s, I lo, I hi] = .ok (.fz (.bool (isNum d lo hi))) := by
  cases d with
  | int v =>
    have ev : eVar 0 [some s, some (I lo), some (I hi)] = .ok (.val (.fz (.int v))) := by rw [ev_var (s := s) rfl, h.intv]
    exact run_ret [some s, some (I lo), some (I hi)] (ret_v (eand_s (x := true) (un_v ev rfl) fun _ => eand_s (x := true) (un_v (un_v ev rfl) rfl) fun _ => eand_s (bin_v rfl ev (le_s _ _)) fun _ => bin_v ev rfl (le_s _ _)))
  | _ => rcases h with rfl | rfl <;> rfl
theorem isnum_call {a b c : EC} {ρ : Rho} {t : Sl} {x : D} {lo hi : Int} (i : Nat) (ht : Is t x) (ha : a ρ = .ok (t.rv i)) (hb : IntE b ρ lo) (hc : IntE c ρ hi) : eCall φ_is_number [a, b, c] ρ = .ok (.val (.fz (.bool (isNum x lo hi)))) :=
  call_ok (xs := [t.rv i, .val (.fz (.int lo)), .val (.fz (.int hi))]) (ev_cons ha (ev_cons hb (ev_cons hc rfl))) (is_number_D (ht.arg i) lo hi)
theorem lnum_call {a b c : EC} {ρ : Rho} {rv : RV} {x : D} {lo hi : Int} (ht : Is rv.arg x) (ha : a ρ = .ok rv) (hb : IntE b ρ lo) (hc : IntE c ρ hi) : eCall φ__law_is_number_k01 [a, b, c] ρ = .ok (.val (.fz (.bool (isNum x lo hi)))) :=
  call_ok (xs := [rv, .val (.fz (.int lo)), .val (.fz (.int hi))]) (ev_cons ha (ev_cons hb (ev_cons hc rfl))) (lnum_D ht lo hi)
theorem isrow_call {a : EC} {ρ : Rho} {t : Sl} {x : D} (i : Nat) (ht : Is t x) (ha : a ρ = .ok (t.rv i)) : eCall φ_is_row [a] ρ = .ok (.val (.fz (.bool (rowOf x).isSome))) :=
  call_ok (xs := [t.rv i]) (ev_cons ha rfl) (is_row_D (ht.arg i))
/-! ### data compared with itself -/
theorem isIs_row {s : Sl} {d : D} (h : Is s d) (i : Nat) : fIsIs [.list, .tuple] (s.rv i) = .ok (.val (.fz (.bool (rowOf d).isSome))) := by
  show rD (.bool ([Ty.list, Ty.tuple].any fun c => inst (s.rv i).d c)) = _
  rw [h.rvd]
  cases d <;> rfl
theorem same_n : ∀ (n : Nat) {d : D} {s t : Sl}, lf d = true → PyData.depth d < n → PyData.weight d ≤ 1000000 → Is s d → Is t d → φ__law_same_k01_n n [s, t] = .ok (.fz (.bool true)) := by
  intro n
  induction n with
  | zero => intro d s t _ h; omega
  | succ n ih =>
    intro d s t hl hd hw hs ht
    have e0 : eVar 0 [some s, some t, none] = .ok (s.rv 0) := ev_var rfl
    have e1 : eVar 1 [some s, some t, none] = .ok (t.rv 1) := ev_var rfl
    have tI : ∀ c, VL.tB (eUn (fIsI c) (eVar 1)) [some s, some t, none] = .ok (inst d c) := fun c => tb_v (un_v e1 (isI_s ht 1 c))
    have sI : ∀ c, (eUn (fIsI c) (eVar 0)) [some s, some t, none] = .ok (.val (.fz (.bool (inst d c)))) := fun c => un_v e0 (isI_s hs 0 c)
    have tN : VL.tB (eUn fIsN (eVar 1)) [some s, some t, none] = .ok (isN d) := tb_v (un_v e1 (isN_s ht 1))
    have sN : (eUn fIsN (eVar 0)) [some s, some t, none] = .ok (.val (.fz (.bool (isN d)))) := un_v e0 (isN_s hs 0)
    have fit : Fit 1000000 n d := ⟨hl, hw, by omega⟩
    have row : ∀ ds, rowOf d = some ds → isN d = false → inst d .bool = false → inst d .int = false → inst d .str = false → (∀ x, inst d x = inst d x) → φ__law_same_k01_n (n + 1) [s, t] = .ok (.fz (.bool true)) := by
      intro ds e q1 q2 q3 q4 _
      have l0 : (eUn fLen (eVar 0)) [some s, some t, none] = .ok (.val (.fz (.int ds.length))) := un_v e0 (len_is hs e 0)
      have l1 : (eUn fLen (eVar 1)) [some s, some t, none] = .ok (.val (.fz (.int ds.length))) := un_v e1 (len_is ht e 1)
      have hn : ∃ m, n = m + 1 := by
        cases n with
        | zero => exact (fit.row0 e).elim
        | succ m => exact ⟨m, rfl⟩
      obtain ⟨m, rfl⟩ := hn
      have fr := fit.row e
      have two : ∀ c, VL.tAnd (VL.tB (eUn (fIsI c) (eVar 1))) (VL.tNot (VL.tB (eUn (fIsI c) (eVar 0)))) [some s, some t, none] = .ok false := fun c => by
        cases q : inst d c with
        | true => exact and_F (by rw [tI c, q]) (not_F (tb_v (by rw [sI c, q])))
        | false => exact and_f (by rw [tI c, q])
      refine run_ret [some s, some t, none] (seq_n (if_f (by rw [tN, q1]) rfl) (seq_n (if_f (by rw [tI, q2]) rfl) (seq_n (if_f (by rw [tI, q3]) rfl) (seq_n (if_f (by rw [tI, q4]) rfl) (seq_n (if_f (two _) rfl) (seq_n (if_f (two _) rfl) (seq_n (if_f (nF rfl (ne_t l0 l1)) rfl) (for_ok (rng1_big l1 (by have := fr.len; omega)) (fun v hv w hw => ?_) fun v hv => ?_))))))))
      · obtain ⟨k, rfl, hk⟩ := mem_rangeS0 hv
        obtain ⟨j, rfl, hj⟩ := mem_rangeS0 hw
        rfl
      · obtain ⟨k, rfl, hk⟩ := mem_rangeS0 hv
        have hx : ds[k]? = some ds[k] := List.getElem?_eq_getElem hk
        obtain ⟨r0, f0, _, i0, _⟩ := hs.ix 0 e hx
        obtain ⟨r1, f1, _, i1, _⟩ := ht.ix 1 e hx
        have fx := fr.split hx
        refine if_f (not_F (tb_v (call_ok (xs := [r0, r1]) (ev_cons (bin_v (ev_var rfl) rfl f0) (ev_cons (bin_v (ev_var rfl) rfl f1) rfl)) (ih fx.lf (by have := fx.dp; omega) fx.w i0 i1)))) rfl
    have shp : SeqAt.shaped d = true ∨ rowOf d ≠ none := by
      cases d with
      | list _ => exact .inr nofun
      | tuple _ => exact .inr nofun
      | dict _ => exact (lf_dict hl).elim
      | _ => exact .inl (Fit.shaped (n := 1000000) (k := 0) ⟨hl, hw, by simp [PyData.depth]⟩ (by decide))
    have feq : rowOf d = none → (eBin fEq (eVar 0) (eVar 1)) [some s, some t, none] = .ok (.val (.fz (.bool true))) := fun hr => by
      rcases shp with q | q
      · exact bin_v e0 e1 (fEq_self (by rw [hs.rvd, ht.rvd]) (by rw [ht.rvd]; exact q))
      · exact absurd hr q
    cases d with
    | none => exact run_ret [some s, some t, none] (seq_r (if_t tN (ret_v sN)))
    | bool b => exact run_ret [some s, some t, none] (seq_n (if_f tN rfl) (seq_r (if_t (tI .bool) (ret_v (eand_s (y := true) (sI .bool) fun _ => feq rfl)))))
    | int b => exact run_ret [some s, some t, none] (seq_n (if_f tN rfl) (seq_n (if_f (tI .bool) rfl) (seq_r (if_t (tI .int) (ret_v (eand_s (y := true) (sI .int) fun _ => eand_s (x := true) (y := true) (un_v (sI .bool) rfl) fun _ => feq rfl))))))
    | str b => exact run_ret [some s, some t, none] (seq_n (if_f tN rfl) (seq_n (if_f (tI .bool) rfl) (seq_n (if_f (tI .int) rfl) (seq_r (if_t (tI .str) (ret_v (eand_s (y := true) (sI .str) fun _ => feq rfl)))))))
    | list ds => exact row ds rfl rfl rfl rfl rfl fun _ => rfl
    | tuple ds => exact row ds rfl rfl rfl rfl rfl fun _ => rfl
    | dict _ => exact (lf_dict hl).elim
theorem same_self {d : D} {s t : Sl} (h : Fit 1000000 11 d) (hs : Is s d) (ht : Is t d) : φ__law_same_k01 [s, t] = .ok (.fz (.bool true)) := same_n 12 h.lf (by have := h.dp; omega) h.w hs ht
end PR

set_option Elab.async false
set_option linter.all false
set_option maxRecDepth 100000
set_option maxHeartbeats 4000000
namespace PR
open PySem VL
/-! ### a house, read -/
def xH (k : Int) : Exn := ⟨"BadHouse", [("at", .int k)]⟩
def xM (k : Int) : Exn := ⟨"TooMany", [("limit", .int k)]⟩
def okCp (days : Int) (c : D) : Option Cp := match rowOf c with
  | some [.int b, .int d, .int s] => if 0 ≤ b ∧ b ≤ days ∧ 1 ≤ d ∧ d ≤ days ∧ b ≠ d ∧ 0 ≤ s ∧ s ≤ 999 then some (b, d, s) else none
  | _ => none
inductive HR where
  | bad (k : Int)
  | many
  | good (days : Int) (cs : List Cp)
def readCs (days : Int) (cs : List D) : HR := match readL (okCp days) cs 0 [] with
  | .bad k => .bad k
  | .all xs => .good days xs
def readH (d : D) : HR := match rowOf d with
  | some [.int n, y] => (match rowOf y with
    | some cs => if 1 ≤ n ∧ n ≤ 10 then (if 30 < cs.length then .many else readCs n cs) else .bad (-1)
    | none => .bad (-1))
  | _ => .bad (-1)
/-- the same by cases -/
theorem readH_cases (d : D) : (∃ (n : Int) (y : D) (cs : List D), rowOf d = some [.int n, y] ∧ 1 ≤ n ∧ n ≤ 10 ∧ rowOf y = some cs ∧ readH d = if 30 < cs.length then .many else readCs n cs) ∨
    (readH d = .bad (-1) ∧ (rowOf d = none ∨ (∃ ds, rowOf d = some ds ∧ ds.length ≠ 2) ∨ ∃ x y, rowOf d = some [x, y] ∧ (isNum x 1 10 = false ∨ rowOf y = none))) := by
  cases e : rowOf d with
  | none => exact .inr ⟨by unfold readH; rw [e], .inl rfl⟩
  | some ds =>
    match ds, e with
    | [], e => exact .inr ⟨by unfold readH; rw [e], .inr (.inl ⟨_, rfl, by simp⟩)⟩
    | [_], e => exact .inr ⟨by unfold readH; rw [e]; split <;> first | (rename_i h; cases h; done) | rfl, .inr (.inl ⟨_, rfl, by simp⟩)⟩
    | _ :: _ :: _ :: _, e => exact .inr ⟨by unfold readH; rw [e]; split <;> first | (rename_i h; cases h; done) | rfl, .inr (.inl ⟨_, rfl, by simp⟩)⟩
    | [x, y], e =>
      cases x with
      | int n =>
        cases ey : rowOf y with
        | none => exact .inr ⟨by unfold readH; rw [e]; simp only [ey], .inr (.inr ⟨_, _, rfl, .inr ey⟩)⟩
        | some cs =>
          by_cases h : 1 ≤ n ∧ n ≤ 10
          · exact .inl ⟨n, y, cs, rfl, h.1, h.2, ey, by unfold readH; rw [e]; simp only [ey]; rw [if_pos h]⟩
          · refine .inr ⟨by unfold readH; rw [e]; simp only [ey]; rw [if_neg h], .inr (.inr ⟨_, _, rfl, .inl ?_⟩)⟩
            show (decide (1 ≤ n) && decide (n ≤ 10)) = false
            simpa using h
      | none => exact .inr ⟨by unfold readH; rw [e], .inr (.inr ⟨_, _, rfl, .inl rfl⟩)⟩
      | bool _ => exact .inr ⟨by unfold readH; rw [e], .inr (.inr ⟨_, _, rfl, .inl rfl⟩)⟩
      | str _ => exact .inr ⟨by unfold readH; rw [e], .inr (.inr ⟨_, _, rfl, .inl rfl⟩)⟩
      | list _ => exact .inr ⟨by unfold readH; rw [e], .inr (.inr ⟨_, _, rfl, .inl rfl⟩)⟩
      | tuple _ => exact .inr ⟨by unfold readH; rw [e], .inr (.inr ⟨_, _, rfl, .inl rfl⟩)⟩
      | dict _ => exact .inr ⟨by unfold readH; rw [e], .inr (.inr ⟨_, _, rfl, .inl rfl⟩)⟩
abbrev F (d : D) : Sl := .own (.fz d)
theorem frame_bad {d : D} (h : rowOf d = none ∨ (∃ ds, rowOf d = some ds ∧ ds.length ≠ 2) ∨ ∃ x y, rowOf d = some [x, y] ∧ (isNum x 1 10 = false ∨ rowOf y = none)) : φ_check_frame [F d] = .err (xH (-1)) := by
  have r0 : VL.tB (eCall φ_is_row [eVar 0]) [some (F d), none, none] = .ok (rowOf d).isSome := tb_v (isrow_call 0 (.inl rfl) rfl)
  have rs : sRaise "BadHouse" "at" (eUn fNeg (eK (.int 1))) [some (F d), none, none] = .err (xH (-1)) [some (F d), none, none] := raise_v rfl rfl
  rcases h with h | ⟨ds, h, hl⟩ | ⟨x, y, h, h2⟩
  · exact run_err [some (F d), none, none] (seq_e (if_t (or_t (not_T (by rw [r0, h]; rfl))) rs))
  · have l0 : (eUn fLen (eVar 0)) [some (F d), none, none] = .ok (.val (.fz (.int ds.length))) := un_v rfl (len_is (s := F d) (.inl rfl) h 0)
    exact run_err [some (F d), none, none] (seq_e (if_t (or_T (not_F (by rw [r0, h]; rfl)) (ne_T l0 rfl (by omega))) rs))
  · have l0 : (eUn fLen (eVar 0)) [some (F d), none, none] = .ok (.val (.fz (.int 2))) := un_v rfl (len_is (s := F d) (.inl rfl) h 0)
    refine run_err [some (F d), none, none] (seq_n (if_f (or_F (not_F (by rw [r0, h]; rfl)) (ne_F l0 rfl rfl)) rfl) (seq_n (ρ' := [some (F d), some (F x), some (F y)]) (unp_s (d := d) (ds := [x, y]) rfl h rfl) (seq_e (frz_id rfl (frz_id rfl (if_t ?_ (raise_v rfl rfl)))))))
    have n1 : VL.tB (eCall φ_is_number [eVar 1, eK (.int 1), eK (.int 10)]) [some (F d), some (F x), some (F y)] = .ok (isNum x 1 10) := tb_v (isnum_call 1 (.inl rfl) rfl rfl rfl)
    have n2 : VL.tB (eCall φ_is_row [eVar 2]) [some (F d), some (F x), some (F y)] = .ok (rowOf y).isSome := tb_v (isrow_call 2 (.inl rfl) rfl)
    rcases h2 with h2 | h2
    · exact or_t (not_T (by rw [n1, h2]))
    · cases q : isNum x 1 10 with
      | false => exact or_t (not_T (by rw [n1, q]))
      | true => exact or_T (not_F (by rw [n1, q])) (not_T (by rw [n2, h2]; rfl))
theorem frame_ok {d y : D} {n : Int} {cs : List D} (h : rowOf d = some [.int n, y]) (h1 : 1 ≤ n) (h2 : n ≤ 10) (hy : rowOf y = some cs) : φ_check_frame [F d] = if 30 < cs.length then .err (xM 30) else .ok (.fz (.tuple [.int n, y])) := by
  have r0 : VL.tB (eCall φ_is_row [eVar 0]) [some (F d), none, none] = .ok (rowOf d).isSome := tb_v (isrow_call 0 (.inl rfl) rfl)
  have l0 : (eUn fLen (eVar 0)) [some (F d), none, none] = .ok (.val (.fz (.int 2))) := un_v rfl (len_is (s := F d) (.inl rfl) h 0)
  have n1 : VL.tB (eCall φ_is_number [eVar 1, eK (.int 1), eK (.int 10)]) [some (F d), some (I n), some (F y)] = .ok (isNum (.int n) 1 10) := tb_v (isnum_call 1 (.inl rfl) rfl rfl rfl)
  have n2 : VL.tB (eCall φ_is_row [eVar 2]) [some (F d), some (I n), some (F y)] = .ok (rowOf y).isSome := tb_v (isrow_call 2 (.inl rfl) rfl)
  have n0 : isNum (.int n) 1 10 = true := by show (decide (1 ≤ n) && decide (n ≤ 10)) = true; simp [h1, h2]
  have l2 : (eUn fLen (eVar 2)) [some (F d), some (I n), some (F y)] = .ok (.val (.fz (.int cs.length))) := un_v rfl (len_is (s := F y) (.inl rfl) hy 2)
  have top : ∀ (R : SC) (r : SRes), R [some (F d), some (I n), some (F y)] = r → sSeq (sIf (tOr (tNot (tB (eCall φ_is_row [(eVar 0)]))) (tB (eBin fNe (eUn fLen (eVar 0)) (eK (.int 2))))) (sRaise "BadHouse" "at" (eUn fNeg (eK (.int 1)))) sPass) (sSeq (sUnp [1, 2] (eVar 0)) (sSeq (sFrz 2 (sFrz 1 (sIf (tOr (tNot (tB (eCall φ_is_number [(eVar 1), (eK (.int 1)), (eK (.int 10))]))) (tNot (tB (eCall φ_is_row [(eVar 2)])))) (sRaise "BadHouse" "at" (eUn fNeg (eK (.int 1)))) sPass))) R)) [some (F d), none, none] = r := fun R r hR =>
    seq_n (if_f (or_F (not_F (by rw [r0, h]; rfl)) (ne_F l0 rfl rfl)) rfl) (seq_n (ρ' := [some (F d), some (I n), some (F y)]) (unp_s (d := d) (ds := [.int n, y]) rfl h rfl) (seq_n (frz_id rfl (frz_id rfl (if_f (or_F (not_F (by rw [n1, n0])) (not_F (by rw [n2, hy]; rfl))) rfl))) hR))
  by_cases q : 30 < cs.length
  · rw [if_pos q]
    exact run_err [some (F d), none, none] (top _ _ (seq_e (if_t (gt_T l2 rfl (by omega)) (raise_v rfl rfl))))
  · rw [if_neg q]
    exact run_ret [some (F d), none, none] (top _ _ (seq_n (if_f (gt_F l2 rfl (by omega)) rfl) rfl))
/-- a copy's three members -/
theorem okCp_none {days : Int} {c : D} (h : okCp days c = none) : rowOf c = none ∨ (∃ ds, rowOf c = some ds ∧ ds.length ≠ 3) ∨ ∃ x y z, rowOf c = some [x, y, z] ∧ (isNum y 1 days = false ∨ isNum x 0 days = false ∨ (∃ b, x = .int b ∧ y = .int b) ∨ isNum z 0 999 = false) := by
  cases e : rowOf c with
  | none => exact .inl rfl
  | some ds =>
    match ds, e with
    | [], e => exact .inr (.inl ⟨_, rfl, by simp⟩)
    | [_], e => exact .inr (.inl ⟨_, rfl, by simp⟩)
    | [_, _], e => exact .inr (.inl ⟨_, rfl, by simp⟩)
    | _ :: _ :: _ :: _ :: _, e => exact .inr (.inl ⟨_, rfl, by simp⟩)
    | [x, y, z], e =>
      refine .inr (.inr ⟨x, y, z, rfl, ?_⟩)
      cases hy : isNum y 1 days with
      | false => exact .inl rfl
      | true =>
        cases hx : isNum x 0 days with
        | false => exact .inr (.inl rfl)
        | true =>
          cases hz : isNum z 0 999 with
          | false => exact .inr (.inr (.inr rfl))
          | true =>
            obtain ⟨b, rfl, b1, b2⟩ := isNum_scal hx
            obtain ⟨d, rfl, d1, d2⟩ := isNum_scal hy
            obtain ⟨s, rfl, s1, s2⟩ := isNum_scal hz
            by_cases q : b = d
            · subst q; exact .inr (.inr (.inl ⟨b, rfl, rfl⟩))
            · unfold okCp at h
              rw [e] at h
              simp only at h
              rw [if_pos ⟨b1, b2, d1, d2, q, s1, s2⟩] at h
              cases h
theorem okCp_some {days : Int} {c : D} {z : Cp} (h : okCp days c = some z) : rowOf c = some [.int z.1, .int z.2.1, .int z.2.2] ∧ Cok days z := by
  unfold okCp at h
  split at h
  · rename_i b d s e
    split at h
    · rename_i q
      cases h
      exact ⟨e, q⟩
    · cases h
  · cases h
def isLink (days : Int) (x y : D) : Bool := isNum y 1 days && (isNum x 0 days && (match x, y with
  | .int b, .int d => !decide (b = d)
  | _, _ => true))
theorem is_link_s (days : Int) (x y : D) : φ_is_link [I days, F x, F y] = .ok (.fz (.bool (isLink days x y))) := by
  refine run_ret [some (I days), some (F x), some (F y)] (ret_v (eand_s (isnum_call (t := F y) 2 (.inl rfl) rfl rfl rfl) fun h1 => eand_s (isnum_call (t := F x) 1 (.inl rfl) rfl rfl rfl) fun h2 => ?_))
  obtain ⟨d, rfl, _⟩ := isNum_scal h1
  obtain ⟨b, rfl, _⟩ := isNum_scal h2
  exact bin_v rfl rfl (fNe_int _ _)
theorem link_call {a b c : EC} {ρ : Rho} {days : Int} {x y : D} (ha : IntE a ρ days) (hb : b ρ = .ok (.val (.fz x))) (hc : c ρ = .ok (.val (.fz y))) : eCall φ_is_link [a, b, c] ρ = .ok (.val (.fz (.bool (isLink days x y)))) :=
  call_ok (xs := [.val (.fz (.int days)), .val (.fz x), .val (.fz y)]) (ev_cons ha (ev_cons hb (ev_cons hc rfl))) (is_link_s days x y)
theorem cok_link {days : Int} {z : Cp} (h : Cok days z) : isLink days (.int z.1) (.int z.2.1) = true ∧ isNum (.int z.2.2) 0 999 = true := by
  obtain ⟨h1, h2, h3, h4, h5, h6, h7⟩ := h
  constructor
  · show ((decide (1 ≤ z.2.1) && decide (z.2.1 ≤ days)) && ((decide (0 ≤ z.1) && decide (z.1 ≤ days)) && !decide (z.1 = z.2.1))) = true
    simp [h1, h2, h3, h4, h5]
  · show (decide (0 ≤ z.2.2) && decide (z.2.2 ≤ 999)) = true
    simp [h6, h7]
theorem bad_link {days : Int} {x y z : D} (h : isNum y 1 days = false ∨ isNum x 0 days = false ∨ (∃ b, x = .int b ∧ y = .int b) ∨ isNum z 0 999 = false) : isLink days x y = false ∨ isNum z 0 999 = false := by
  rcases h with h | h | ⟨b, rfl, rfl⟩ | h
  · left; unfold isLink; rw [h]; rfl
  · left; unfold isLink; rw [h]; simp
  · left; unfold isLink; simp
  · exact .inr h
theorem ch_body {d y c : D} {n : Int} {acc : List Cp} {k : Nat} {x6 x7 x8 : Option Sl} (hl : acc.length < 16777216) :
    match okCp n c with
    | some z => w_check_house_0 [some (F d), some (I n), some (F y), some (.own (.ls (cpsO acc))), some (I k), some (F c), x6, x7, x8] = .next [some (F d), some (I n), some (F y), some (.own (.ls (cpsO (acc ++ [z])))), some (I k), some (F c), some (I z.1), some (I z.2.1), some (I z.2.2)]
    | none => ∃ ρ', w_check_house_0 [some (F d), some (I n), some (F y), some (.own (.ls (cpsO acc))), some (I k), some (F c), x6, x7, x8] = .err (xH k) ρ' := by
  have r0 : VL.tB (eCall φ_is_row [eVar 5]) [some (F d), some (I n), some (F y), some (.own (.ls (cpsO acc))), some (I k), some (F c), x6, x7, x8] = .ok (rowOf c).isSome := tb_v (isrow_call 5 (.inl rfl) rfl)
  have l0 : ∀ ds, rowOf c = some ds → (eUn fLen (eVar 5)) [some (F d), some (I n), some (F y), some (.own (.ls (cpsO acc))), some (I k), some (F c), x6, x7, x8] = .ok (.val (.fz (.int ds.length))) := fun ds h => un_v rfl (len_is (s := F c) (.inl rfl) h 5)
  have lk : ∀ x y' z : D, VL.tB (eCall φ_is_link [eVar 1, eVar 6, eVar 7]) [some (F d), some (I n), some (F y), some (.own (.ls (cpsO acc))), some (I k), some (F c), some (F x), some (F y'), some (F z)] = .ok (isLink n x y') := fun x y' z => tb_v (link_call rfl rfl rfl)
  have nk : ∀ x y' z : D, VL.tB (eCall φ_is_number [eVar 8, eK (.int 0), eK (.int 999)]) [some (F d), some (I n), some (F y), some (.own (.ls (cpsO acc))), some (I k), some (F c), some (F x), some (F y'), some (F z)] = .ok (isNum z 0 999) := fun x y' z => tb_v (isnum_call 8 (.inl rfl) rfl rfl rfl)
  cases e : okCp n c with
  | none =>
    rcases okCp_none e with h | ⟨ds, h, hl⟩ | ⟨x, y', z, h, hb⟩
    · exact ⟨_, seq_e (if_t (or_t (not_T (by rw [r0, h]; rfl))) (raise_v rfl rfl))⟩
    · exact ⟨_, seq_e (if_t (or_T (not_F (by rw [r0, h]; rfl)) (ne_T (l0 ds h) rfl (by omega))) (raise_v rfl rfl))⟩
    · refine ⟨_, seq_n (if_f (or_F (not_F (by rw [r0, h]; rfl)) (ne_F (l0 _ h) rfl rfl)) rfl) (seq_n (ρ' := [some (F d), some (I n), some (F y), some (.own (.ls (cpsO acc))), some (I k), some (F c), some (F x), some (F y'), some (F z)]) (unp_s (d := c) rfl h rfl) (seq_e (frz_id rfl (frz_id rfl (frz_id rfl (frz_id rfl (if_t ?_ (raise_v rfl rfl))))))))⟩
      rcases bad_link hb with q | q
      · exact or_t (not_T (by rw [lk, q]))
      · cases q2 : isLink n x y' with
        | false => exact or_t (not_T (by rw [lk, q2]))
        | true => exact or_T (not_F (by rw [lk, q2])) (not_T (by rw [nk, q]))
  | some z =>
    obtain ⟨h, hz⟩ := okCp_some e
    obtain ⟨q1, q2⟩ := cok_link hz
    exact seq_n (if_f (or_F (not_F (by rw [r0, h]; rfl)) (ne_F (l0 _ h) rfl rfl)) rfl) (seq_n (ρ' := [some (F d), some (I n), some (F y), some (.own (.ls (cpsO acc))), some (I k), some (F c), some (I z.1), some (I z.2.1), some (I z.2.2)]) (unp_s (d := c) rfl h rfl) (seq_n (frz_id rfl (frz_id rfl (frz_id rfl (frz_id rfl (if_f (or_F (not_F (by rw [lk, q1])) (not_F (by rw [nk, q2]))) rfl))))) (frz_id rfl (frz_id rfl (frz_id rfl (app_cp rfl (tup3 rfl rfl rfl) rfl hl rfl))))))
theorem check_house_s {d : D} (hd : ∀ y cs n, rowOf d = some [.int n, y] → rowOf y = some cs → cs.length < 16777216) : match readH d with
    | .bad k => φ_check_house [F d] = .err (xH k)
    | .many => φ_check_house [F d] = .err (xM 30)
    | .good n cs => φ_check_house [F d] = .ok (.tp [.fz (.int n), .ls (cpsO cs)]) := by
  rcases readH_cases d with ⟨n, y, ds, h, h1, h2, hy, e⟩ | ⟨e, h⟩
  · rw [e]
    have fr := frame_ok h h1 h2 hy
    by_cases q : 30 < ds.length
    · rw [if_pos q] at fr ⊢
      exact run_err [some (F d), none, none, none, none, none, none, none, none] (seq_e (unp_e (call_err (xs := [.val (.fz d)]) rfl fr)))
    · rw [if_neg q] at fr ⊢
      have e1 : eCall φ_check_frame [eVar 0] [some (F d), none, none, none, none, none, none, none, none] = .ok (.val (.fz (.tuple [.int n, y]))) := call_ok (xs := [.val (.fz d)]) rfl fr
      have key := forL_read (f := okCp n) (tg := [4, 5]) (b := w_check_house_0) (fun k acc ρ => acc.length = k ∧ ∃ x4 x5 x6 x7 x8, ρ = [some (F d), some (I n), some (F y), some (.own (.ls (cpsO acc))), x4, x5, x6, x7, x8])
        (fun k r => ∃ ρ', r = .err (xH k) ρ') (fun k r ⟨ρ', h⟩ => .inr ⟨_, ρ', h⟩) ds (enumS 0 (ds.map slOf)) 0 [] [some (F d), some (I n), some (F y), some (.own (.ls (cpsO []))), none, none, none, none, none] (by rw [enumS_len]; simp) ⟨rfl, _, _, _, _, _, rfl⟩ (by
          rintro k x v ρ acc hx hv ⟨ha, x4, x5, x6, x7, x8, rfl⟩
          obtain ⟨x', hx', rfl⟩ := enum_get hv
          rw [hx] at hx'
          cases hx'
          have hk := (List.getElem?_eq_some_iff.mp hx).1
          have := ch_body (d := d) (y := y) (c := x) (n := n) (acc := acc) (k := k) (x6 := x6) (x7 := x7) (x8 := x8) (by have := hd y ds n h hy; omega)
          cases eo : okCp n x with
          | none =>
            rw [eo] at this
            simp only [Nat.zero_add]
            exact this
          | some z =>
            rw [eo] at this
            exact ⟨_, this, by simp [ha], _, _, _, _, _, rfl⟩)
      have top : ∀ (r : SRes), sSeq (sFor [4, 5] (iEnum (eVar 2)) w_check_house_0) (sRetM [.mv 1, .mv 3]) [some (F d), some (I n), some (F y), some (.own (.ls (cpsO []))), none, none, none, none, none] = r → b_check_house [some (F d), none, none, none, none, none, none, none, none] = r := fun r hr =>
        seq_n (ρ' := [some (F d), some (I n), some (F y), none, none, none, none, none, none]) (unp_s (d := .tuple [.int n, y]) e1 rfl rfl) (seq_n (ρ' := [some (F d), some (I n), some (F y), some (.own (.ls (cpsO []))), none, none, none, none, none]) rfl hr)
      unfold readCs
      cases er : readL (okCp n) ds 0 [] with
      | bad k =>
        rw [er] at key
        obtain ⟨ρ', ek⟩ := key
        exact run_err [some (F d), none, none, none, none, none, none, none, none] (top _ (seq_e (by rw [← ek]; exact for_r (enum_s (d := y) rfl hy) rfl)))
      | all cs =>
        rw [er] at key
        obtain ⟨ρ', ek, _, x4, x5, x6, x7, x8, rfl⟩ := key
        exact run_ret [some (F d), none, none, none, none, none, none, none, none] (top _ (seq_n (for_n (enum_s (d := y) rfl hy) ek) rfl))
  · rw [e]
    exact run_err [some (F d), none, none, none, none, none, none, none, none] (seq_e (unp_e (call_err (xs := [.val (.fz d)]) rfl (frame_bad h))))
end PR

set_option Elab.async false
set_option linter.all false
set_option maxRecDepth 100000
set_option maxHeartbeats 4000000
namespace PR
open PySem VL
/-! ### what was read, as data -/
theorem readL_ok {days : Int} : ∀ {ds : List D} {k : Nat} {acc xs : List Cp}, readL (okCp days) ds k acc = .all xs → (∀ z ∈ acc, Cok days z) → (∀ z ∈ xs, Cok days z) ∧ xs.length = acc.length + ds.length
  | [], _, _, _, h, ha => by cases h; exact ⟨ha, rfl⟩
  | d :: ds, k, acc, xs, h, ha => by
    unfold readL at h
    cases e : okCp days d with
    | none => rw [e] at h; cases h
    | some z =>
      rw [e] at h
      obtain ⟨h1, h2⟩ := readL_ok h (fun y hy => by
        rcases List.mem_append.mp hy with q | q
        · exact ha y q
        · rw [List.mem_singleton.mp q]; exact (okCp_some e).2)
      exact ⟨h1, by rw [h2]; simp; omega⟩
theorem readL_bad {days : Int} : ∀ {ds : List D} {k n : Nat} {acc : List Cp}, readL (okCp days) ds k acc = .bad n → n < k + ds.length
  | [], _, _, _, h => by cases h
  | d :: ds, k, n, acc, h => by
    unfold readL at h
    cases e : okCp days d with
    | none => rw [e] at h; cases h; simp
    | some z =>
      rw [e] at h
      have := readL_bad h
      simp; omega
/-- what is read of a house is a house -/
theorem readH_good {d : D} {n : Int} {cs : List Cp} (h : readH d = .good n cs) : 1 ≤ n ∧ n ≤ 10 ∧ cs.length ≤ 30 ∧ ∀ c ∈ cs, Cok n c := by
  rcases readH_cases d with ⟨m, y, ds, h0, h1, h2, hy, e⟩ | ⟨e, _⟩
  · rw [h] at e
    by_cases q : 30 < ds.length
    · rw [if_pos q] at e; cases e
    · rw [if_neg q] at e
      unfold readCs at e
      cases er : readL (okCp m) ds 0 [] with
      | bad k => rw [er] at e; cases e
      | all xs =>
        rw [er] at e
        cases e
        obtain ⟨a, b⟩ := readL_ok er (fun _ z => by cases z)
        exact ⟨h1, h2, by simp at b; omega, a⟩
  · rw [h] at e; cases e
theorem readH_bad {d : D} {k : Int} (h : readH d = .bad k) : -1 ≤ k ∧ k ≤ 30 := by
  rcases readH_cases d with ⟨m, y, ds, h0, h1, h2, hy, e⟩ | ⟨e, _⟩
  · rw [h] at e
    by_cases q : 30 < ds.length
    · rw [if_pos q] at e; cases e
    · rw [if_neg q] at e
      unfold readCs at e
      cases er : readL (okCp m) ds 0 [] with
      | bad k =>
        rw [er] at e
        cases e
        have := readL_bad er
        omega
      | all xs => rw [er] at e; cases e
  · rw [h] at e; cases e; omega
theorem fit_cp {days : Int} {c : Cp} (h : Cok days c) (hd : days ≤ 10) : Fit 33 1 (cpD c) := by
  obtain ⟨h1, h2, h3, h4, h5, h6, h7⟩ := h
  exact ((FitR.cons (fit_int (by omega) 0) (FitR.cons (fit_int (by omega) 0) (FitR.one (fit_int (by omega) 0)))).tuple).mono (by decide) (by decide)
theorem fit_cps {days : Int} : ∀ {cs : List Cp}, (∀ c ∈ cs, Cok days c) → days ≤ 10 → FitR (34 * cs.length) 1 (cs.map cpD)
  | [], _, _ => FitR.nil.mono (by simp) (by decide)
  | c :: cs, h, hd => by
    have h1 := fit_cp (h c List.mem_cons_self) hd
    have h2 := fit_cps (cs := cs) (fun x hx => h x (List.mem_cons_of_mem _ hx)) hd
    exact (FitR.cons h1 h2).mono (by simp; omega) (Nat.le_refl _)
theorem cpsO_toD (cs : List Cp) : (Ow.ls (cpsO cs)).toD = .list (cs.map cpD) := by
  show PyData.list (toDs (cpsO cs)) = _
  have : cpsO cs = (cs.map cpD).map Ow.fz := by simp [cpsO]
  rw [this, toDs_fz]
def hrD : HR → D
  | .bad k => .tuple [.str "house", .int k, .bool true]
  | .many => .tuple [.str "many", .int 30, .bool true]
  | .good n cs => .tuple [.str "good", .tuple [.int n, .list (cs.map cpD)], .bool true]
def hrO : HR → Ow
  | .bad k => .fz (.tuple [.str "house", .int k, .bool true])
  | .many => .fz (.tuple [.str "many", .int 30, .bool true])
  | .good n cs => .tp [.fz (.str "good"), .tp [.fz (.int n), .ls (cpsO cs)], .fz (.bool true)]
theorem hrO_toD (r : HR) : (hrO r).toD = hrD r := by
  cases r with
  | bad k => rfl
  | many => rfl
  | good n cs =>
    show PyData.tuple [.str "good", .tuple [.int n, (Ow.ls (cpsO cs)).toD], .bool true] = _
    rw [cpsO_toD]; rfl
theorem fit_bool (b : Bool) (k : Nat) : Fit 0 k (.bool b) := ⟨by rw [lf], by simp [PyData.weight], by simp [PyData.depth]⟩
theorem fit_hr {d : D} : Fit 2000 4 (hrD (readH d)) := by
  cases e : readH d with
  | bad k =>
    have := readH_bad e
    exact ((FitR.cons (n := 100) (k := 0) (m := 12) ⟨by decide +kernel, by decide +kernel, by decide +kernel⟩ (FitR.cons (n := 10) (m := 1) (fit_int (by omega) 0) (FitR.one (fit_bool true 0)))).tuple).mono (by decide) (by decide)
  | many => exact ⟨by decide +kernel, by decide +kernel, by decide +kernel⟩
  | good n cs =>
    obtain ⟨h1, h2, h3, h4⟩ := readH_good e
    exact ((FitR.cons (n := 100) (k := 3) ⟨by decide +kernel, by decide +kernel, by decide +kernel⟩ (FitR.cons (FitR.tuple (FitR.cons (k := 2) (fit_int (by omega) 2) (FitR.one (fit_cps h4 h2).list))) (FitR.one (fit_bool true 3)))).tuple).mono (by omega) (by decide)
end PR

set_option Elab.async false
set_option linter.all false
set_option maxRecDepth 100000
set_option maxHeartbeats 4000000
namespace PR
open PySem VL
/-! ### a row read member by member, each with what was read before it -/
def readA {α : Type} (f : List α → D → Option α) : List D → Nat → List α → Rd α
  | [], _, acc => .all acc
  | d :: r, k, acc => match f acc d with
    | some z => readA f r (k + 1) (acc ++ [z])
    | none => .bad k
theorem forL_readA {α : Type} {f : List α → D → Option α} {tg : List Nat} {b : SC} (St : Nat → List α → Rho → Prop) (Bad : Nat → SRes → Prop) (hB : ∀ n r, Bad n r → (∃ ow, r = .ret ow) ∨ ∃ x ρ', r = .err x ρ') :
    ∀ (ds : List D) (vs : List (List Sl)) (k0 : Nat) (acc : List α) (ρ : Rho), vs.length = ds.length → St k0 acc ρ →
      (∀ (k : Nat) x v ρ acc, ds[k]? = some x → vs[k]? = some v → St (k0 + k) acc ρ → match f acc x with
        | some z => ∃ ρ', b (setAll tg v ρ) = .next ρ' ∧ St (k0 + k + 1) (acc ++ [z]) ρ'
        | none => Bad (k0 + k) (b (setAll tg v ρ))) →
      match readA f ds k0 acc with
      | .all xs => ∃ ρ', forL tg b vs ρ = .next ρ' ∧ St (k0 + ds.length) xs ρ'
      | .bad k => Bad k (forL tg b vs ρ)
  | [], vs, k0, acc, ρ, hl, h0, _ => by
    cases vs with
    | nil => exact ⟨ρ, rfl, h0⟩
    | cons _ _ => simp at hl
  | d :: ds, vs, k0, acc, ρ, hl, h0, st => by
    cases vs with
    | nil => simp at hl
    | cons v vs =>
      have s0 := st 0 d v ρ acc rfl rfl h0
      unfold readA
      cases e : f acc d with
      | none =>
        rw [e] at s0
        simp only [Nat.add_zero] at s0
        have q := hB _ _ s0
        show Bad k0 (forL tg b (v :: vs) ρ)
        have : forL tg b (v :: vs) ρ = b (setAll tg v ρ) := by
          unfold forL
          rcases q with ⟨ow, q⟩ | ⟨x, ρ', q⟩ <;> rw [q]
        rw [this]; exact s0
      | some z =>
        rw [e] at s0
        obtain ⟨ρ', e1, h1⟩ := s0
        have ih := forL_readA St Bad hB ds vs (k0 + 1) (acc ++ [z]) ρ' (by simpa using hl) (by simpa using h1) fun k x v ρ acc hx hv hS => by
          have := st (k + 1) x v ρ acc (by simpa using hx) (by simpa using hv) (by rw [show k0 + (k + 1) = k0 + 1 + k by omega]; exact hS)
          rw [show k0 + (k + 1) = k0 + 1 + k by omega] at this
          exact this
        have : forL tg b (v :: vs) ρ = forL tg b vs ρ' := by
          conv => lhs; unfold forL
          rw [e1]
        simp only [this]
        rw [show k0 + (d :: ds).length = k0 + 1 + ds.length by simp; omega]
        exact ih
/-! ### choices -/
def okCh (lo hi : Int) (acc : List Int) (d : D) : Option Int := match d with
  | .int v => if lo ≤ v ∧ v ≤ hi ∧ (acc.getLast?.getD (lo - 1)) < v then some v else none
  | _ => none
def chR (lo hi : Int) (ds : List D) : Rd Int := readA (okCh lo hi) ds 0 []
theorem okCh_some {lo hi : Int} {acc : List Int} {d : D} {z : Int} (h : okCh lo hi acc d = some z) : d = .int z ∧ lo ≤ z ∧ z ≤ hi ∧ (acc.getLast?.getD (lo - 1)) < z := by
  cases d with
  | int v =>
    have h : (if lo ≤ v ∧ v ≤ hi ∧ (acc.getLast?.getD (lo - 1)) < v then some v else none) = some z := h
    split at h
    · rename_i q; cases h; exact ⟨rfl, q⟩
    · cases h
  | _ => cases h
theorem okCh_none {lo hi : Int} {acc : List Int} {d : D} (h : okCh lo hi acc d = none) : isNum d lo hi = false ∨ ∃ v, d = .int v ∧ lo ≤ v ∧ v ≤ hi ∧ v ≤ acc.getLast?.getD (lo - 1) := by
  cases d with
  | int v =>
    have h : (if lo ≤ v ∧ v ≤ hi ∧ (acc.getLast?.getD (lo - 1)) < v then some v else none) = none := h
    split at h
    · cases h
    · rename_i q
      by_cases q2 : lo ≤ v ∧ v ≤ hi
      · exact .inr ⟨v, rfl, q2.1, q2.2, by omega⟩
      · left
        show (decide (lo ≤ v) && decide (v ≤ hi)) = false
        simpa using q2
  | _ => exact .inl rfl
theorem readCh_all {lo hi : Int} : ∀ {ds : List D} {k : Nat} {acc L : List Int}, readA (okCh lo hi) ds k acc = .all L → acc.Pairwise (· < ·) → (∀ x ∈ acc, lo ≤ x ∧ x ≤ hi) → L.Pairwise (· < ·) ∧ (∀ x ∈ L, lo ≤ x ∧ x ≤ hi) ∧ dI L = dI acc ++ ds
  | [], _, _, _, h, hp, hb => by cases h; exact ⟨hp, hb, by simp⟩
  | d :: ds, k, acc, L, h, hp, hb => by
    unfold readA at h
    cases e : okCh lo hi acc d with
    | none => rw [e] at h; cases h
    | some z =>
      rw [e] at h
      obtain ⟨rfl, z1, z2, z3⟩ := okCh_some e
      have hp' : (acc ++ [z]).Pairwise (· < ·) := by
        refine List.pairwise_append.mpr ⟨hp, by simp, fun a ha b hb' => ?_⟩
        rw [List.mem_singleton.mp hb']
        cases el : acc.getLast? with
        | none => rw [List.getLast?_eq_none_iff.mp el] at ha; cases ha
        | some l =>
          rw [el] at z3
          simp only [Option.getD_some] at z3
          have hl := List.getLast?_eq_some_iff.mp el
          obtain ⟨ys, rfl⟩ := hl
          rcases List.mem_append.mp ha with q | q
          · have := (List.pairwise_append.mp hp).2.2 a q l (by simp)
            omega
          · rw [List.mem_singleton.mp q]; exact z3
      have hb2 : ∀ x ∈ acc ++ [z], lo ≤ x ∧ x ≤ hi := fun x hx => by
        rcases List.mem_append.mp hx with q | q
        · exact hb x q
        · rw [List.mem_singleton.mp q]; exact ⟨z1, z2⟩
      obtain ⟨a1, a2, a3⟩ := readCh_all h hp' hb2
      exact ⟨a1, a2, by rw [a3]; simp [dI]⟩
theorem chR_all {lo hi : Int} {ds : List D} {L : List Int} (h : chR lo hi ds = .all L) : L.Pairwise (· < ·) ∧ (∀ x ∈ L, lo ≤ x ∧ x ≤ hi) ∧ ds = dI L := by
  obtain ⟨a, b, c⟩ := readCh_all h .nil (fun _ z => by cases z)
  exact ⟨a, b, by rw [c]; rfl⟩
theorem last_ix {acc : List Int} {ds : List D} {k : Nat} (h : ds.take k = dI acc) (hk : k ≤ ds.length) (h0 : 0 < k) : ∃ l, acc.getLast? = some l ∧ ds[k - 1]? = some (.int l) := by
  have hl : acc.length = k := by
    have := congrArg List.length h
    rw [List.length_take, dI_len] at this; omega
  have e : (ds.take k)[k - 1]? = (dI acc)[k - 1]? := by rw [h]
  rw [List.getElem?_take_of_lt (by omega), dI_get] at e
  refine ⟨acc[k - 1]'(by omega), ?_, ?_⟩
  · subst hl
    rw [List.getLast?_eq_getElem?, List.getElem?_eq_getElem (by omega)]
  · rw [e, List.getElem?_eq_getElem (by omega)]; rfl
def ffD : Rd Int → D
  | .bad k => .int k
  | .all _ => .none
theorem take_dI {ds : List D} {k : Nat} {acc : List Int} {z : Int} (h : ds.take k = dI acc) (hx : ds[k]? = some (.int z)) : ds.take (k + 1) = dI (acc ++ [z]) := by
  rw [take_succ hx, h]; simp [dI]
theorem is_it {s : Sl} {d : D} {ds : List D} (h : Is s d) (e : rowOf d = some ds) {r : Rho} : ∃ ss : List Sl, iEnum (eVar 0) (some s :: r) = .ok (enumS 0 ss) ∧ ss.length = ds.length ∧ ∀ (k : Nat) (x : D), ds[k]? = some x → ∃ t, ss[k]? = some t ∧ Is t x := by
  obtain ⟨ss, h1, h2, h3⟩ := h.iter e 0
  refine ⟨ss, ?_, h2, h3⟩
  unfold iEnum
  rw [ev_var (s := s) rfl]
  show (match (s.rv 0).iter with | some ss => _ | none => _) = _
  rw [h1]
theorem first_fault_s {s : Sl} {d : D} {ds : List D} {lo hi : Int} (h : Is s d) (e : rowOf d = some ds) : φ_first_fault [s, I lo, I hi] = .ok (.fz (ffD (chR lo hi ds))) := by
  obtain ⟨ss, hit, hl, hs⟩ := is_it h e (r := [some (I lo), some (I hi), none, none])
  have key := forL_readA (f := okCh lo hi) (tg := [3, 4]) (b := w_first_fault_0) (fun k acc ρ => ds.take k = dI acc ∧ ∃ x3 x4, ρ = [some s, some (I lo), some (I hi), x3, x4])
    (fun k r => r = .ret (.fz (.int k))) (fun k r h => .inl ⟨_, h⟩) ds (enumS 0 ss) 0 [] [some s, some (I lo), some (I hi), none, none] (by rw [enumS_len, hl]) ⟨rfl, _, _, rfl⟩ (by
      rintro k x v ρ acc hx hv ⟨ha, x3, x4, rfl⟩
      simp only [Nat.zero_add] at ha ⊢
      obtain ⟨t, ht, rfl⟩ := enum_is hv
      obtain ⟨t', ht', it⟩ := hs k x hx
      rw [ht] at ht'
      cases ht'
      have hk := (List.getElem?_eq_some_iff.mp hx).1
      have e4 : eVar 4 [some s, some (I lo), some (I hi), some (I k), some t] = .ok (t.rv 4) := ev_var rfl
      have nm : VL.tB (eCall φ_is_number [eVar 4, eVar 1, eVar 2]) [some s, some (I lo), some (I hi), some (I k), some t] = .ok (isNum x lo hi) := tb_v (isnum_call 4 it e4 rfl rfl)
      have sec : ∀ v, x = .int v → VL.tAnd (tB (eBin fGt (eVar 3) (eK (.int 0)))) (tB (eBin fLe (eVar 4) (eBin fIx (eVar 0) (eBin fSub (eVar 3) (eK (.int 1)))))) [some s, some (I lo), some (I hi), some (I k), some t] = .ok (decide (0 < k) && decide (v ≤ acc.getLast?.getD (lo - 1))) := fun v hv => by
        subst hv
        by_cases k0 : 0 < k
        · obtain ⟨l, l1, l2⟩ := last_ix ha (by omega) k0
          obtain ⟨rv, f1, _, _, _, f2⟩ := h.ix 0 e l2
          rw [f2 rfl] at f1
          have e5 : IntE (eBin fIx (eVar 0) (eBin fSub (eVar 3) (eK (.int 1)))) [some s, some (I lo), some (I hi), some (I k), some t] l := bin_v (ev_var rfl) (bin_v rfl rfl (sub_s _ _)) (by rw [show (k : Int) - 1 = ((k - 1 : Nat) : Int) by omega]; exact f1)
          rw [l1]
          simp only [Option.getD_some, k0, decide_true, Bool.true_and]
          exact and_t (gt_T rfl rfl (by omega)) (le_t (by rw [e4, it.intv]) e5)
        · have : decide (0 < k) = false := by simpa using k0
          rw [this]
          exact and_f (gt_F rfl rfl (by omega))
      have e0 : setAll [3, 4] [Sl.own (Ow.fz (PyData.int ↑k)), t] [some s, some (I lo), some (I hi), x3, x4] = [some s, some (I lo), some (I hi), some (I k), some t] := rfl
      rw [e0]
      cases eo : okCh lo hi acc x with
      | none =>
        rcases okCh_none eo with q | ⟨v, rfl, v1, v2, v3⟩
        · exact seq_r (if_t (not_T (by rw [nm, q])) rfl)
        · have qn : isNum (.int v) lo hi = true := by show (decide _ && decide _) = true; simp [v1, v2]
          refine seq_n (if_f (not_F (by rw [nm, qn])) rfl) (if_t ?_ rfl)
          rw [sec v rfl]
          have k0 : 0 < k := by
            cases k with
            | zero =>
              have : acc = [] := by
                have := congrArg List.length ha
                simp [dI] at this
                exact List.eq_nil_of_length_eq_zero this.symm
              subst this
              simp at v3; omega
            | succ k => omega
          simp [k0, v3]
      | some z =>
        obtain ⟨rfl, z1, z2, z3⟩ := okCh_some eo
        have qn : isNum (.int z) lo hi = true := by show (decide _ && decide _) = true; simp [z1, z2]
        refine ⟨_, seq_n (if_f (not_F (by rw [nm, qn])) rfl) (if_f ?_ rfl), take_dI ha hx, _, _, rfl⟩
        rw [sec z rfl]
        have : ¬ z ≤ acc.getLast?.getD (lo - 1) := by omega
        simp [this])
  unfold chR
  cases er : readA (okCh lo hi) ds 0 [] with
  | bad k =>
    rw [er] at key
    exact run_ret [some s, some (I lo), some (I hi), none, none] (seq_r (for_r hit key))
  | all L =>
    rw [er] at key
    obtain ⟨ρ', ek, _⟩ := key
    exact run_ret [some s, some (I lo), some (I hi), none, none] (seq_n (for_n hit ek) rfl)
def xC (k : Int) : Exn := ⟨"BadChoice", [("at", .int k)]⟩
/-- what a choice from lo to hi is read as -/
def chO (lo hi : Int) (d : D) : Except Int (List Int) := match rowOf d with
  | none => .error (-1)
  | some ds => match chR lo hi ds with
    | .bad k => .error k
    | .all L => .ok L
theorem check_choice_s {s : Sl} {d : D} {lo hi : Int} (h : Is s d) : match chO lo hi d with
    | .error k => φ_check_choice [s, I lo, I hi] = .err (xC k)
    | .ok L => φ_check_choice [s, I lo, I hi] = .ok (.ls (oI L)) := by
  have r0 : VL.tB (eCall φ_is_row [eVar 0]) [some s, some (I lo), some (I hi), none] = .ok (rowOf d).isSome := tb_v (isrow_call 0 h (ev_var rfl))
  unfold chO
  cases e : rowOf d with
  | none =>
    show φ_check_choice [s, I lo, I hi] = .err (xC (-1))
    exact run_err [some s, some (I lo), some (I hi), none] (seq_e (if_t (not_T (by rw [r0, e]; rfl)) (raise_v rfl rfl)))
  | some ds =>
    have ff := first_fault_s (lo := lo) (hi := hi) (h.arg 0) e
    have c3 : eCall φ_first_fault [eVar 0, eVar 1, eVar 2] [some s, some (I lo), some (I hi), none] = .ok (.val (.fz (ffD (chR lo hi ds)))) := call_ok (xs := [s.rv 0, .val (.fz (.int lo)), .val (.fz (.int hi))]) (ev_cons (ev_var rfl) (ev_cons rfl (ev_cons rfl rfl))) ff
    cases er : chR lo hi ds with
    | bad k =>
      rw [er] at c3
      simp only [er]
      show φ_check_choice [s, I lo, I hi] = .err (xC k)
      exact run_err [some s, some (I lo), some (I hi), none] (seq_n (if_f (not_F (by rw [r0, e]; rfl)) rfl) (seq_n (set_w c3 rfl) (seq_e (if_t rfl (raise_v rfl rfl)))))
    | all L =>
      rw [er] at c3
      obtain ⟨_, _, hds⟩ := chR_all er
      simp only [er]
      show φ_check_choice [s, I lo, I hi] = .ok (.ls (oI L))
      refine run_ret [some s, some (I lo), some (I hi), none] (seq_n (if_f (not_F (by rw [r0, e]; rfl)) rfl) (seq_n (set_w c3 rfl) (seq_n (if_f rfl rfl) (ret_v (un_v (ev_var rfl) ?_)))))
      rw [list_is h e (by rw [hds]; exact dI_scal L), hds, oI_fz]
/-- .. None for all -/
def keptO (n : Int) (d : D) : Except Int (List Int) := match d with
  | .none => .ok (rgI 0 n)
  | _ => chO 0 (n - 1) d
theorem check_kept_s {s : Sl} {d : D} {n : Int} (h : Is s d) (hn : 0 ≤ n ∧ n ≤ 1000) : match keptO n d with
    | .error k => φ_check_kept [s, I n] = .err (xC k)
    | .ok L => φ_check_kept [s, I n] = .ok (.ls (oI L)) := by
  have tN : VL.tB (eUn fIsN (eVar 0)) [some s, some (I n)] = .ok (isN d) := tb_v (un_v (ev_var rfl) (isN_s h 0))
  by_cases hd : d = .none
  · subst hd
    exact run_ret [some s, some (I n)] (seq_r (if_t tN (ret_v (un_v rfl (lrng1_s (by omega) (by omega))))))
  · have e : keptO n d = chO 0 (n - 1) d := by cases d <;> first | rfl | exact absurd rfl hd
    have q : isN d = false := by cases d <;> first | rfl | exact absurd rfl hd
    rw [e]
    have c := check_choice_s (lo := 0) (hi := n - 1) (h.arg 0)
    have ev : VL.evalAll [eVar 0, eK (.int 0), eBin fSub (eVar 1) (eK (.int 1))] [some s, some (I n)] = .ok [s.rv 0, .val (.fz (.int 0)), .val (.fz (.int (n - 1)))] := ev_cons (ev_var rfl) (ev_cons rfl (ev_cons (bin_v rfl rfl (sub_s _ _)) rfl))
    cases ec : chO 0 (n - 1) d with
    | error k =>
      rw [ec] at c
      show φ_check_kept [s, I n] = .err (xC k)
      exact run_err [some s, some (I n)] (seq_n (if_f (by rw [tN, q]) rfl) (ret_e (call_err ev c)))
    | ok L =>
      rw [ec] at c
      show φ_check_kept [s, I n] = .ok (.ls (oI L))
      exact run_ret [some s, some (I n)] (seq_n (if_f (by rw [tN, q]) rfl) (ret_v (call_ok ev c)))
end PR

set_option Elab.async false
set_option linter.all false
set_option maxRecDepth 100000
set_option maxHeartbeats 4000000
namespace PR
open PySem VL
/-! ### the law's fault -/
def faultD (lo hi : Int) (d : D) : D := match rowOf d with
  | none => .int (-1)
  | some ds => ffD (chR lo hi ds)
theorem fault_s {d : D} {lo hi : Int} (hlen : ∀ ds, rowOf d = some ds → (ds.length : Int) ≤ 1000000) : φ__law_fault_k02 [F d, I lo, I hi] = .ok (.fz (faultD lo hi d)) := by
  have r0 : VL.tB (eUn (fIsIs [.list, .tuple]) (eVar 0)) [some (F d), some (I lo), some (I hi), none, none] = .ok (rowOf d).isSome := tb_v (un_v rfl (isIs_row (s := F d) (.inl rfl) 0))
  unfold faultD
  cases e : rowOf d with
  | none => exact run_ret [some (F d), some (I lo), some (I hi), none, none] (seq_r (if_t (not_T (by rw [r0, e]; rfl)) rfl))
  | some ds =>
    have key := forL_readA (f := okCh lo hi) (tg := [4]) (b := w__law_fault_k02_0) (fun k acc ρ => ds.take k = dI acc ∧ ∃ x4, ρ = [some (F d), some (I lo), some (I hi), some (I (acc.getLast?.getD (lo - 1))), x4])
      (fun k r => r = .ret (.fz (.int k))) (fun k r h => .inl ⟨_, h⟩) ds (rangeS 0 ds.length) 0 [] [some (F d), some (I lo), some (I hi), some (I (lo - 1)), none] (by rw [rangeS_len]; omega) ⟨rfl, _, rfl⟩ (by
        rintro k x v ρ acc hx hv ⟨ha, x4, rfl⟩
        simp only [Nat.zero_add] at ha ⊢
        obtain ⟨rfl, hk⟩ := rangeS_get hv
        have e0 : setAll [4] [slOf (.int (0 + (k : Nat)))] [some (F d), some (I lo), some (I hi), some (I (acc.getLast?.getD (lo - 1))), x4] = [some (F d), some (I lo), some (I hi), some (I (acc.getLast?.getD (lo - 1))), some (I k)] := by rw [Int.zero_add]; rfl
        rw [e0]
        have ix : (eBin fIx (eVar 0) (eVar 4)) [some (F d), some (I lo), some (I hi), some (I (acc.getLast?.getD (lo - 1))), some (I k)] = .ok (.val (.fz x)) := bin_v rfl rfl (fIx_row' e hx)
        have nm : VL.tB (eCall φ__law_is_number_k01 [eBin fIx (eVar 0) (eVar 4), eVar 1, eVar 2]) [some (F d), some (I lo), some (I hi), some (I (acc.getLast?.getD (lo - 1))), some (I k)] = .ok (isNum x lo hi) := tb_v (lnum_call (.inl rfl) ix rfl rfl)
        cases eo : okCh lo hi acc x with
        | none =>
          rcases okCh_none eo with q | ⟨v, rfl, v1, v2, v3⟩
          · exact seq_r (if_t (or_t (not_T (by rw [nm, q]))) rfl)
          · have qn : isNum (.int v) lo hi = true := by show (decide _ && decide _) = true; simp [v1, v2]
            exact seq_r (if_t (or_T (not_F (by rw [nm, qn])) (le_T ix rfl v3)) rfl)
        | some z =>
          obtain ⟨rfl, z1, z2, z3⟩ := okCh_some eo
          have qn : isNum (.int z) lo hi = true := by show (decide _ && decide _) = true; simp [z1, z2]
          refine ⟨_, seq_n (if_f (or_F (not_F (by rw [nm, qn])) (le_F ix rfl (by omega))) rfl) (set_w ix rfl), take_dI ha hx, some (I k), ?_⟩
          simp)
    have top : ∀ {r : SRes}, (sSeq (sFor [4] (iRng1 (eUn fLen (eVar 0))) w__law_fault_k02_0) (sRet (eK .none))) [some (F d), some (I lo), some (I hi), some (I (lo - 1)), none] = r → b__law_fault_k02 [some (F d), some (I lo), some (I hi), none, none] = r := fun {r} hr =>
      seq_n (if_f (not_F (by rw [r0, e]; rfl)) rfl) (seq_n (set_w (bin_v rfl rfl (sub_s _ _)) rfl) hr)
    have hit : iRng1 (eUn fLen (eVar 0)) [some (F d), some (I lo), some (I hi), some (I (lo - 1)), none] = .ok (rangeS 0 ds.length) := rng1_big (un_v rfl (len_s e)) (hlen ds e)
    show φ__law_fault_k02 [F d, I lo, I hi] = .ok (.fz (ffD (readA (okCh lo hi) ds 0 [])))
    cases er : readA (okCh lo hi) ds 0 [] with
    | bad k =>
      rw [er] at key
      exact run_ret [some (F d), some (I lo), some (I hi), none, none] (top (seq_r (for_r hit key)))
    | all L =>
      rw [er] at key
      obtain ⟨ρ', ek, _⟩ := key
      exact run_ret [some (F d), some (I lo), some (I hi), none, none] (top (seq_n (for_n hit ek) rfl))
/-! ### the program's answers about a house's parts -/
def cAt (cs : List Cp) (k : Int) : Cp := cs.getD k.toNat (0, 0, 0)
theorem cAt_get {cs : List Cp} {k : Int} (h : 0 ≤ k ∧ k < cs.length) : cs[k.toNat]? = some (cAt cs k) := by
  have : k.toNat < cs.length := by omega
  unfold cAt
  rw [List.getD_eq_getElem?_getD, List.getElem?_eq_getElem this]; rfl
theorem ix_cs {cs : List Cp} {k : Int} (h : 0 ≤ k ∧ k < cs.length) : fIx (.val (.fz (.list (cs.map cpD)))) (.val (.fz (.int k))) = .ok (.val (.fz (cpD (cAt cs k)))) := by
  refine fIx_row rfl h.1 ?_
  rw [List.getElem?_map, cAt_get h]; rfl
theorem ix_csr {i : Nat} {cs : List Cp} {k : Int} (h : 0 ≤ k ∧ k < cs.length) : fIx (.ref i [] (.ls (cpsO cs))) (.val (.fz (.int k))) = .ok (.val (.fz (cpD (cAt cs k)))) := by
  obtain ⟨j, rfl⟩ : ∃ j : Nat, k = j := ⟨k.toNat, by omega⟩
  refine ix_cp ?_
  have := cAt_get h
  rw [Int.toNat_natCast] at this
  exact this
def entB (cs : List Cp) (M : List Int) (k : Int) : Bool := decide ((cAt cs k).2.1 ∈ M) && !decide ((cAt cs k).1 ∈ M)
theorem enters_s {c : Cp} {M : List Int} : φ_enters [F (cpD c), F (.list (dI M))] = .ok (.fz (.bool (decide (c.2.1 ∈ M) && !decide (c.1 ∈ M)))) :=
  run_ret [some (F (cpD c)), some (F (.list (dI M)))] (ret_v (eand_s (bin_v (x := .val (.fz (.int c.2.1))) rfl rfl (in_I _ (isI_fz M))) fun _ => bin_v (x := .val (.fz (.int c.1))) rfl rfl (notIn_I _ (isI_fz M))))
theorem entering_among_s {cs : List Cp} {L M : List Int} (hL : ∀ k ∈ L, 0 ≤ k ∧ k < cs.length) (hl : L.length ≤ 1000) : φ_entering_among [F (.list (cs.map cpD)), F (.list (dI L)), F (.list (dI M))] = .ok (.ls (oI (L.filter (entB cs M)))) := by
  refine run_ret [some (F (.list (cs.map cpD))), some (F (.list (dI L))), some (F (.list (dI M))), none] (ret_v ?_)
  have := comp_I (i := 3) (it := iRow (eVar 1)) (t := tB (eCall φ_enters [(eBin fIx (eVar 0) (eVar 3)), (eVar 2)])) (e := eVar 3) (ρ := [some (F (.list (cs.map cpD))), some (F (.list (dI L))), some (F (.list (dI M))), none]) (L := L) (entB cs M) id (VL.row_s (d := .list (dI L)) rfl rfl) hl (by
    intro k hk
    refine ⟨?_, fun _ => rfl⟩
    exact tb_v (call_ok (xs := [.val (.fz (cpD (cAt cs k))), .val (.fz (.list (dI M)))]) (ev_cons (bin_v rfl rfl (ix_cs (hL k hk))) (ev_cons rfl rfl)) enters_s))
  simpa using this
theorem cost_of_s {cs : List Cp} {L : List Int} {s : Sl} (hs : Is s (.list (cs.map cpD))) (hL : ∀ k ∈ L, 0 ≤ k ∧ k < cs.length) (hl : L.length ≤ 1000) (hq : s = F (.list (cs.map cpD))) : φ_cost_of [s, F (.list (dI L))] = .ok (.fz (.int (L.map fun k => (cAt cs k).2.2).sum)) := by
  subst hq
  have := comp_I (i := 2) (it := iRow (eVar 1)) (t := tYes) (e := eBin fIx (eBin fIx (eVar 0) (eVar 2)) (eK (.int 2))) (ρ := [some (F (.list (cs.map cpD))), some (F (.list (dI L))), none]) (L := L) (fun _ => true) (fun k => (cAt cs k).2.2) (VL.row_s (d := .list (dI L)) rfl rfl) hl (by
    intro k hk
    exact ⟨rfl, fun _ => bin_v (bin_v rfl rfl (ix_cs (hL k hk))) rfl rfl⟩)
  refine run_ret [some (F (.list (cs.map cpD))), some (F (.list (dI L))), none] (ret_v (un_v this ?_))
  rw [List.filter_eq_self.mpr fun _ _ => rfl]
  exact sum_ls (oI_toD _)
theorem chO_ok {lo hi : Int} {d : D} {L : List Int} (h : chO lo hi d = .ok L) : L.Pairwise (· < ·) ∧ ∀ x ∈ L, lo ≤ x ∧ x ≤ hi := by
  unfold chO at h
  split at h
  · cases h
  · rename_i ds e
    split at h
    · cases h
    · rename_i L' er
      cases h
      exact ⟨(chR_all er).1, (chR_all er).2.1⟩
theorem keptO_ok {n : Int} {d : D} {L : List Int} (h0 : 0 ≤ n) (h : keptO n d = .ok L) : L.Pairwise (· < ·) ∧ ∀ x ∈ L, 0 ≤ x ∧ x < n := by
  have key : chO 0 (n - 1) d = .ok L → L.Pairwise (· < ·) ∧ ∀ x ∈ L, 0 ≤ x ∧ x < n := fun h => by
    obtain ⟨a, b⟩ := chO_ok h
    exact ⟨a, fun x hx => by have := b x hx; omega⟩
  cases d with
  | none =>
    have h : Except.ok (rgI 0 n) = .ok L := h
    cases h
    exact ⟨(asc_rgI 0 n).1, fun x hx => by have := mem_rgI.mp hx; omega⟩
  | _ => exact key h
theorem asc_len {n : Int} {L : List Int} (h0 : 0 ≤ n) (h : L.Pairwise (· < ·)) (hb : ∀ x ∈ L, 0 ≤ x ∧ x < n) : (L.length : Int) ≤ n := by
  have nd : L.Nodup := h.imp fun h e => by omega
  have := len_le_of_nodup (m := rgI 0 n) nd fun x hx => mem_rgI.mpr (hb x hx)
  rw [rgI_len] at this
  omega
/-- the house given -/
structure GivenH (g : D) (n : Int) (cs : List Cp) : Prop where
  rd : readH g = .good n cs
  sm : ∀ y ds m, rowOf g = some [.int m, y] → rowOf y = some ds → ds.length < 16777216
theorem GivenH.chk {g : D} {n : Int} {cs : List Cp} (h : GivenH g n cs) : φ_check_house [F g] = .ok (.tp [.fz (.int n), .ls (cpsO cs)]) := by
  have := check_house_s h.sm
  rw [h.rd] at this
  exact this
theorem part_of_s {g κ : D} {n : Int} {cs : List Cp} (h : GivenH g n cs) : match keptO cs.length κ with
    | .error k => φ_part_of [F g, F κ] = .err (xC k)
    | .ok L => φ_part_of [F g, F κ] = .ok (.tp [.fz (.int n), .ls (cpsO (L.map (cAt cs)))]) := by
  obtain ⟨_, _, h30, _⟩ := readH_good h.rd
  have ck := check_kept_s (s := F κ) (n := cs.length) (.inl rfl) (by omega)
  have e1 : eCall φ_check_house [eVar 0] [some (F g), some (F κ), none, none, none] = .ok (.val (.tp [.fz (.int n), .ls (cpsO cs)])) := call_ok (xs := [.val (.fz g)]) rfl h.chk
  have l3 : (eUn fLen (eVar 3)) [some (F g), some (F κ), some (I n), some (.own (.ls (cpsO cs))), none] = .ok (.val (.fz (.int cs.length))) := un_v rfl (by
    have := len_ls (x := .ref 3 [] (.ls (cpsO cs))) (cpsO_toD cs)
    show fLen (.ref 3 [] (.ls (cpsO cs))) = _
    simpa using this)
  have ev : VL.evalAll [eVar 1, eUn fLen (eVar 3)] [some (F g), some (F κ), some (I n), some (.own (.ls (cpsO cs))), none] = .ok [.val (.fz κ), .val (.fz (.int cs.length))] := ev_cons rfl (ev_cons l3 rfl)
  have top : ∀ {R : SC} {r : SRes}, sSeq (sFrz 1 (sSet 1 (eCall φ_check_kept [(eVar 1), (eUn fLen (eVar 3))]))) R [some (F g), some (F κ), some (I n), some (.own (.ls (cpsO cs))), none] = r → sSeq (sUnp [2, 3] (eCall φ_check_house [(eVar 0)])) (sSeq (sFrz 1 (sSet 1 (eCall φ_check_kept [(eVar 1), (eUn fLen (eVar 3))]))) R) [some (F g), some (F κ), none, none, none] = r := fun {R r} hr => by
    refine seq_n (ρ' := [some (F g), some (F κ), some (I n), some (.own (.ls (cpsO cs))), none]) ?_ hr
    unfold sUnp
    rw [e1]; rfl
  cases ek : keptO cs.length κ with
  | error k =>
    rw [ek] at ck
    show φ_part_of [F g, F κ] = .err (xC k)
    exact run_err [some (F g), some (F κ), none, none, none] (top (seq_e (frz_id rfl (set_e (call_err ev ck)))))
  | ok L =>
    rw [ek] at ck
    obtain ⟨a, b⟩ := keptO_ok (by omega) ek
    have hl := asc_len (by omega) a b
    show φ_part_of [F g, F κ] = .ok _
    refine run_ret [some (F g), some (F κ), none, none, none] (top (seq_n (frz_id rfl (set_w (call_ok ev ck) rfl)) (frzL_r (frz_li rfl ?_))))
    have cm : (eComp [4] (iRow (eVar 1)) tYes (eBin fIx (eVar 3) (eVar 4))) ([some (F g), some (F (.list (dI L))), some (I n), some (.own (.ls (cpsO cs))), none].set 2 none) = .ok (.val (.ls (cpsO (L.map (cAt cs))))) := by
      refine comp_v (VL.row_s (d := .list (dI L)) rfl rfl) (by simp [dI_len]; omega) ?_
      refine (compL_pt _ ((L.map fun k => Ow.fz (cpD (cAt cs k)))) (by simp [dI_len]) fun k v o hv ho => ?_).trans (by simp [cpsO])
      obtain ⟨x, hx, rfl⟩ := row_get hv
      rw [dI_get] at hx
      cases el : L[k]? with
      | none => rw [el] at hx; cases hx
      | some z =>
        rw [el] at hx
        cases hx
        rw [List.getElem?_map, el] at ho
        cases ho
        have hz := b z (List.mem_of_getElem? el)
        exact ⟨rfl, bin_v rfl rfl (ix_csr hz)⟩
    have em : evalM [.mv 2, .ev (eComp [4] (iRow (eVar 1)) tYes (eBin fIx (eVar 3) (eVar 4)))] [some (F g), some (F (.list (dI L))), some (I n), some (.own (.ls (cpsO cs))), none] = .ok [.fz (.int n), .ls (cpsO (L.map (cAt cs)))] := by
      show ((evalM [.ev (eComp [4] (iRow (eVar 1)) tYes (eBin fIx (eVar 3) (eVar 4)))] ([some (F g), some (F (.list (dI L))), some (I n), some (.own (.ls (cpsO cs))), none].set 2 none)).bind fun os => Res.ok (Ow.fz (.int n) :: os)) = _
      unfold evalM
      rw [cm]
      rfl
    show (match evalM [.mv 2, .ev (eComp [4] (iRow (eVar 1)) tYes (eBin fIx (eVar 3) (eVar 4)))] [some (F g), some (F (.list (dI L))), some (I n), some (.own (.ls (cpsO cs))), none] with | .ok os => _ | .err x => _ | .stuck => _) = _
    rw [em]
    rfl
theorem cs_len {cs : List Cp} (i : Nat) : fLen (.ref i [] (.ls (cpsO cs))) = .ok (.val (.fz (.int cs.length))) := by
  have := len_ls (x := .ref i [] (.ls (cpsO cs))) (cpsO_toD cs)
  simpa using this
theorem entering_s {g κ δ : D} {n : Int} {cs : List Cp} (h : GivenH g n cs) : match keptO cs.length κ with
    | .error k => φ_entering [F g, F κ, F δ] = .err (xC k)
    | .ok L => match chO 1 n δ with
      | .error k => φ_entering [F g, F κ, F δ] = .err (xC k)
      | .ok M => φ_entering [F g, F κ, F δ] = .ok (.ls (oI (L.filter (entB cs M)))) := by
  obtain ⟨_, _, h30, _⟩ := readH_good h.rd
  have ck := check_kept_s (s := F κ) (n := cs.length) (.inl rfl) (by omega)
  have cd := check_choice_s (s := F δ) (lo := 1) (hi := n) (.inl rfl)
  have e1 : eCall φ_check_house [eVar 0] [some (F g), some (F κ), some (F δ), none, none] = .ok (.val (.tp [.fz (.int n), .ls (cpsO cs)])) := call_ok (xs := [.val (.fz g)]) rfl h.chk
  have ev : VL.evalAll [eVar 1, eUn fLen (eVar 4)] [some (F g), some (F κ), some (F δ), some (I n), some (.own (.ls (cpsO cs)))] = .ok [.val (.fz κ), .val (.fz (.int cs.length))] := ev_cons rfl (ev_cons (un_v rfl (cs_len 4)) rfl)
  have top : ∀ {R : SC} {r : SRes}, R [some (F g), some (F κ), some (F δ), some (I n), some (.own (.ls (cpsO cs)))] = r → sSeq (sUnp [3, 4] (eCall φ_check_house [(eVar 0)])) R [some (F g), some (F κ), some (F δ), none, none] = r := fun {R r} hr => by
    refine seq_n (ρ' := [some (F g), some (F κ), some (F δ), some (I n), some (.own (.ls (cpsO cs)))]) ?_ hr
    unfold sUnp
    rw [e1]; rfl
  cases ek : keptO cs.length κ with
  | error k =>
    rw [ek] at ck
    show φ_entering [F g, F κ, F δ] = .err (xC k)
    exact run_err [some (F g), some (F κ), some (F δ), none, none] (top (seq_e (frz_id rfl (set_e (call_err ev ck)))))
  | ok L =>
    rw [ek] at ck
    obtain ⟨a, b⟩ := keptO_ok (by omega) ek
    have hl := asc_len (by omega) a b
    have ev2 : VL.evalAll [eVar 2, eK (.int 1), eVar 3] [some (F g), some (.own (.ls (oI L))), some (F δ), some (I n), some (.own (.ls (cpsO cs)))] = .ok [.val (.fz δ), .val (.fz (.int 1)), .val (.fz (.int n))] := ev_cons rfl (ev_cons rfl (ev_cons rfl rfl))
    show match chO 1 n δ with
      | .error k => φ_entering [F g, F κ, F δ] = .err (xC k)
      | .ok M => φ_entering [F g, F κ, F δ] = .ok (.ls (oI (L.filter (entB cs M))))
    cases ed : chO 1 n δ with
    | error k =>
      rw [ed] at cd
      show φ_entering [F g, F κ, F δ] = .err (xC k)
      exact run_err [some (F g), some (F κ), some (F δ), none, none] (top (seq_n (frz_id rfl (set_w (call_ok ev ck) rfl)) (seq_e (frz_id rfl (frz_id rfl (set_e (call_err ev2 cd)))))))
    | ok M =>
      rw [ed] at cd
      show φ_entering [F g, F κ, F δ] = .ok _
      refine run_ret [some (F g), some (F κ), some (F δ), none, none] (top (seq_n (frz_id rfl (set_w (call_ok ev ck) rfl)) (seq_n (frz_id rfl (frz_id rfl (set_w (call_ok ev2 cd) rfl))) (frz_li (L := M) rfl (frz_li (L := L) rfl (frz_n ?_))))))
      show (sRet (eCall φ_entering_among [(eVar 4), (eVar 1), (eVar 2)])) [some (F g), some (F (.list (dI L))), some (F (.list (dI M))), some (I n), some (F (Ow.ls (cpsO cs)).toD)] = _
      rw [cpsO_toD]
      exact ret_v (call_ok (xs := [.val (.fz (.list (cs.map cpD))), .val (.fz (.list (dI L))), .val (.fz (.list (dI M)))]) rfl (entering_among_s b (by omega)))
theorem total_size_s {g κ : D} {n : Int} {cs : List Cp} (h : GivenH g n cs) : match keptO cs.length κ with
    | .error k => φ_total_size [F g, F κ] = .err (xC k)
    | .ok L => φ_total_size [F g, F κ] = .ok (.fz (.int (L.map fun k => (cAt cs k).2.2).sum)) := by
  obtain ⟨_, _, h30, _⟩ := readH_good h.rd
  have ck := check_kept_s (s := F κ) (n := cs.length) (.inl rfl) (by omega)
  have e1 : eCall φ_check_house [eVar 0] [some (F g), some (F κ), none] = .ok (.val (.tp [.fz (.int n), .ls (cpsO cs)])) := call_ok (xs := [.val (.fz g)]) rfl h.chk
  have e2 : (sSet 2 (eBin fIx (eCall φ_check_house [(eVar 0)]) (eK (.int 1)))) [some (F g), some (F κ), none] = .next [some (F g), some (F κ), some (.own (.ls (cpsO cs)))] := set_w (bin_v e1 rfl rfl) rfl
  have ev : VL.evalAll [eVar 1, eUn fLen (eVar 2)] [some (F g), some (F κ), some (F (.list (cs.map cpD)))] = .ok [.val (.fz κ), .val (.fz (.int cs.length))] := ev_cons rfl (ev_cons (un_v rfl (by
    have := len_s (d := .list (cs.map cpD)) rfl
    show fLen (.val (.fz (.list (cs.map cpD)))) = _
    simpa using this)) rfl)
  have top : ∀ {r : SRes}, (sRet (eCall φ_cost_of [(eVar 2), (eCall φ_check_kept [(eVar 1), (eUn fLen (eVar 2))])])) [some (F g), some (F κ), some (F (.list (cs.map cpD)))] = r → b_total_size [some (F g), some (F κ), none] = r := fun {r} hr => by
    refine seq_n e2 (frz_n ?_)
    show (sRet (eCall φ_cost_of [(eVar 2), (eCall φ_check_kept [(eVar 1), (eUn fLen (eVar 2))])])) [some (F g), some (F κ), some (F (Ow.ls (cpsO cs)).toD)] = _
    rw [cpsO_toD]; exact hr
  cases ek : keptO cs.length κ with
  | error k =>
    rw [ek] at ck
    show φ_total_size [F g, F κ] = .err (xC k)
    refine run_err [some (F g), some (F κ), none] (top (ret_e (call_ae ?_)))
    have : eCall φ_check_kept [(eVar 1), (eUn fLen (eVar 2))] [some (F g), some (F κ), some (F (.list (cs.map cpD)))] = .err (xC k) := call_err ev ck
    unfold VL.evalAll
    rw [ev_e this]
    rfl
  | ok L =>
    rw [ek] at ck
    obtain ⟨a, b⟩ := keptO_ok (by omega) ek
    have hl := asc_len (by omega) a b
    show φ_total_size [F g, F κ] = .ok _
    refine run_ret [some (F g), some (F κ), none] (top (ret_v (call_ok (xs := [.val (.fz (.list (cs.map cpD))), .val (.ls (oI L))]) (ev_cons rfl (ev_cons (call_ok ev ck) rfl)) ?_)))
    show φ_cost_of [F (.list (cs.map cpD)), F (Ow.ls (oI L)).toD] = _
    rw [oI_toD]
    exact cost_of_s (.inl rfl) b (by omega) rfl
end PR

set_option Elab.async false
set_option linter.all false
set_option maxRecDepth 100000
set_option maxHeartbeats 4000000
namespace PR
open PySem VL
theorem retM_v {cs : List Mv} {ρ : Rho} {os : List Ow} (h : evalM cs ρ = .ok os) (hl : os.length ≤ 1000) : sRetM cs ρ = .ret (mkTup os) := by
  unfold sRetM
  rw [h]
  exact if_pos hl
/-! ### the house as it is handed over -/
/-- rows of copies, each a tuple or a list -/
def cpL (c : Cp) : D := .list [.int c.1, .int c.2.1, .int c.2.2]
def cpK (b : Bool) (c : Cp) : D := if b then cpL c else cpD c
theorem cpK_row (b : Bool) (c : Cp) : rowOf (cpK b c) = some [.int c.1, .int c.2.1, .int c.2.2] := by cases b <;> rfl
theorem okCp_K {days : Int} {b : Bool} {c : Cp} (h : Cok days c) : okCp days (cpK b c) = some c := by
  unfold okCp
  rw [cpK_row]
  exact if_pos h
theorem readL_K {days : Int} {b : Bool} : ∀ {cs : List Cp} {k : Nat} {acc : List Cp}, (∀ c ∈ cs, Cok days c) → readL (okCp days) (cs.map (cpK b)) k acc = .all (acc ++ cs)
  | [], _, acc, _ => by simp [readL]
  | c :: cs, k, acc, h => by
    simp only [List.map_cons]
    unfold readL
    rw [okCp_K (h c List.mem_cons_self)]
    simp only
    rw [readL_K fun x hx => h x (List.mem_cons_of_mem _ hx)]
    simp
theorem readH_K {d y : D} {n : Int} {b : Bool} {cs : List Cp} (h : rowOf d = some [.int n, y]) (hy : rowOf y = some (cs.map (cpK b))) (h1 : 1 ≤ n) (h2 : n ≤ 10) (hl : cs.length ≤ 30) (ok : ∀ c ∈ cs, Cok n c) : GivenH d n cs := by
  refine ⟨?_, fun y' ds m e1 e2 => ?_⟩
  · unfold readH
    rw [h]
    simp only [hy]
    rw [if_pos ⟨h1, h2⟩, if_neg (by simp; omega)]
    unfold readCs
    rw [readL_K ok]
    rfl
  · rw [h] at e1
    cases e1
    rw [hy] at e2
    cases e2
    simp; omega
theorem fit_K {days : Int} {b : Bool} {c : Cp} (h : Cok days c) (hd : days ≤ 10) : Fit 33 1 (cpK b c) := by
  have h1 := fit_cp h hd
  cases b with
  | false => exact h1
  | true => exact ⟨by show lf (.list _) = true; rw [← tup_lf]; exact h1.lf, by show PyData.weight (.list _) ≤ 33; rw [← tup_w]; exact h1.w, by show PyData.depth (.list _) ≤ 1; rw [← tup_dp]; exact h1.dp⟩
theorem fit_Ks {days : Int} {b : Bool} : ∀ {cs : List Cp}, (∀ c ∈ cs, Cok days c) → days ≤ 10 → FitR (34 * cs.length) 1 (cs.map (cpK b))
  | [], _, _ => FitR.nil.mono (by simp) (by decide)
  | c :: cs, h, hd => by
    have h2 := fit_Ks (b := b) (cs := cs) (fun x hx => h x (List.mem_cons_of_mem _ hx)) hd
    exact (FitR.cons (fit_K (h c List.mem_cons_self) hd) h2).mono (by simp; omega) (Nat.le_refl _)
def gLs (d : D) : Ow := match rowOf d with
  | some ds => .ls (ds.map Ow.fz)
  | none => .fz .none
def fLs (v : List Sl) : Ow := match v with
  | [.own (.fz d)] => gLs d
  | _ => .fz .none
abbrev hD (n : Int) (cs : List Cp) : D := .tuple [.int n, .list (cs.map cpD)]
theorem given_e {n m : Int} {cs : List Cp} (h1 : 1 ≤ n) (h2 : n ≤ 10) (hl : cs.length ≤ 30) (ok : ∀ c ∈ cs, Cok n c) : ∃ ow, φ__law_given_k02 [F (hD n cs), I m] = .ok ow ∧ GivenH ow.toD n cs ∧ Fit 1200 4 ow.toD := by
  -- the copies
  obtain ⟨w, b, e2, hw, hwl⟩ : ∃ (w : Ow) (b : Bool), (∀ (R : SC) (r : SRes), R [some (F (hD n cs)), some (I m), some (.own w), none] = r → sSeq (sSet 2 (eUn fList (eBin fIx (eVar 0) (eK (.int 1))))) (sSeq (sIf (tB (eBin fEq (eBin fMod (eUn fInt (eVar 1)) (eK (.int 2))) (eK (.int 1)))) (sFrz 2 (sSet 2 (eComp [3] (iRow (eVar 2)) tYes (eUn fList (eVar 3))))) sPass) R) [some (F (hD n cs)), some (I m), none, none] = r) ∧ w.toD = .list (cs.map (cpK b)) ∧ ∃ xs, w = .ls xs := by
    have s1 : (sSet 2 (eUn fList (eBin fIx (eVar 0) (eK (.int 1))))) [some (F (hD n cs)), some (I m), none, none] = .next [some (F (hD n cs)), some (I m), some (.own (.ls ((cs.map cpD).map Ow.fz))), none] := set_w (un_v (bin_v rfl rfl rfl) (list_s (d := .list (cs.map cpD)) rfl)) rfl
    by_cases q : m % 2 = 1
    · refine ⟨.ls ((((cs.map cpD).map slOf).map fun s => [s]).map fLs), true, fun R r hR => seq_n s1 (seq_n (if_t (eq_T (bin_v rfl rfl (mod_s _ _ (by decide))) rfl q) (frz_n ?_)) hR), ?_, ⟨_, rfl⟩⟩
      · show (sSet 2 (eComp [3] (iRow (eVar 2)) tYes (eUn fList (eVar 3)))) [some (F (hD n cs)), some (I m), some (F (Ow.ls ((cs.map cpD).map Ow.fz)).toD), none] = _
        rw [lsD]
        refine set_w (comp_v (VL.row_s (d := .list (cs.map cpD)) rfl rfl) (by simp; omega) (compL_map fLs _ fun v hv => ?_)) rfl
        obtain ⟨s, hs, rfl⟩ := List.mem_map.mp hv
        obtain ⟨c0, hc0, rfl⟩ := List.mem_map.mp hs
        obtain ⟨c, hc, rfl⟩ := List.mem_map.mp hc0
        exact ⟨rfl, rfl⟩
      · show PyData.list (toDs _) = _
        rw [toDs_is]
        simp only [List.map_map]
        congr 1
    · exact ⟨.ls ((cs.map cpD).map Ow.fz), false, fun R r hR => seq_n s1 (seq_n (if_f (eq_F (bin_v rfl rfl (mod_s _ _ (by decide))) rfl q) rfl) hR), by rw [lsD]; rfl, ⟨_, rfl⟩⟩
  have fw : Fit 1020 2 (.list (cs.map (cpK b))) := (fit_Ks ok h2).list.mono (by omega) (Nat.le_refl _)
  -- perhaps a tuple
  obtain ⟨w2, y, e3, hy, hr, fy⟩ : ∃ (w2 : Ow) (y : D), (∀ (R : SC) (r : SRes), R [some (F (hD n cs)), some (I m), some (.own w2), none] = r → sSeq (sIf (tB (eBin fEq (eBin fMod (eUn fInt (eVar 1)) (eK (.int 3))) (eK (.int 1)))) (sFrz 2 (sSet 2 (eUn fTuple (eVar 2)))) sPass) R [some (F (hD n cs)), some (I m), some (.own w), none] = r) ∧ w2.toD = y ∧ rowOf y = some (cs.map (cpK b)) ∧ Fit 1020 2 y := by
    by_cases q : m % 3 = 1
    · refine ⟨.fz (.tuple (cs.map (cpK b))), .tuple (cs.map (cpK b)), fun R r hR => seq_n (if_t (eq_T (bin_v rfl rfl (mod_s _ _ (by decide))) rfl q) (frz_n ?_)) hR, rfl, rfl, ?_⟩
      · show (sSet 2 (eUn fTuple (eVar 2))) [some (F (hD n cs)), some (I m), some (F w.toD), none] = _
        rw [hw]
        exact set_w (un_v rfl (tupf_s rfl)) rfl
      · exact ⟨by rw [tup_lf]; exact fw.lf, by rw [tup_w]; exact fw.w, by rw [tup_dp]; exact fw.dp⟩
    · exact ⟨w, .list (cs.map (cpK b)), fun R r hR => seq_n (if_f (eq_F (bin_v rfl rfl (mod_s _ _ (by decide))) rfl q) rfl) hR, hw, rfl, fw⟩
  have fin : ∀ d, rowOf d = some [.int n, y] → GivenH d n cs := fun d hd => readH_K hd hr h1 h2 hl ok
  have fr : FitR 1100 2 [.int n, y] := (FitR.cons (fit_int (by omega) 2) (FitR.one fy)).mono (by decide) (Nat.le_refl _)
  by_cases q : m % 5 < 2
  · refine ⟨.ls [.fz (.int n), .fz y], run_ret [some (F (hD n cs)), some (I m), none, none] (e2 _ _ (e3 _ _ (seq_r (if_t (lt_T (bin_v rfl rfl (mod_s _ _ (by decide))) rfl q) (frz_n ?_))))), fin _ rfl, fr.list.mono (by decide) (by decide)⟩
    show (sRet (eLst [(eBin fIx (eVar 0) (eK (.int 0))), (eVar 2)])) [some (F (hD n cs)), some (I m), some (F w2.toD), none] = _
    rw [hy]; rfl
  · have em : evalM [.ev (eBin fIx (eVar 0) (eK (.int 0))), .mv 2] [some (F (hD n cs)), some (I m), some (.own w2), none] = .ok [.fz (.int n), w2] := rfl
    refine ⟨mkTup [.fz (.int n), w2], run_ret [some (F (hD n cs)), some (I m), none, none] (e2 _ _ (e3 _ _ (seq_n (if_f (lt_F (bin_v rfl rfl (mod_s _ _ (by decide))) rfl q) rfl) ?_))), ?_, ?_⟩
    · exact retM_v em (by simp)
    all_goals
      have et : (mkTup [.fz (.int n), w2]).toD = .tuple [.int n, y] := by
        rw [← hy]
        unfold mkTup
        split
        · show PyData.tuple (toDs [.fz (.int n), w2]) = _; rfl
        · rfl
      rw [et]
    · exact fin _ rfl
    · exact fr.tuple.mono (by decide) (by decide)
end PR

set_option Elab.async false
set_option linter.all false
set_option maxRecDepth 100000
set_option maxHeartbeats 4000000
namespace K02
open PySem VL PR
abbrev chT (k : Int) : D := .tuple [.str "choice", .int k, .bool true]
abbrev gd (d : D) : D := .tuple [.str "good", d, .bool true]
def dueR (w : Int) (n : Int) (cs : List Cp) (κ δ : D) : D := match keptO cs.length κ with
  | .error k => chT k
  | .ok L => if w = 1 then gd (.tuple [.int n, .list ((L.map (cAt cs)).map cpD)]) else if w = 2 then gd (.int (L.map fun k => (cAt cs k).2.2).sum) else (match chO 1 n δ with
    | .error k => chT k
    | .ok M => gd (.list (dI (L.filter (entB cs M)))))
theorem readCh_asc {lo hi : Int} : ∀ {L acc : List Int} {k : Nat}, (acc ++ L).Pairwise (· < ·) → (∀ x ∈ L, lo ≤ x ∧ x ≤ hi) → readA (okCh lo hi) (dI L) k acc = .all (acc ++ L)
  | [], acc, k, _, _ => by simp [dI, readA]
  | x :: L, acc, k, hp, hb => by
    have hx := hb x List.mem_cons_self
    have e : okCh lo hi acc (.int x) = some x := by
      show (if lo ≤ x ∧ x ≤ hi ∧ (acc.getLast?.getD (lo - 1)) < x then some x else none) = _
      refine if_pos ⟨hx.1, hx.2, ?_⟩
      cases el : acc.getLast? with
      | none => simp; omega
      | some l =>
        have : l ∈ acc := List.mem_of_getLast? el
        exact (List.pairwise_append.mp hp).2.2 l this x List.mem_cons_self
    show readA (okCh lo hi) (.int x :: dI L) k acc = _
    unfold readA
    rw [e]
    simp only
    rw [readCh_asc (by simpa using hp) fun y hy => hb y (List.mem_cons_of_mem _ hy)]
    simp
theorem there_c {n : Int} {κ : D} (h0 : 0 ≤ n) : ∃ θ : D, ((κ = .none ∧ θ = .list (dI (rgI 0 n))) ∨ (κ ≠ .none ∧ θ = κ)) ∧ (match keptO n κ with
    | .error k => faultD 0 (n - 1) θ = .int k
    | .ok L => faultD 0 (n - 1) θ = .none ∧ rowOf θ = some (dI L)) := by
  by_cases hk : κ = .none
  · subst hk
    refine ⟨_, .inl ⟨rfl, rfl⟩, ?_⟩
    show faultD 0 (n - 1) (.list (dI (rgI 0 n))) = .none ∧ rowOf (.list (dI (rgI 0 n))) = some (dI (rgI 0 n))
    refine ⟨?_, rfl⟩
    show ffD (readA (okCh 0 (n - 1)) (dI (rgI 0 n)) 0 []) = .none
    rw [readCh_asc (acc := []) (by simpa using (asc_rgI 0 n).1) fun x hx => by have := mem_rgI.mp hx; omega]
    rfl
  · refine ⟨κ, .inr ⟨hk, rfl⟩, ?_⟩
    have e : keptO n κ = chO 0 (n - 1) κ := by cases κ <;> first | rfl | exact absurd rfl hk
    rw [e]
    unfold chO faultD
    cases er : rowOf κ with
    | none => rfl
    | some ds =>
      simp only
      cases ec : chR 0 (n - 1) ds with
      | bad k => rfl
      | all L => exact ⟨rfl, by rw [(chR_all ec).2.2]⟩
theorem comp_cp {w : Sl} {H : D} {κ' δ' : Sl} {x6 : Option Sl} {cs : List Cp} {θ : D} {L : List Int} (hr : rowOf θ = some (dI L)) (hL : ∀ k ∈ L, 0 ≤ k ∧ k < cs.length) (hl : L.length ≤ 1000) :
    (eComp [7] (iRow (eVar 5)) tYes (eBin fIx (eVar 4) (eVar 7))) [some w, some (F H), some κ', some δ', some (F (.list (cs.map cpD))), some (F θ), x6, none] = .ok (.val (.ls (cpsO (L.map (cAt cs))))) := by
  refine comp_v (VL.row_s (d := θ) rfl hr) (by simp [dI_len]; omega) ?_
  refine (compL_pt _ ((L.map fun k => Ow.fz (cpD (cAt cs k)))) (by simp [dI_len]) fun k v o hv ho => ?_).trans (by simp [cpsO])
  obtain ⟨x, hx, rfl⟩ := row_get hv
  rw [dI_get] at hx
  cases el : L[k]? with
  | none => rw [el] at hx; cases hx
  | some z =>
    rw [el] at hx
    cases hx
    rw [List.getElem?_map, el] at ho
    cases ho
    exact ⟨rfl, bin_v rfl rfl (ix_cs (hL z (List.mem_of_getElem? el)))⟩
theorem due_s {w n : Int} {cs : List Cp} {κ δ : D} (hw : w = 0 ∨ w = 1 ∨ w = 2) (hn : 1 ≤ n ∧ n ≤ 10) (hl : cs.length ≤ 30) (fκ : Fit 5000 5 κ) (fδ : Fit 5000 5 δ) : ∃ ow, φ__law_due [I w, F (hD n cs), F κ, F δ] = .ok ow ∧ ow.toD = dueR w n cs κ δ := by
  have lenOf : ∀ {d : D}, Fit 5000 5 d → ∀ ds, rowOf d = some ds → (ds.length : Int) ≤ 1000000 := fun f ds e => by
    have := (f.row' e).len; omega
  obtain ⟨θ, hθ, hk⟩ := there_c (n := cs.length) (κ := κ) (by omega)
  have lenθ : ∀ ds, rowOf θ = some ds → (ds.length : Int) ≤ 1000000 := by
    rcases hθ with ⟨_, rfl⟩ | ⟨_, rfl⟩
    · intro ds e; cases e; rw [dI_len, rgI_len]; omega
    · exact lenOf fκ
  have l4 : ∀ {a b c e f g h : Option Sl}, (eUn fLen (eVar 4)) [a, b, c, e, some (F (.list (cs.map cpD))), f, g, h] = .ok (.val (.fz (.int cs.length))) := fun {a b c e f g h} => un_v rfl (by
    have := len_s (d := .list (cs.map cpD)) rfl
    show fLen (.val (.fz (.list (cs.map cpD)))) = _
    simpa using this)
  have eθ := fault_s (lo := 0) (hi := (cs.length : Int) - 1) lenθ
  -- there
  have top : ∀ (R : SC) (r : SRes), R [some (I w), some (F (hD n cs)), some (F κ), some (F δ), some (F (.list (cs.map cpD))), some (F θ), some (F (faultD 0 ((cs.length : Int) - 1) θ)), none] = r →
      sSeq (sSet 4 (eBin fIx (eVar 1) (eK (.int 1)))) (sSeq (sSet 5 (eVar 2)) (sSeq (sIf (tB (eUn fIsN (eVar 2))) (sSet 5 (eUn fLRng1 (eUn fLen (eVar 4)))) sPass) (sSeq (sFrz 5 (sSet 6 (eCall φ__law_fault_k02 [(eVar 5), (eK (.int 0)), (eBin fSub (eUn fLen (eVar 4)) (eK (.int 1)))]))) R))) [some (I w), some (F (hD n cs)), some (F κ), some (F δ), none, none, none, none] = r := fun R r hR => by
    refine seq_n (ρ' := [some (I w), some (F (hD n cs)), some (F κ), some (F δ), some (F (.list (cs.map cpD))), none, none, none]) rfl (seq_n (ρ' := [some (I w), some (F (hD n cs)), some (F κ), some (F δ), some (F (.list (cs.map cpD))), some (F κ), none, none]) rfl ?_)
    have tN : VL.tB (eUn fIsN (eVar 2)) [some (I w), some (F (hD n cs)), some (F κ), some (F δ), some (F (.list (cs.map cpD))), some (F κ), none, none] = .ok (isN κ) := tb_v (un_v rfl (isN_s (s := F κ) (.inl rfl) 2))
    have ca : (sSet 6 (eCall φ__law_fault_k02 [(eVar 5), (eK (.int 0)), (eBin fSub (eUn fLen (eVar 4)) (eK (.int 1)))])) [some (I w), some (F (hD n cs)), some (F κ), some (F δ), some (F (.list (cs.map cpD))), some (F θ), none, none] = .next [some (I w), some (F (hD n cs)), some (F κ), some (F δ), some (F (.list (cs.map cpD))), some (F θ), some (F (faultD 0 ((cs.length : Int) - 1) θ)), none] :=
      set_w (call_ok (xs := [.val (.fz θ), .val (.fz (.int 0)), .val (.fz (.int ((cs.length : Int) - 1)))]) (ev_cons rfl (ev_cons rfl (ev_cons (bin_v l4 rfl (sub_s _ _)) rfl))) eθ) rfl
    rcases hθ with ⟨rfl, rfl⟩ | ⟨hne, rfl⟩
    · exact seq_n (if_t tN (set_w (un_v l4 (lrng1_s (by omega) (by omega))) rfl)) (seq_n (frz_li (L := rgI 0 cs.length) rfl ca) hR)
    · have q : isN θ = false := by cases θ <;> first | rfl | exact absurd rfl hne
      exact seq_n (if_f (by rw [tN, q]) rfl) (seq_n (frz_id rfl ca) hR)
  have run : ∀ {ow : Ow} (R : SC), R [some (I w), some (F (hD n cs)), some (F κ), some (F δ), some (F (.list (cs.map cpD))), some (F θ), some (F (faultD 0 ((cs.length : Int) - 1) θ)), none] = .ret ow → b__law_due = sSeq (sSet 4 (eBin fIx (eVar 1) (eK (.int 1)))) (sSeq (sSet 5 (eVar 2)) (sSeq (sIf (tB (eUn fIsN (eVar 2))) (sSet 5 (eUn fLRng1 (eUn fLen (eVar 4)))) sPass) (sSeq (sFrz 5 (sSet 6 (eCall φ__law_fault_k02 [(eVar 5), (eK (.int 0)), (eBin fSub (eUn fLen (eVar 4)) (eK (.int 1)))]))) R))) → φ__law_due [I w, F (hD n cs), F κ, F δ] = .ok ow := fun {ow} R hR hb =>
    run_ret [some (I w), some (F (hD n cs)), some (F κ), some (F δ), none, none, none, none] (by rw [hb]; exact top _ _ hR)
  unfold dueR
  cases ek : keptO cs.length κ with
  | error k =>
    rw [ek] at hk
    rw [hk] at run
    exact ⟨.fz (chT k), run _ (seq_r (if_t rfl rfl)) rfl, rfl⟩
  | ok L =>
    rw [ek] at hk
    obtain ⟨a, b⟩ := keptO_ok (by omega) ek
    have lL := asc_len (by omega) a b
    rw [hk.1] at run
    simp only
    by_cases w1 : w = 1
    · rw [if_pos w1]
      have c := comp_cp (w := I w) (H := hD n cs) (κ' := F κ) (δ' := F δ) (x6 := some (F .none)) hk.2 b (by omega)
      refine ⟨.tp [.fz (.str "good"), .tp [.fz (.int n), .ls (cpsO (L.map (cAt cs)))], .fz (.bool true)], run _ (seq_n (if_f rfl rfl) (seq_r (if_t (eq_T rfl rfl w1) (frzL_r (frz_id rfl (ret_v ?_)))))) rfl, ?_⟩
      · have t2 : (eTup [(eBin fIx (eVar 1) (eK (.int 0))), (eComp [7] (iRow (eVar 5)) tYes (eBin fIx (eVar 4) (eVar 7)))]) [some (I w), some (F (hD n cs)), some (F κ), some (F δ), some (F (.list (cs.map cpD))), some (F θ), some (F .none), none] = .ok (.val (.tp [.fz (.int n), .ls (cpsO (L.map (cAt cs)))])) := by
          unfold eTup
          rw [ev_cons (x := .val (.fz (.int n))) rfl (ev_cons c rfl)]
          rfl
        show (VL.evalAll _ _).bind _ = _
        rw [ev_cons (x := .val (.fz (.str "good"))) rfl (ev_cons t2 (ev_cons (x := .val (.fz (.bool true))) rfl rfl))]
        rfl
      · show PyData.tuple [.str "good", .tuple [.int n, (Ow.ls (cpsO (L.map (cAt cs)))).toD], .bool true] = _
        rw [cpsO_toD]
    · rw [if_neg w1]
      by_cases w2 : w = 2
      · rw [if_pos w2]
        have c : (eComp [7] (iRow (eVar 5)) tYes (eBin fIx (eBin fIx (eVar 4) (eVar 7)) (eK (.int 2)))) [some (I w), some (F (hD n cs)), some (F κ), some (F δ), some (F (.list (cs.map cpD))), some (F θ), some (F .none), none] = .ok (.val (.ls (oI (L.map fun k => (cAt cs k).2.2)))) := by
          have := comp_I (i := 7) (it := iRow (eVar 5)) (t := tYes) (e := eBin fIx (eBin fIx (eVar 4) (eVar 7)) (eK (.int 2))) (ρ := [some (I w), some (F (hD n cs)), some (F κ), some (F δ), some (F (.list (cs.map cpD))), some (F θ), some (F .none), none]) (L := L) (fun _ => true) (fun k => (cAt cs k).2.2) (VL.row_s (d := θ) rfl hk.2) (by omega) (by
            intro k hk'
            exact ⟨rfl, fun _ => bin_v (bin_v rfl rfl (ix_cs (b k hk'))) rfl rfl⟩)
          rw [List.filter_eq_self.mpr fun _ _ => rfl] at this
          exact this
        refine ⟨.fz (gd (.int (L.map fun k => (cAt cs k).2.2).sum)), run _ (seq_n (if_f rfl rfl) (seq_n (if_f (eq_F rfl rfl w1) rfl) (seq_r (if_t (eq_T rfl rfl w2) (frzL_r (frz_id rfl (ret_v ?_))))))) rfl, rfl⟩
        show (VL.evalAll _ _).bind _ = _
        rw [ev_cons (x := .val (.fz (.str "good"))) rfl (ev_cons (un_v c (sum_ls (oI_toD _))) (ev_cons (x := .val (.fz (.bool true))) rfl rfl))]
        rfl
      · rw [if_neg w2]
        have eδ := fault_s (d := δ) (lo := 1) (hi := n) (lenOf fδ)
        have cδ : (sSet 6 (eCall φ__law_fault_k02 [(eVar 3), (eK (.int 1)), (eBin fIx (eVar 1) (eK (.int 0)))])) [some (I w), some (F (hD n cs)), some (F κ), some (F δ), some (F (.list (cs.map cpD))), some (F θ), some (F .none), none] = .next [some (I w), some (F (hD n cs)), some (F κ), some (F δ), some (F (.list (cs.map cpD))), some (F θ), some (F (faultD 1 n δ)), none] :=
          set_w (call_ok (xs := [.val (.fz δ), .val (.fz (.int 1)), .val (.fz (.int n))]) rfl eδ) rfl
        have fd : match chO 1 n δ with
            | .error k => faultD 1 n δ = .int k
            | .ok M => faultD 1 n δ = .none ∧ rowOf δ = some (dI M) := by
          unfold chO faultD
          cases er : rowOf δ with
          | none => rfl
          | some ds =>
            simp only
            cases ec : chR 1 n ds with
            | bad k => rfl
            | all M => exact ⟨rfl, by rw [(chR_all ec).2.2]⟩
        cases ed : chO 1 n δ with
        | error k =>
          rw [ed] at fd
          rw [fd] at cδ
          exact ⟨.fz (chT k), run _ (seq_n (if_f rfl rfl) (seq_n (if_f (eq_F rfl rfl w1) rfl) (seq_n (if_f (eq_F rfl rfl w2) rfl) (seq_n cδ (seq_r (if_t rfl rfl)))))) rfl, rfl⟩
        | ok M =>
          rw [ed] at fd
          rw [fd.1] at cδ
          have c := comp_I (i := 7) (it := iRow (eVar 5)) (t := tAnd (tB (eBin fIn (eBin fIx (eBin fIx (eVar 4) (eVar 7)) (eK (.int 1))) (eVar 3))) (tB (eBin fNotIn (eBin fIx (eBin fIx (eVar 4) (eVar 7)) (eK (.int 0))) (eVar 3)))) (e := eVar 7) (ρ := [some (I w), some (F (hD n cs)), some (F κ), some (F δ), some (F (.list (cs.map cpD))), some (F θ), some (F .none), none]) (L := L) (entB cs M) id (VL.row_s (d := θ) rfl hk.2) (by omega) (by
            intro k hk'
            refine ⟨?_, fun _ => rfl⟩
            have i0 := ix_cs (b k hk')
            refine and_v (x := decide ((cAt cs k).2.1 ∈ M)) (tb_v (bin_v (x := .val (.fz (.int (cAt cs k).2.1))) (bin_v (bin_v rfl rfl i0) rfl rfl) rfl (fIn_dI _ fd.2))) fun _ => ?_
            exact tb_v (bin_v (x := .val (.fz (.int (cAt cs k).1))) (bin_v (bin_v rfl rfl i0) rfl rfl) rfl (fNotIn_dI _ fd.2)))
          have c' : (eComp [7] (iRow (eVar 5)) (tAnd (tB (eBin fIn (eBin fIx (eBin fIx (eVar 4) (eVar 7)) (eK (.int 1))) (eVar 3))) (tB (eBin fNotIn (eBin fIx (eBin fIx (eVar 4) (eVar 7)) (eK (.int 0))) (eVar 3)))) (eVar 7)) [some (I w), some (F (hD n cs)), some (F κ), some (F δ), some (F (.list (cs.map cpD))), some (F θ), some (F .none), none] = .ok (.val (.ls (oI (L.filter (entB cs M))))) := by simpa using c
          refine ⟨.tp [.fz (.str "good"), .ls (oI (L.filter (entB cs M))), .fz (.bool true)], run _ (seq_n (if_f rfl rfl) (seq_n (if_f (eq_F rfl rfl w1) rfl) (seq_n (if_f (eq_F rfl rfl w2) rfl) (seq_n cδ (seq_n (if_f rfl rfl) (frz_id rfl (ret_v ?_))))))) rfl, ?_⟩
          · show (VL.evalAll _ _).bind _ = _
            rw [ev_cons (x := .val (.fz (.str "good"))) rfl (ev_cons c' (ev_cons (x := .val (.fz (.bool true))) rfl rfl))]
            rfl
          · show PyData.tuple [.str "good", (Ow.ls (oI (L.filter (entB cs M)))).toD, .bool true] = _
            rw [oI_toD]
/-! ### told -/
abbrev CL : List HCl2 := [⟨"BadChoice", 4, (hsRetT [(fun _ _ => some (.str "choice")), (hFld ecls "at"), (hAnd (hIs esub "VaultError") (hNot (hIs esub "BadHouse")))])⟩]
theorem run_c (k : Int) (a b c d e : Option Sl) : hRun2 esub CL (xC k) [a, b, c, d, e] = .ret (.fz (chT k)) := by kernel_rfl
def toldO (w : Int) (n : Int) (cs : List Cp) (κ δ : D) : Ow := match keptO cs.length κ with
  | .error k => .fz (chT k)
  | .ok L => if w = 1 then .tp [.fz (.str "good"), .tp [.fz (.int n), .ls (cpsO (L.map (cAt cs)))], .fz (.bool true)] else if w = 2 then .fz (gd (.int (L.map fun k => (cAt cs k).2.2).sum)) else (match chO 1 n δ with
    | .error k => .fz (chT k)
    | .ok M => .tp [.fz (.str "good"), .ls (oI (L.filter (entB cs M))), .fz (.bool true)])
theorem toldO_toD (w n : Int) (cs : List Cp) (κ δ : D) : (toldO w n cs κ δ).toD = dueR w n cs κ δ := by
  unfold toldO dueR
  cases keptO cs.length κ with
  | error k => rfl
  | ok L =>
    simp only
    by_cases w1 : w = 1
    · rw [if_pos w1, if_pos w1]
      show PyData.tuple [.str "good", .tuple [.int n, (Ow.ls (cpsO (L.map (cAt cs)))).toD], .bool true] = _
      rw [cpsO_toD]
    · rw [if_neg w1, if_neg w1]
      by_cases w2 : w = 2
      · rw [if_pos w2, if_pos w2]; rfl
      · rw [if_neg w2, if_neg w2]
        cases chO 1 n δ with
        | error k => rfl
        | ok M =>
          show PyData.tuple [.str "good", (Ow.ls (oI (L.filter (entB cs M)))).toD, .bool true] = _
          rw [oI_toD]
theorem tup_good {a : EC} {ρ : Rho} {ow : Ow} (h : a ρ = .ok (.val ow)) : eTup [eK (.str "good"), a, eK (.bool true)] ρ = .ok (.val (mkTup [.fz (.str "good"), ow, .fz (.bool true)])) := by
  show (VL.evalAll _ _).bind _ = _
  rw [ev_cons (x := .val (.fz (.str "good"))) rfl (ev_cons h (ev_cons (x := .val (.fz (.bool true))) rfl rfl))]
  rfl
theorem tup_bad {a : EC} {ρ : Rho} {x : Exn} (h : a ρ = .err x) : eTup [eK (.str "good"), a, eK (.bool true)] ρ = .err x := by
  unfold eTup VL.evalAll
  simp only [eK, rD, VL.Res.bind]
  rw [ev_e h]
theorem told_s {w n : Int} {cs : List Cp} {g κ δ : D} (hw : w = 0 ∨ w = 1 ∨ w = 2) (hg : GivenH g n cs) : φ__law_told [I w, F g, F κ, F δ] = .ok (toldO w n cs κ δ) := by
  have en := entering_s (κ := κ) (δ := δ) hg
  have pa := part_of_s (κ := κ) hg
  have ts := total_size_s (κ := κ) hg
  have e0 : VL.evalAll [eVar 1, eVar 2, eVar 3] [some (I w), some (F g), some (F κ), some (F δ), none] = .ok [.val (.fz g), .val (.fz κ), .val (.fz δ)] := rfl
  have e1 : VL.evalAll [eVar 1, eVar 2] [some (I w), some (F g), some (F κ), some (F δ), none] = .ok [.val (.fz g), .val (.fz κ)] := rfl
  -- what each call gives
  have good : ∀ {a : EC} {ow : Ow}, (w = 0 → a = eCall φ_entering [eVar 1, eVar 2, eVar 3]) → (w = 1 → a = eCall φ_part_of [eVar 1, eVar 2]) → (w = 2 → a = eCall φ_total_size [eVar 1, eVar 2]) → a [some (I w), some (F g), some (F κ), some (F δ), none] = .ok (.val ow) → φ__law_told [I w, F g, F κ, F δ] = .ok (mkTup [.fz (.str "good"), ow, .fz (.bool true)]) := fun {a ow} h0 h1 h2 h => by
    refine run_ret [some (I w), some (F g), some (F κ), some (F δ), none] (try_r ?_)
    rcases hw with q | q | q
    · rw [h0 q] at h
      exact seq_r (if_t (eq_T rfl rfl q) (ret_v (tup_good h)))
    · rw [h1 q] at h
      exact seq_n (if_f (eq_F rfl rfl (by omega)) rfl) (seq_r (if_t (eq_T rfl rfl q) (ret_v (tup_good h))))
    · rw [h2 q] at h
      exact seq_n (if_f (eq_F rfl rfl (by omega)) rfl) (seq_n (if_f (eq_F rfl rfl (by omega)) rfl) (ret_v (tup_good h)))
  have bad : ∀ {a : EC} {k : Int}, (w = 0 → a = eCall φ_entering [eVar 1, eVar 2, eVar 3]) → (w = 1 → a = eCall φ_part_of [eVar 1, eVar 2]) → (w = 2 → a = eCall φ_total_size [eVar 1, eVar 2]) → a [some (I w), some (F g), some (F κ), some (F δ), none] = .err (xC k) → φ__law_told [I w, F g, F κ, F δ] = .ok (.fz (chT k)) := fun {a k} h0 h1 h2 h => by
    refine run_ret [some (I w), some (F g), some (F κ), some (F δ), none] (try_e (x := xC k) (ρ' := [some (I w), some (F g), some (F κ), some (F δ), none]) ?_ (run_c _ _ _ _ _ _))
    rcases hw with q | q | q
    · rw [h0 q] at h
      exact seq_e (if_t (eq_T rfl rfl q) (ret_e (tup_bad h)))
    · rw [h1 q] at h
      exact seq_n (if_f (eq_F rfl rfl (by omega)) rfl) (seq_e (if_t (eq_T rfl rfl q) (ret_e (tup_bad h))))
    · rw [h2 q] at h
      exact seq_n (if_f (eq_F rfl rfl (by omega)) rfl) (seq_n (if_f (eq_F rfl rfl (by omega)) rfl) (ret_e (tup_bad h)))
  unfold toldO
  cases ek : keptO cs.length κ with
  | error k =>
    rw [ek] at en pa ts
    rcases hw with rfl | rfl | rfl
    · exact bad (fun _ => rfl) (fun z => by cases z) (fun z => by cases z) (call_err e0 en)
    · exact bad (fun z => by cases z) (fun _ => rfl) (fun z => by cases z) (call_err e1 pa)
    · exact bad (fun z => by cases z) (fun z => by cases z) (fun _ => rfl) (call_err e1 ts)
  | ok L =>
    rw [ek] at en pa ts
    rcases hw with rfl | rfl | rfl
    · simp only
      rw [if_neg (by decide), if_neg (by decide)]
      have en : match chO 1 n δ with
        | .error k => φ_entering [F g, F κ, F δ] = .err (xC k)
        | .ok M => φ_entering [F g, F κ, F δ] = .ok (.ls (oI (L.filter (entB cs M)))) := en
      cases ed : chO 1 n δ with
      | error k =>
        rw [ed] at en
        exact bad (fun _ => rfl) (fun z => by cases z) (fun z => by cases z) (call_err e0 en)
      | ok M =>
        rw [ed] at en
        exact good (fun _ => rfl) (fun z => by cases z) (fun z => by cases z) (call_ok e0 en)
    · simp only
      rw [if_pos True.intro]
      exact good (fun z => by cases z) (fun _ => rfl) (fun z => by cases z) (call_ok e1 pa)
    · simp only
      rw [if_neg (by decide), if_pos True.intro]
      exact good (fun z => by cases z) (fun z => by cases z) (fun _ => rfl) (call_ok e1 ts)
end K02

set_option Elab.async false
set_option linter.all false
set_option maxRecDepth 100000
set_option maxHeartbeats 4000000
namespace K02
open PySem VL PR
local macro_rules | `(tactic| sizeOf_list_dec) => `(tactic| with_reducible rfl)
local macro_rules | `(tactic| sizeOf_list_dec) => `(tactic| first
  | ((with_reducible apply le_V); sizeOf_list_dec; sizeOf_list_dec) | ((with_reducible apply ne_V); sizeOf_list_dec; sizeOf_list_dec)
  | ((with_reducible apply bin_v); sizeOf_list_dec; sizeOf_list_dec; sizeOf_list_dec)
  | ((with_reducible apply ev_f); exact rfl) | ((with_reducible apply ev_l); exact rfl) | ((with_reducible apply ev_p); exact rfl)
  | with_reducible exact ek_v _ _
  | ((with_reducible apply un_v); sizeOf_list_dec; sizeOf_list_dec)
  | with_reducible exact add_s _ _ | with_reducible exact sub_s _ _ | with_reducible exact int_s _ | with_reducible exact intb_T (by simp; omega) | with_reducible exact intb_F (by simp; omega) | with_reducible exact mod_s _ _ (by omega) | with_reducible exact div_s _ _ (by omega) | with_reducible exact mul_r _ _ (by omega) | with_reducible exact mul_l _ _ (by omega)
  | with_reducible exact ix_r (by omega) | with_reducible exact ix_f (by omega) | with_reducible exact ix_l (by simp only [List.length_cons, List.length_nil]; omega) | with_reducible exact len_I (isI_ref _ _ _) | with_reducible exact len_I (isI_fz _) | with_reducible exact len_I (isI_ls _)
  | with_reducible exact max_s _ _ | with_reducible exact min_s _ _ | with_reducible exact pow_s _ _ (by decide)
  | ((with_reducible apply call_a); sizeOf_list_dec; sizeOf_list_dec)
  | with_reducible exact ArgsE.nil | ((with_reducible apply arg_f); sizeOf_list_dec; sizeOf_list_dec) | ((with_reducible apply arg_l); sizeOf_list_dec; sizeOf_list_dec) | ((with_reducible apply arg_r); sizeOf_list_dec; sizeOf_list_dec)
  | with_reducible exact lst_nil
  | ((with_reducible apply lst_I); sizeOf_list_dec; exact Nat.le_of_ble_eq_true rfl)
  | with_reducible exact IntsE.nil | ((with_reducible apply IntsE.cons); sizeOf_list_dec; sizeOf_list_dec))
local macro_rules | `(tactic| sizeOf_list_dec) => `(tactic| first
  | with_reducible exact p18 _ | with_reducible exact p12 _
  | ((with_reducible apply lt_T); sizeOf_list_dec; sizeOf_list_dec; omega) | ((with_reducible apply lt_F); sizeOf_list_dec; sizeOf_list_dec; omega) | ((with_reducible apply le_T); sizeOf_list_dec; sizeOf_list_dec; omega) | ((with_reducible apply le_F); sizeOf_list_dec; sizeOf_list_dec; omega)
  | ((with_reducible apply gt_T); sizeOf_list_dec; sizeOf_list_dec; omega) | ((with_reducible apply gt_F); sizeOf_list_dec; sizeOf_list_dec; omega) | ((with_reducible apply ge_T); sizeOf_list_dec; sizeOf_list_dec; omega) | ((with_reducible apply ge_F); sizeOf_list_dec; sizeOf_list_dec; omega)
  | ((with_reducible apply eq_T); sizeOf_list_dec; sizeOf_list_dec; omega) | ((with_reducible apply eq_F); sizeOf_list_dec; sizeOf_list_dec; omega) | ((with_reducible apply ne_T); sizeOf_list_dec; sizeOf_list_dec; omega) | ((with_reducible apply ne_F); sizeOf_list_dec; sizeOf_list_dec; omega)
  | ((with_reducible apply not_T); sizeOf_list_dec) | ((with_reducible apply not_F); sizeOf_list_dec)
  | ((with_reducible apply and_T); sizeOf_list_dec; sizeOf_list_dec) | ((with_reducible apply and_F); sizeOf_list_dec; sizeOf_list_dec) | ((with_reducible apply and_f); sizeOf_list_dec)
  | ((with_reducible apply or_t); sizeOf_list_dec) | ((with_reducible apply or_T); sizeOf_list_dec; sizeOf_list_dec) | ((with_reducible apply or_F); sizeOf_list_dec; sizeOf_list_dec))
local macro_rules | `(tactic| sizeOf_list_dec) => `(tactic| first
  | ((with_reducible apply set_w); sizeOf_list_dec; exact rfl) | ((with_reducible apply ret_v); sizeOf_list_dec) | ((with_reducible apply app_w); sizeOf_list_dec; sizeOf_list_dec; exact rfl; omega; exact rfl)
  | ((with_reducible apply seq_r); ((with_reducible apply if_t); sizeOf_list_dec; sizeOf_list_dec)) | ((with_reducible apply seq_n); ((with_reducible apply if_f); sizeOf_list_dec; (with_reducible exact pass_v _)); sizeOf_list_dec)
  | ((with_reducible apply seq_n); sizeOf_list_dec; sizeOf_list_dec)
  | ((with_reducible apply if_t); sizeOf_list_dec; sizeOf_list_dec) | ((with_reducible apply if_f); sizeOf_list_dec; sizeOf_list_dec)
  | ((with_reducible apply frz_id); exact rfl; sizeOf_list_dec) | ((with_reducible apply frz_li); exact rfl; sizeOf_list_dec) | ((with_reducible apply frz_bo); exact rfl; sizeOf_list_dec) | ((with_reducible apply frzL_n); sizeOf_list_dec) | ((with_reducible apply frzL_r); sizeOf_list_dec)
  | (with_reducible exact pass_v _))
local macro_rules | `(tactic| sizeOf_list_dec) => `(tactic| first | with_reducible exact mixed_s _ _ | with_reducible exact cell_s _ (by omega) | with_reducible exact row_s (by omega) | with_reducible exact ord_s (by omega))
theorem fit_int2 {i : Int} (h : -1000 ≤ i ∧ i ≤ 1000000) (k : Nat) : Fit 20 k (.int i) := by
  refine ⟨by rw [lf]; simp; omega, ?_, by simp [PyData.depth]⟩
  simp only [PyData.weight]
  by_cases h0 : i = 0
  · subst h0; decide
  · have : (i == 0) = false := by simpa using h0
    rw [this]
    have := log_lt (n := i.natAbs) (k := 20) (by omega) (by omega)
    simp; omega
theorem fit_dI : ∀ {L : List Int}, (∀ x ∈ L, -1000 ≤ x ∧ x ≤ 1000000) → FitR (21 * L.length) 0 (dI L)
  | [], _ => FitR.nil.mono (by simp) (by decide)
  | x :: L, h => by
    have h1 := fit_int2 (h x List.mem_cons_self) 0
    have h2 := fit_dI (L := L) fun y hy => h y (List.mem_cons_of_mem _ hy)
    exact (FitR.cons h1 h2).mono (by simp; omega) (Nat.le_refl _)
theorem comp_rgI {i : Nat} {a : EC} {t : TC} {ρ : Rho} {n : Int} (p : Int → Bool) (ha : IntE a ρ n) (hn : 0 ≤ n ∧ n ≤ 1000)
    (h : ∀ x, 0 ≤ x → x < n → t ((ρ.set i none).set i (some (.own (.fz (.int x))))) = .ok (p x)) (hi : i < ρ.length) : eComp [i] (iRng1 a) t (eVar i) ρ = .ok (.val (.ls (oI ((rgI 0 n).filter p)))) := by
  have := comp_I (i := i) (it := iRng1 a) (t := t) (e := eVar i) (ρ := ρ) (L := rgI 0 n) p id (by rw [rng1_I ha (by omega) (by omega), rangeS_row]) (by rw [rgI_len]; omega) (by
    intro x hx
    have hx := mem_rgI.mp hx
    exact ⟨h x hx.1 hx.2, fun _ => ev_f (by rw [List.getElem?_set_self (by simpa using hi)]; rfl)⟩)
  simpa using this
theorem kept_e {c n : Int} (hn : 0 ≤ n ∧ n ≤ 30) : (φ__law_kept_k02 [I c, I n] = .ok (.fz .none)) ∨ ∃ L : List Int, φ__law_kept_k02 [I c, I n] = .ok (.ls (oI L)) ∧ L.length ≤ 30 ∧ ∀ x ∈ L, 0 ≤ x ∧ x < 30 := by
  obtain ⟨P, hP⟩ : ∃ P, P = rowV c 34 60 := ⟨_, rfl⟩
  have lP := row_len (c := c) (n := 34) (size := 60) (by omega)
  rw [← hP] at lP
  obtain ⟨way, hway⟩ : ∃ w, gD P 0 % 6 = w := ⟨_, rfl⟩
  have top : ∀ {R : SC} {r : SRes}, R [some (I c), some (I n), some (.own (.ls (oI P))), some (I way), none, none] = r → sSeq (sSet 2 (eCall φ__law_row_k01 [(eVar 0), (eK (.int 34)), (eK (.int 60))])) (sSeq (sSet 3 (eBin fMod (eUn fInt (eBin fIx (eVar 2) (eK (.int 0)))) (eK (.int 6)))) R) [some (I c), some (I n), none, none, none, none] = r := fun {R r} hR =>
    seq_n (ρ' := [some (I c), some (I n), some (.own (.ls (oI P))), none, none, none]) (by rw [hP]; sizeOf_list_dec) (seq_n (ρ' := [some (I c), some (I n), some (.own (.ls (oI P))), some (I way), none, none]) (by rw [← hway]; sizeOf_list_dec) hR)
  have flt : ∀ p : Int → Bool, ((rgI 0 n).filter p).length ≤ 30 ∧ ∀ x ∈ (rgI 0 n).filter p, 0 ≤ x ∧ x < 30 := fun p => by
    refine ⟨Nat.le_trans (List.length_filter_le _ _) (by rw [rgI_len]; omega), fun x hx => ?_⟩
    have := mem_rgI.mp (List.mem_filter.mp hx).1
    omega
  by_cases w2 : way < 2
  · exact .inl (run_ret [some (I c), some (I n), none, none, none, none] (top (seq_r (if_t (lt_T rfl rfl w2) rfl))))
  by_cases e2 : way = 2
  · refine .inr ⟨rgI 0 n, run_ret [some (I c), some (I n), none, none, none, none] (top (seq_n (if_f (lt_F rfl rfl w2) rfl) (seq_r (if_t (eq_T rfl rfl e2) (ret_v (un_v rfl (lrng1_s (by omega) (by omega)))))))), by rw [rgI_len]; omega, fun x hx => by have := mem_rgI.mp hx; omega⟩
  by_cases e3 : way = 3
  · exact .inr ⟨[], run_ret [some (I c), some (I n), none, none, none, none] (top (seq_n (if_f (lt_F rfl rfl w2) rfl) (seq_n (if_f (eq_F rfl rfl e2) rfl) (seq_r (if_t (eq_T rfl rfl e3) rfl))))), by simp, fun x hx => by cases hx⟩
  by_cases e4 : way = 4 ∧ 0 < n
  · have b1 := Int.emod_nonneg (gD P 1) (show n ≠ 0 by omega)
    have b2 := Int.emod_lt_of_pos (gD P 1) e4.2
    obtain ⟨f1, f2⟩ := flt fun x => !decide (x = gD P 1 % n)
    have n0 : 0 < n := e4.2
    refine .inr ⟨_, run_ret [some (I c), some (I n), none, none, none, none] (top (seq_n (if_f (lt_F rfl rfl w2) rfl) (seq_n (if_f (eq_F rfl rfl e2) rfl) (seq_n (if_f (eq_F rfl rfl e3) rfl) (seq_r (if_t (and_T (eq_T rfl rfl e4.1) (gt_T rfl rfl e4.2)) (seq_n (ρ' := [some (I c), some (I n), some (.own (.ls (oI P))), some (I way), some (I (gD P 1 % n)), none]) (by sizeOf_list_dec) (ret_v (comp_rgI (fun x => !decide (x = gD P 1 % n)) rfl (by omega) (fun x _ _ => ne_t rfl rfl) (by simp)))))))))), f1, f2⟩
  · have no : VL.tAnd (tB (eBin fEq (eVar 3) (eK (.int 4)))) (tB (eBin fGt (eVar 1) (eK (.int 0)))) [some (I c), some (I n), some (.own (.ls (oI P))), some (I way), none, none] = .ok false := by
      by_cases q : way = 4
      · exact and_F (eq_T rfl rfl q) (gt_F rfl rfl fun z => e4 ⟨q, z⟩)
      · exact and_f (eq_F rfl rfl q)
    obtain ⟨f1, f2⟩ := flt fun x => decide (0 < gD P (2 + x) % 3)
    refine .inr ⟨_, run_ret [some (I c), some (I n), none, none, none, none] (top (seq_n (if_f (lt_F rfl rfl w2) rfl) (seq_n (if_f (eq_F rfl rfl e2) rfl) (seq_n (if_f (eq_F rfl rfl e3) rfl) (seq_n (if_f no rfl) (ret_v (comp_rgI (fun x => decide (0 < gD P (2 + x) % 3)) rfl (by omega) (fun x x0 x1 => ?_) (by simp)))))))), f1, f2⟩
    exact gt_t (bin_v (un_v (bin_v rfl (bin_v rfl rfl (add_s _ _)) (ix_r (by omega))) (int_s _)) rfl (mod_s _ _ (by decide))) rfl
theorem days_e {c n : Int} (hn : 1 ≤ n ∧ n ≤ 10) : ∃ L : List Int, φ__law_days [I c, I n] = .ok (.ls (oI L)) ∧ L.length ≤ 30 ∧ ∀ x ∈ L, 0 ≤ x ∧ x < 30 := by
  obtain ⟨P, hP⟩ : ∃ P, P = rowV c 12 60 := ⟨_, rfl⟩
  have lP := row_len (c := c) (n := 12) (size := 60) (by omega)
  rw [← hP] at lP
  obtain ⟨way, hway⟩ : ∃ w, gD P 0 % 5 = w := ⟨_, rfl⟩
  have top : ∀ {R : SC} {r : SRes}, R [some (I c), some (I n), some (.own (.ls (oI P))), some (I way), none] = r → sSeq (sSet 2 (eCall φ__law_row_k01 [(eVar 0), (eK (.int 12)), (eK (.int 60))])) (sSeq (sSet 3 (eBin fMod (eUn fInt (eBin fIx (eVar 2) (eK (.int 0)))) (eK (.int 5)))) R) [some (I c), some (I n), none, none, none] = r := fun {R r} hR =>
    seq_n (ρ' := [some (I c), some (I n), some (.own (.ls (oI P))), none, none]) (by rw [hP]; sizeOf_list_dec) (seq_n (ρ' := [some (I c), some (I n), some (.own (.ls (oI P))), some (I way), none]) (by rw [← hway]; sizeOf_list_dec) hR)
  have e1 : IntE (eBin fAdd (eVar 1) (eK (.int 1))) [some (I c), some (I n), some (.own (.ls (oI P))), some (I way), none] (n + 1) := bin_v rfl rfl (add_s _ _)
  by_cases w0 : way = 0
  · exact ⟨[], run_ret [some (I c), some (I n), none, none, none] (top (seq_r (if_t (eq_T rfl rfl w0) rfl))), by simp, fun x hx => by cases hx⟩
  by_cases w1 : way = 1
  · have b1 := Int.emod_nonneg (gD P 1) (show n ≠ 0 by omega)
    have b2 := Int.emod_lt_of_pos (gD P 1) (show 0 < n by omega)
    exact ⟨[1 + gD P 1 % n], run_ret [some (I c), some (I n), none, none, none] (top (seq_n (if_f (eq_F rfl rfl w0) rfl) (seq_r (if_t (eq_T rfl rfl w1) (by sizeOf_list_dec))))), by simp, fun x hx => by rw [List.mem_singleton.mp hx]; omega⟩
  by_cases w2 : way = 2
  · refine ⟨rgI 1 (n + 1), run_ret [some (I c), some (I n), none, none, none] (top (seq_n (if_f (eq_F rfl rfl w0) rfl) (seq_n (if_f (eq_F rfl rfl w1) rfl) (seq_r (if_t (eq_T rfl rfl w2) (ret_v (bin_v rfl e1 (lrng2_s (by omega) (by omega) (by omega) (by omega))))))))), by rw [rgI_len]; omega, fun x hx => by have := mem_rgI.mp hx; omega⟩
  · have cm := comp_I (i := 4) (it := iRng2 (eK (.int 1)) (eBin fAdd (eVar 1) (eK (.int 1)))) (t := tB (eBin fEq (eBin fMod (eUn fInt (eBin fIx (eVar 2) (eBin fAdd (eK (.int 1)) (eVar 4)))) (eK (.int 2))) (eK (.int 1)))) (e := eVar 4) (ρ := [some (I c), some (I n), some (.own (.ls (oI P))), some (I way), none]) (L := rgI 1 (n + 1)) (fun x => decide (gD P (1 + x) % 2 = 1)) id (by rw [rng2_s (m := 1) (n := n + 1) rfl e1 (by omega) (by omega) (by omega) (by omega), rangeS_row]) (by rw [rgI_len]; omega) (by
      intro x hx
      have hx := mem_rgI.mp hx
      exact ⟨eq_t (bin_v (un_v (bin_v rfl (bin_v rfl rfl (add_s _ _)) (ix_r (by omega))) (int_s _)) rfl (mod_s _ _ (by decide))) rfl, fun _ => rfl⟩)
    rw [List.map_id] at cm
    refine ⟨_, run_ret [some (I c), some (I n), none, none, none] (top (seq_n (if_f (eq_F rfl rfl w0) rfl) (seq_n (if_f (eq_F rfl rfl w1) rfl) (seq_n (if_f (eq_F rfl rfl w2) rfl) (ret_v cm))))), Nat.le_trans (List.length_filter_le _ _) (by rw [rgI_len]; omega), fun x hx => ?_⟩
    have := mem_rgI.mp (List.mem_filter.mp hx).1
    omega
/-! ### spoilt -/
theorem set_ix {i j : Nat} {E : EC} {ρ : Rho} {xs : List Ow} {k : Nat} {d : D} (h : ρ[i]? = some (some (.own (.ls xs)))) (hE : IntE E ρ k) (hE' : IntE E (ρ.set i (some (.own (.fz (.list (toDs xs)))))) k) (hk : (toDs xs)[k]? = some d) :
    ∃ s4, (sFrzL i (sSet j (eBin fIx (eVar i) E))) ρ = .next ((ρ.set i (some s4)).set j (some (F d))) := by
  have hi := (List.getElem?_eq_some_iff.mp h).1
  have hlt : k < xs.length := by
    have := (List.getElem?_eq_some_iff.mp hk).1
    rw [toDs_is] at this; simpa using this
  have ej : L2.ixN xs.length (k : Int) = some k := by
    unfold L2.ixN
    rw [if_pos (by omega), if_pos (by omega)]
    simp
  have ex : xs[k]? = some xs[k] := List.getElem?_eq_getElem hlt
  have ed : (xs[k]).toD = d := by
    rw [toDs_is, List.getElem?_map, ex] at hk
    simpa using hk
  have e1 : (eBin fIx (eVar i) E) ρ = .ok (ixOw i [] k xs[k]) := by
    refine bin_v (ev_l h) hE ?_
    show (match L2.ixN xs.length (k : Int) with | some j => _ | none => _) = _
    rw [ej]
    simp only [ex]
  have frozen : (sSet j (eBin fIx (eVar i) E)) (ρ.set i (frzSl ρ[i]?)) = .next ((ρ.set i (some (F (.list (toDs xs))))).set j (some (F d))) := by
    rw [h]
    show (sSet j (eBin fIx (eVar i) E)) (ρ.set i (some (.own (.fz (.list (toDs xs)))))) = _
    exact set_w (bin_v (ev_f (by rw [List.getElem?_set_self hi])) hE' (fIx_row' (d := .list (toDs xs)) rfl hk)) rfl
  cases eo : xs[k] with
  | fz d' =>
    rw [eo] at e1 ed
    have : d' = d := ed
    subst this
    exact ⟨.own (.ls xs), frzL_n (set_w e1 (by rw [set_same h]))⟩
  | ls ys =>
    rw [eo] at e1
    have st : (sSet j (eBin fIx (eVar i) E)) ρ = .stuck := by unfold sSet; rw [e1]; rfl
    exact ⟨_, frzL_s st frozen⟩
  | tp ys =>
    rw [eo] at e1
    have st : (sSet j (eBin fIx (eVar i) E)) ρ = .stuck := by unfold sSet; rw [e1]; rfl
    exact ⟨_, frzL_s st frozen⟩
def oddW (h : Int) : List Ow := [.fz .none, .fz (.bool true), .fz (.bool false), .fz (.int (-1)), .fz (.int 0), .fz (.int 1), .fz (.int h), .fz (.int (h + 1)), .fz (.int (10 ^ 12)), .fz (.str "1"), .fz (.str ""), .ls [], .ls [.fz (.int 0)], .fz (.tuple [.int 1])]
theorem oddW_fit {h : Int} (hh : -1 ≤ h ∧ h ≤ 100) : ∀ d ∈ toDs (oddW h), Fit 60 1 d := by
  intro d hd
  have e : toDs (oddW h) = [.none, .bool true, .bool false, .int (-1), .int 0, .int 1, .int h, .int (h + 1), .int (10 ^ 12), .str "1", .str "", .list [], .list [.int 0], .tuple [.int 1]] := rfl
  rw [e] at hd
  simp only [List.mem_cons, List.not_mem_nil, or_false] at hd
  rcases hd with rfl | rfl | rfl | rfl | rfl | rfl | rfl | rfl | rfl | rfl | rfl | rfl | rfl | rfl
  case inr.inr.inr.inr.inr.inr.inl => exact (fit_int2 (by omega) 1).mono (by decide) (Nat.le_refl _)
  case inr.inr.inr.inr.inr.inr.inr.inl => exact (fit_int2 (by omega) 1).mono (by decide) (Nat.le_refl _)
  all_goals exact ⟨by decide +kernel, by decide +kernel, by decide +kernel⟩
theorem spoilt_e {L : List Int} {c h : Int} (hL : L.length ≤ 30 ∧ ∀ x ∈ L, 0 ≤ x ∧ x < 30) (hh : -1 ≤ h ∧ h ≤ 100) : ∃ ow, φ__law_spoilt [F (.list (dI L)), I c, I h] = .ok ow ∧ Fit 1400 2 ow.toD := by
  obtain ⟨P, hP⟩ : ∃ P, P = rowV c 3 990 := ⟨_, rfl⟩
  have lP := row_len (c := c) (n := 3) (size := 990) (by omega)
  rw [← hP] at lP
  have b1 := Int.emod_nonneg (gD P 0) (show (14 : Int) ≠ 0 by decide)
  have b2 := Int.emod_lt_of_pos (gD P 0) (show (0 : Int) < 14 by decide)
  have b3 := Int.emod_nonneg (gD P 1) (show (L.length : Int) + 1 ≠ 0 by omega)
  have b4 := Int.emod_lt_of_pos (gD P 1) (show 0 < (L.length : Int) + 1 by omega)
  obtain ⟨j, hj⟩ : ∃ j : Nat, gD P 0 % 14 = j := ⟨(gD P 0 % 14).toNat, by omega⟩
  obtain ⟨pl, hpl⟩ : ∃ pl : Nat, gD P 1 % ((L.length : Int) + 1) = pl := ⟨(gD P 1 % ((L.length : Int) + 1)).toNat, by omega⟩
  obtain ⟨way, hway⟩ : ∃ w, gD P 2 % 5 = w := ⟨_, rfl⟩
  have jl : j < (toDs (oddW h)).length := by show j < 14; omega
  obtain ⟨d, hd⟩ : ∃ d, (toDs (oddW h))[j]? = some d := ⟨_, List.getElem?_eq_getElem jl⟩
  have fd := oddW_fit hh d (List.mem_of_getElem? hd)
  obtain ⟨s4, e5⟩ := set_ix (i := 4) (j := 5) (E := eBin fMod (eUn fInt (eBin fIx (eVar 3) (eK (.int 0)))) (eK (.int 14))) (ρ := [some (F (.list (dI L))), some (I c), some (I h), some (.own (.ls (oI P))), some (.own (.ls (oddW h))), none, none, none]) (xs := oddW h) (k := j) (d := d) rfl (by rw [← hj]; sizeOf_list_dec) (by rw [← hj]; sizeOf_list_dec) hd
  have l0 : ∀ {r}, (eUn fLen (eVar 0)) (some (F (.list (dI L))) :: r) = .ok (.val (.fz (.int L.length))) := fun {r} => un_v rfl (len_I (isI_fz L))
  have run : ∀ {R : SC} {ow : Ow}, R [some (F (.list (dI L))), some (I c), some (I h), some (.own (.ls (oI P))), some s4, some (F d), some (I pl), some (I way)] = .ret ow → b__law_spoilt = sSeq (sSet 3 (eCall φ__law_row_k01 [(eVar 1), (eK (.int 3)), (eK (.int 990))])) (sSeq (sSet 4 (eLst [(eK .none), (eK (.bool true)), (eK (.bool false)), (eUn fNeg (eK (.int 1))), (eK (.int 0)), (eK (.int 1)), (eVar 2), (eBin fAdd (eVar 2) (eK (.int 1))), (eBin fPow (eK (.int 10)) (eK (.int 12))), (eK (.str "1")), (eK (.str "")), (eLst []), (eLst [(eK (.int 0))]), (eTup [(eK (.int 1))])])) (sSeq (sFrzL 4 (sSet 5 (eBin fIx (eVar 4) (eBin fMod (eUn fInt (eBin fIx (eVar 3) (eK (.int 0)))) (eK (.int 14)))))) (sSeq (sSet 6 (eBin fMod (eUn fInt (eBin fIx (eVar 3) (eK (.int 1)))) (eBin fAdd (eUn fLen (eVar 0)) (eK (.int 1))))) (sSeq (sSet 7 (eBin fMod (eUn fInt (eBin fIx (eVar 3) (eK (.int 2)))) (eK (.int 5)))) R)))) → φ__law_spoilt [F (.list (dI L)), I c, I h] = .ok ow := fun {R ow} hR hb => by
    refine run_ret [some (F (.list (dI L))), some (I c), some (I h), none, none, none, none, none] ?_
    rw [hb]
    refine seq_n (ρ' := [some (F (.list (dI L))), some (I c), some (I h), some (.own (.ls (oI P))), none, none, none, none]) (by rw [hP]; sizeOf_list_dec) ?_
    refine seq_n (ρ' := [some (F (.list (dI L))), some (I c), some (I h), some (.own (.ls (oI P))), some (.own (.ls (oddW h))), none, none, none]) (by kernel_rfl) ?_
    refine seq_n e5 ?_
    refine seq_n (ρ' := [some (F (.list (dI L))), some (I c), some (I h), some (.own (.ls (oI P))), some s4, some (F d), some (I pl), none]) (set_w (bin_v (un_v (bin_v rfl rfl (ix_r (by omega))) (int_s _)) (bin_v l0 rfl (add_s _ _)) (by rw [mod_s _ _ (by omega), hpl])) rfl) ?_
    exact seq_n (ρ' := [some (F (.list (dI L))), some (I c), some (I h), some (.own (.ls (oI P))), some s4, some (F d), some (I pl), some (I way)]) (by rw [← hway]; sizeOf_list_dec) hR
  have fL : FitR 630 1 (dI L) := (fit_dI fun x hx => by have := hL.2 x hx; omega).mono (by omega) (by decide)
  have three : ∀ {x : D} {a b : Nat}, Fit 60 1 x → Fit 1400 2 (Ow.ls (((dI L).take a ++ [x] ++ (dI L).drop b).map Ow.fz)).toD := fun {x a b} fx => by
    rw [lsD]
    exact (((fL.take a).app (FitR.one fx)).app (fL.drop b)).list.mono (by decide) (by decide)
  have lens : ∀ {x : D} {a b : Nat}, ((dI L).take a).length + [x].length ≤ 16777216 ∧ ((dI L).take a ++ [x]).length + ((dI L).drop b).length ≤ 16777216 := fun {x a b} => by
    simp [dI_len]; omega
  have cat : ∀ {v : EC} {x : D} {u : EC} {q : Int}, v [some (F (.list (dI L))), some (I c), some (I h), some (.own (.ls (oI P))), some s4, some (F d), some (I pl), some (I way)] = .ok (.val (.fz x)) → IntE u [some (F (.list (dI L))), some (I c), some (I h), some (.own (.ls (oI P))), some s4, some (F d), some (I pl), some (I way)] q → 0 ≤ q →
      LsE (eBin fAdd (eBin fAdd (eSlice (eVar 0) none (some (eVar 6))) (eLst [v])) (eSlice (eVar 0) (some u) none)) [some (F (.list (dI L))), some (I c), some (I h), some (.own (.ls (oI P))), some s4, some (F d), some (I pl), some (I way)] ((dI L).take (pl : Int).toNat ++ [x] ++ (dI L).drop q.toNat) := fun {v x u q} hv hu hq =>
    add_ll (add_ll (sl_to rfl rfl (by omega)) (lst_one hv) (lens (b := 0)).1) (sl_from rfl hu hq) lens.2
  by_cases w0 : way = 0
  · exact ⟨.fz d, run (seq_r (if_t (eq_T rfl rfl w0) rfl)) rfl, fd.mono (by decide) (by decide)⟩
  by_cases w1 : way = 1
  · exact ⟨_, run (seq_n (if_f (eq_F rfl rfl w0) rfl) (seq_r (if_t (eq_T rfl rfl w1) (frz_id rfl (ret_v (cat (u := eVar 6) (q := pl) rfl rfl (by omega))))))) rfl, three fd⟩
  by_cases w2 : way = 2 ∧ (pl : Int) < L.length
  · exact ⟨_, run (seq_n (if_f (eq_F rfl rfl w0) rfl) (seq_n (if_f (eq_F rfl rfl w1) rfl) (seq_r (if_t (and_T (eq_T rfl rfl w2.1) (lt_T rfl l0 w2.2)) (frz_id rfl (ret_v (cat (u := eBin fAdd (eVar 6) (eK (.int 1))) (q := (pl : Int) + 1) rfl (bin_v rfl rfl (add_s _ _)) (by omega)))))))) rfl, three fd⟩
  have n2 : VL.tAnd (tB (eBin fEq (eVar 7) (eK (.int 2)))) (tB (eBin fLt (eVar 6) (eUn fLen (eVar 0)))) [some (F (.list (dI L))), some (I c), some (I h), some (.own (.ls (oI P))), some s4, some (F d), some (I pl), some (I way)] = .ok false := by
    by_cases q : way = 2
    · exact and_F (eq_T rfl rfl q) (lt_F rfl l0 fun z => w2 ⟨q, z⟩)
    · exact and_f (eq_F rfl rfl q)
  by_cases w3 : way = 3 ∧ (pl : Int) < L.length
  · obtain ⟨x, hx, hx2⟩ : ∃ x, L[pl]? = some x ∧ x ∈ L := ⟨L[pl]'(by omega), List.getElem?_eq_getElem (by omega), List.getElem_mem _⟩
    have fx : Fit 60 1 (.int x) := (fit_int2 (by have := hL.2 x hx2; omega) 1).mono (by decide) (Nat.le_refl _)
    exact ⟨_, run (seq_n (if_f (eq_F rfl rfl w0) rfl) (seq_n (if_f (eq_F rfl rfl w1) rfl) (seq_n (if_f n2 rfl) (seq_r (if_t (and_T (eq_T rfl rfl w3.1) (lt_T rfl l0 w3.2)) (ret_v (cat (v := eBin fIx (eVar 0) (eVar 6)) (x := .int x) (u := eVar 6) (q := pl) (bin_v rfl rfl (ix_I (by omega) (by rw [Int.toNat_natCast]; exact hx))) rfl (by omega)))))))) rfl, three fx⟩
  have n3 : VL.tAnd (tB (eBin fEq (eVar 7) (eK (.int 3)))) (tB (eBin fLt (eVar 6) (eUn fLen (eVar 0)))) [some (F (.list (dI L))), some (I c), some (I h), some (.own (.ls (oI P))), some s4, some (F d), some (I pl), some (I way)] = .ok false := by
    by_cases q : way = 3
    · exact and_F (eq_T rfl rfl q) (lt_F rfl l0 fun z => w3 ⟨q, z⟩)
    · exact and_f (eq_F rfl rfl q)
  refine ⟨.ls (oI L.reverse), run (seq_n (if_f (eq_F rfl rfl w0) rfl) (seq_n (if_f (eq_F rfl rfl w1) rfl) (seq_n (if_f n2 rfl) (seq_n (if_f n3 rfl) (ret_v (un_v rfl (rev_I (isI_fz L)))))))) rfl, ?_⟩
  rw [oI_toD]
  exact ((fit_dI (L := L.reverse) fun x hx => by have := hL.2 x (List.mem_reverse.mp hx); omega).list).mono (by rw [List.length_reverse]; omega) (by decide)
end K02

set_option Elab.async false
set_option linter.all false
set_option maxRecDepth 100000
set_option maxHeartbeats 4000000
namespace K02
open PySem VL PR
theorem own_arg (ow : Ow) (i : Nat) : Is ((Sl.own ow).rv i).arg ow.toD := by
  cases ow with
  | fz d => exact .inl rfl
  | ls xs => exact .inr rfl
  | tp xs => exact .inr rfl
theorem chR_bad {lo hi : Int} : ∀ {ds : List D} {k n : Nat} {acc : List Int}, readA (okCh lo hi) ds k acc = .bad n → n < k + ds.length
  | [], _, _, _, h => by cases h
  | d :: ds, k, n, acc, h => by
    unfold readA at h
    cases e : okCh lo hi acc d with
    | none => rw [e] at h; cases h; simp
    | some z =>
      rw [e] at h
      have := chR_bad h
      simp; omega
theorem chO_bad {lo hi k : Int} {d : D} (f : Fit 5000 5 d) (h : chO lo hi d = .error k) : -1 ≤ k ∧ k ≤ 5000 := by
  unfold chO at h
  split at h
  · cases h; omega
  · rename_i ds e
    have hl := (f.row' e).len
    split at h
    · rename_i j er
      cases h
      have := chR_bad er
      omega
    · cases h
theorem fit_ch {k : Int} (h : -1 ≤ k ∧ k ≤ 5000) : Fit 1000000 11 (chT k) :=
  ((FitR.cons (n := 100) (k := 0) (m := 22) ⟨by decide +kernel, by decide +kernel, by decide +kernel⟩ (FitR.cons (n := 20) (m := 1) (fit_int2 (by omega) 0) (FitR.one (fit_bool true 0)))).tuple).mono (by decide) (by decide)
theorem fit_gd {n k : Nat} {d : D} (h : Fit n k d) (hn : n ≤ 900000) (hk : k ≤ 10) : Fit 1000000 11 (gd d) :=
  ((FitR.cons (n := 100) (k := k) ⟨by decide +kernel, by decide +kernel, Nat.le_trans (by decide +kernel) (Nat.zero_le k)⟩ (FitR.cons h (FitR.one (fit_bool true k)))).tuple).mono (by omega) (by omega)
theorem cAt_mem {cs : List Cp} {k : Int} (h : 0 ≤ k ∧ k < cs.length) : cAt cs k ∈ cs := List.mem_of_getElem? (cAt_get h)
theorem sum_b : ∀ {L : List Int}, (∀ x ∈ L, 0 ≤ x ∧ x ≤ 999) → 0 ≤ L.sum ∧ L.sum ≤ 999 * L.length
  | [], _ => by simp
  | x :: L, h => by
    have h1 := h x List.mem_cons_self
    have h2 := sum_b (L := L) fun y hy => h y (List.mem_cons_of_mem _ hy)
    simp only [List.sum_cons, List.length_cons]
    omega
theorem fit_due {w n : Int} {cs : List Cp} {κ δ : D} (hn : 1 ≤ n ∧ n ≤ 10) (hl : cs.length ≤ 30) (ok : ∀ c ∈ cs, Cok n c) (fκ : Fit 5000 5 κ) (fδ : Fit 5000 5 δ) : Fit 1000000 11 (dueR w n cs κ δ) := by
  unfold dueR
  cases ek : keptO cs.length κ with
  | error k =>
    have : chO 0 (cs.length - 1) κ = .error k := by
      by_cases hk : κ = .none
      · subst hk; cases ek
      · have e : keptO cs.length κ = chO 0 (cs.length - 1) κ := by cases κ <;> first | rfl | exact absurd rfl hk
        rw [← e]; exact ek
    exact fit_ch (chO_bad fκ this)
  | ok L =>
    obtain ⟨a, b⟩ := keptO_ok (by omega) ek
    have lL := asc_len (by omega) a b
    simp only
    split
    · have f1 : FitR (34 * (L.map (cAt cs)).length) 1 ((L.map (cAt cs)).map cpD) := fit_cps (days := n) (fun c hc => by
        obtain ⟨k, hk, rfl⟩ := List.mem_map.mp hc
        exact ok _ (cAt_mem (b k hk))) hn.2
      exact fit_gd (n := 2000) (k := 3) (((FitR.cons (fit_int2 (by omega) 2) (FitR.one f1.list)).tuple).mono (by rw [List.length_map]; omega) (Nat.le_refl _)) (by decide) (by decide)
    · split
      · have := sum_b (L := L.map fun k => (cAt cs k).2.2) (fun x hx => by
          obtain ⟨k, hk, rfl⟩ := List.mem_map.mp hx
          have := ok _ (cAt_mem (b k hk))
          exact ⟨this.2.2.2.2.2.1, this.2.2.2.2.2.2⟩)
        rw [List.length_map] at this
        exact fit_gd (fit_int2 (by omega) 0) (by decide) (by decide)
      · cases ed : chO 1 n δ with
        | error k => exact fit_ch (chO_bad fδ ed)
        | ok M =>
          have fl := List.length_filter_le (entB cs M) L
          exact fit_gd (n := 1000) (k := 1) (((fit_dI (L := L.filter (entB cs M)) fun x hx => by have := b x (List.mem_filter.mp hx).1; omega).list).mono (by omega) (Nat.le_refl _)) (by decide) (by decide)
theorem turn_s {ns P : List Int} {w n : Int} {cs : List Cp} {κ δ : D} {h3 k3 k4 : Ow} {x6 x7 x8 x9 x10 : Option Sl} (hP : P.length = 8) (hw : w = 0 ∨ w = 1 ∨ w = 2) (hn : 1 ≤ n ∧ n ≤ 10) (hl : cs.length ≤ 30) (ok : ∀ c ∈ cs, Cok n c) (fκ : Fit 5000 5 κ) (fδ : Fit 5000 5 δ)
    (hh : h3.toD = hD n cs) (hκ : k3.toD = κ) (hδ : k4.toD = δ) :
    ∃ y6 y7 y8 y9 y10, w_law_0 [some (Lx ns), some (.own (.ls (oI P))), some (.own h3), some (.own k3), some (.own k4), some (I w), x6, x7, x8, x9, x10] = .next [some (Lx ns), some (.own (.ls (oI P))), some (F (hD n cs)), some (F κ), some (F δ), some (I w), y6, y7, y8, y9, y10] := by
  obtain ⟨ow, ed, edD⟩ := due_s (w := w) hw hn hl fκ fδ
  obtain ⟨go, eg, gg, fg⟩ := given_e (m := gD P (4 + w)) hn.1 hn.2 hl ok
  obtain ⟨g, hg⟩ : ∃ g, go.toD = g := ⟨_, rfl⟩
  rw [hg] at gg fg
  have et := told_s (κ := κ) (δ := δ) hw gg
  have fd := fit_due (w := w) (κ := κ) (δ := δ) hn hl ok fκ fδ
  obtain ⟨dd, hdd⟩ : ∃ dd, dueR w n cs κ δ = dd := ⟨_, rfl⟩
  obtain ⟨T, hT⟩ : ∃ T, PyData.shown (.list [g, κ, δ]) = T := ⟨_, rfl⟩
  have rep : fRepr (.val (.ls [.fz g, .fz κ, .fz δ])) = .ok (.val (.fz (.str T))) := by
    rw [← hT]
    exact repr_s (x := .val (.ls [.fz g, .fz κ, .fz δ])) (n := 20000) (k := 6) (((FitR.cons (fg.mono (Nat.le_refl _) (by decide)) (FitR.cons fκ (FitR.one fδ))).list).mono (by decide) (by decide)) (by decide) (by decide)
  have ne : fNeS (.val (.fz (.str T))) (.val (.fz (.str T))) = .ok (.val (.fz (.bool false))) := by
    show rD (.bool (!decide (T = T))) = _
    rw [decide_eq_true rfl]; rfl
  have sm : Is ((Sl.own (toldO w n cs κ δ)).rv 9).arg (dueR w n cs κ δ) := by
    have := own_arg (toldO w n cs κ δ) 9
    rw [toldO_toD] at this
    exact this
  have sm2 : Is (RV.val (toldO w n cs κ δ)).arg (dueR w n cs κ δ) := .inl (by show Sl.own (.fz (toldO w n cs κ δ).toD) = _; rw [toldO_toD])
  -- what is changed of the answer
  have muts : ∃ y9 y10, ∀ (R : SC) (r : SRes), R [some (Lx ns), some (.own (.ls (oI P))), some (F (hD n cs)), some (F κ), some (F δ), some (I w), some (F (dueR w n cs κ δ)), some (F g), some (F (.str T)), y9, y10] = r →
      sSeq (sIf (tAnd (tB (eBin fEq (eVar 5) (eK (.int 0)))) (tB (eBin fEq (eBin fIx (eVar 6) (eK (.int 0))) (eK (.str "good"))))) (sSeq (sTake 10 (eBin fIx (eVar 9) (eK (.int 1)))) (sApp (eVar 10) (eK (.int 0)))) sPass) (sSeq (sIf (tAnd (tB (eBin fEq (eVar 5) (eK (.int 1)))) (tB (eBin fEq (eBin fIx (eVar 6) (eK (.int 0))) (eK (.str "good"))))) (sSeq (sTake 10 (eBin fIx (eBin fIx (eVar 9) (eK (.int 1))) (eK (.int 1)))) (sApp (eVar 10) (eTup [(eK (.int 0)), (eK (.int 1)), (eK (.int 0))]))) sPass) R) [some (Lx ns), some (.own (.ls (oI P))), some (F (hD n cs)), some (F κ), some (F δ), some (I w), some (F (dueR w n cs κ δ)), some (F g), some (F (.str T)), some (.own (toldO w n cs κ δ)), x10] = r := by
    have isch : ∀ {k : Int} {a b : Option Sl}, VL.tB (eBin fEq (eBin fIx (eVar 6) (eK (.int 0))) (eK (.str "good"))) [some (Lx ns), some (.own (.ls (oI P))), some (F (hD n cs)), some (F κ), some (F δ), some (I w), some (F (chT k)), some (F g), some (F (.str T)), a, b] = .ok false := fun {k a b} => tb_v (bin_v (x := .val (.fz (.str "choice"))) rfl rfl (by kernel_rfl))
    have isgd : ∀ {d : D} {a b : Option Sl}, VL.tB (eBin fEq (eBin fIx (eVar 6) (eK (.int 0))) (eK (.str "good"))) [some (Lx ns), some (.own (.ls (oI P))), some (F (hD n cs)), some (F κ), some (F δ), some (I w), some (F (gd d)), some (F g), some (F (.str T)), a, b] = .ok true := fun {d a b} => tb_v (bin_v (x := .val (.fz (.str "good"))) rfl rfl (by kernel_rfl))
    have bad : ∀ {k : Int}, toldO w n cs κ δ = .fz (chT k) → dueR w n cs κ δ = chT k → _ := fun {k} q1 q2 => (⟨some (.own (.fz (chT k))), x10, fun R r hR => by
      rw [q2] at hR
      rw [q1, q2]
      refine seq_n (if_f ?_ rfl) (seq_n (if_f ?_ rfl) hR)
      · by_cases z : w = 0
        · exact and_F (eq_T rfl rfl z) isch
        · exact and_f (eq_F rfl rfl z)
      · by_cases z : w = 1
        · exact and_F (eq_T rfl rfl z) isch
        · exact and_f (eq_F rfl rfl z)⟩ : ∃ y9 y10, ∀ (R : SC) (r : SRes), R [some (Lx ns), some (.own (.ls (oI P))), some (F (hD n cs)), some (F κ), some (F δ), some (I w), some (F (dueR w n cs κ δ)), some (F g), some (F (.str T)), y9, y10] = r →
      sSeq (sIf (tAnd (tB (eBin fEq (eVar 5) (eK (.int 0)))) (tB (eBin fEq (eBin fIx (eVar 6) (eK (.int 0))) (eK (.str "good"))))) (sSeq (sTake 10 (eBin fIx (eVar 9) (eK (.int 1)))) (sApp (eVar 10) (eK (.int 0)))) sPass) (sSeq (sIf (tAnd (tB (eBin fEq (eVar 5) (eK (.int 1)))) (tB (eBin fEq (eBin fIx (eVar 6) (eK (.int 0))) (eK (.str "good"))))) (sSeq (sTake 10 (eBin fIx (eBin fIx (eVar 9) (eK (.int 1))) (eK (.int 1)))) (sApp (eVar 10) (eTup [(eK (.int 0)), (eK (.int 1)), (eK (.int 0))]))) sPass) R) [some (Lx ns), some (.own (.ls (oI P))), some (F (hD n cs)), some (F κ), some (F δ), some (I w), some (F (dueR w n cs κ δ)), some (F g), some (F (.str T)), some (.own (toldO w n cs κ δ)), x10] = r)
    cases ek : keptO cs.length κ with
    | error k => exact bad (by unfold toldO; rw [ek]) (by unfold dueR; rw [ek])
    | ok L =>
      obtain ⟨a, b⟩ := keptO_ok (by omega) ek
      have lL := asc_len (by omega) a b
      rcases hw with rfl | rfl | rfl
      · cases ec : chO 1 n δ with
        | error k => exact bad (by unfold toldO; rw [ek]; simp only; rw [if_neg (by decide), if_neg (by decide), ec]) (by unfold dueR; rw [ek]; simp only; rw [if_neg (by decide), if_neg (by decide), ec])
        | ok M =>
          have q1 : toldO 0 n cs κ δ = .tp [.fz (.str "good"), .ls (oI (L.filter (entB cs M))), .fz (.bool true)] := by unfold toldO; rw [ek]; simp only; rw [if_neg (by decide), if_neg (by decide), ec]
          have q2 : dueR 0 n cs κ δ = gd (.list (dI (L.filter (entB cs M)))) := by unfold dueR; rw [ek]; simp only; rw [if_neg (by decide), if_neg (by decide), ec]
          have fl := List.length_filter_le (entB cs M) L
          refine ⟨none, some (.own (.ls (oI (L.filter (entB cs M) ++ [0])))), fun R r hR => ?_⟩
          rw [q2] at hR
          rw [q1, q2]
          exact seq_n (if_t (and_T (eq_T rfl rfl rfl) isgd) (seq_n (ρ' := [some (Lx ns), some (.own (.ls (oI P))), some (F (hD n cs)), some (F κ), some (F δ), some (I 0), some (F (gd (.list (dI (L.filter (entB cs M)))))), some (F g), some (F (.str T)), none, some (.own (.ls (oI (L.filter (entB cs M)))))]) rfl (app_w rfl rfl rfl (by omega) rfl))) (seq_n (if_f (and_f (eq_F rfl rfl (by decide))) rfl) hR)
      · have q1 : toldO 1 n cs κ δ = .tp [.fz (.str "good"), .tp [.fz (.int n), .ls (cpsO (L.map (cAt cs)))], .fz (.bool true)] := by unfold toldO; rw [ek]; rfl
        have q2 : dueR 1 n cs κ δ = gd (.tuple [.int n, .list ((L.map (cAt cs)).map cpD)]) := by unfold dueR; rw [ek]; rfl
        refine ⟨none, some (.own (.ls (cpsO (L.map (cAt cs) ++ [(0, 1, 0)])))), fun R r hR => ?_⟩
        rw [q2] at hR
        rw [q1, q2]
        exact seq_n (if_f (and_f (eq_F rfl rfl (by decide))) rfl) (seq_n (if_t (and_T (eq_T rfl rfl rfl) isgd) (seq_n (ρ' := [some (Lx ns), some (.own (.ls (oI P))), some (F (hD n cs)), some (F κ), some (F δ), some (I 1), some (F (gd (.tuple [.int n, .list ((L.map (cAt cs)).map cpD)]))), some (F g), some (F (.str T)), none, some (.own (.ls (cpsO (L.map (cAt cs)))))]) rfl (app_cp (c := (0, 1, 0)) rfl (tup3 rfl rfl rfl) rfl (by rw [List.length_map]; omega) rfl))) hR)
      · exact ⟨_, _, fun R r hR => seq_n (if_f (and_f (eq_F rfl rfl (by decide))) rfl) (seq_n (if_f (and_f (eq_F rfl rfl (by decide))) rfl) hR)⟩
  obtain ⟨y9, y10, em⟩ := muts
  refine ⟨some (F (dueR w n cs κ δ)), some (F g), some (F (.str T)), y9, y10, ?_⟩
  refine seq_n (ρ' := [some (Lx ns), some (.own (.ls (oI P))), some (F (hD n cs)), some (F κ), some (F δ), some (I w), some (.own ow), x7, x8, x9, x10]) (frz_n (frz_n (frz_n ?_))) ?_
  · show (sSet 6 (eCall φ__law_due [(eVar 5), (eVar 2), (eVar 3), (eVar 4)])) [some (Lx ns), some (.own (.ls (oI P))), some (F h3.toD), some (F k3.toD), some (F k4.toD), some (I w), x6, x7, x8, x9, x10] = _
    rw [hh, hκ, hδ]
    exact set_w (call_ok (xs := [.val (.fz (.int w)), .val (.fz (hD n cs)), .val (.fz κ), .val (.fz δ)]) rfl ed) rfl
  refine seq_n (ρ' := [some (Lx ns), some (.own (.ls (oI P))), some (F (hD n cs)), some (F κ), some (F δ), some (I w), some (.own ow), some (.own go), x8, x9, x10]) (frzL_n (frz_id rfl (set_w (call_ok (xs := [.val (.fz (hD n cs)), .val (.fz (.int (gD P (4 + w))))]) (ev_cons rfl (ev_cons (bin_v rfl (bin_v rfl rfl (add_s _ _)) (ix_r (by omega))) rfl)) eg) rfl))) ?_
  refine seq_n (ρ' := [some (Lx ns), some (.own (.ls (oI P))), some (F (hD n cs)), some (F κ), some (F δ), some (I w), some (.own ow), some (F g), some (F (.str T)), x9, x10]) (frz_id rfl (frz_id rfl (frz_n ?_))) ?_
  · show (sSet 8 (eUn fRepr (eLst [(eVar 7), (eVar 3), (eVar 4)]))) [some (Lx ns), some (.own (.ls (oI P))), some (F (hD n cs)), some (F κ), some (F δ), some (I w), some (.own ow), some (F go.toD), x8, x9, x10] = _
    rw [hg]
    exact set_w (un_v rfl rep) rfl
  refine seq_n (ρ' := [some (Lx ns), some (.own (.ls (oI P))), some (F (hD n cs)), some (F κ), some (F δ), some (I w), some (.own ow), some (F g), some (F (.str T)), some (.own (toldO w n cs κ δ)), x10]) (frz_id rfl (frz_id rfl (frz_id rfl (set_w (call_ok (xs := [.val (.fz (.int w)), .val (.fz g), .val (.fz κ), .val (.fz δ)]) rfl et) rfl)))) ?_
  refine seq_n (ρ' := [some (Lx ns), some (.own (.ls (oI P))), some (F (hD n cs)), some (F κ), some (F δ), some (I w), some (F (dueR w n cs κ δ)), some (F g), some (F (.str T)), some (.own (toldO w n cs κ δ)), x10]) (frz_id rfl (frz_id rfl (frz_id rfl (frz_n ?_)))) (em _ _ ?_)
  · show (sIf _ _ _) [some (Lx ns), some (.own (.ls (oI P))), some (F (hD n cs)), some (F κ), some (F δ), some (I w), some (F ow.toD), some (F g), some (F (.str T)), some (.own (toldO w n cs κ δ)), x10] = _
    rw [edD]
    exact if_f (or_F (not_F (tb_v (call_ok (xs := [(Sl.own (toldO w n cs κ δ)).rv 9, .val (.fz (dueR w n cs κ δ))]) (ev_cons (ev_var rfl) (ev_cons rfl rfl)) (same_self fd sm (.inl rfl))))) (tb_v (bin_v (un_v rfl rep) rfl ne))) rfl
  · refine frz_id rfl (frz_id rfl (frz_id rfl (frz_id rfl (if_f (or_F (not_F (tb_v (call_ok (xs := [.val (toldO w n cs κ δ), .val (.fz (dueR w n cs κ δ))]) (ev_cons (call_ok (xs := [.val (.fz (.int w)), .val (.fz g), .val (.fz κ), .val (.fz δ)]) rfl et) (ev_cons rfl rfl)) (same_self fd sm2 (.inl rfl))))) (tb_v (bin_v (un_v rfl rep) rfl ne))) rfl))))
theorem cs_lenp {cs : List Cp} (i : Nat) (p : List Nat) : fLen (.ref i p (.ls (cpsO cs))) = .ok (.val (.fz (.int cs.length))) := by
  have := len_ls (x := .ref i p (.ls (cpsO cs))) (cpsO_toD cs)
  simpa using this
/-- kept, days: None or a row, then spoilt, then a tuple perhaps -/
def Row (k : Ow) : Prop := k = .fz .none ∨ ∃ L : List Int, k = .ls (oI L) ∧ L.length ≤ 30 ∧ ∀ x ∈ L, 0 ≤ x ∧ x < 30
theorem Row.fit {k : Ow} (h : Row k) : Fit 1400 2 k.toD := by
  rcases h with rfl | ⟨L, rfl, hl, hb⟩
  · exact ⟨by decide +kernel, by decide +kernel, by decide +kernel⟩
  · rw [oI_toD]
    exact ((fit_dI fun x hx => by have := hb x hx; omega).list).mono (by omega) (by decide)
theorem tuple_step {i : Nat} {k : Ow} {t : TC} {ρ : Rho} {q : Bool} (hi : ρ[i]? = some (some (.own k))) (ht : t ρ = .ok q) (hf : Fit 1400 2 k.toD) :
    ∃ k' : Ow, (sIf (tAnd t (tB (eUn (fIsI .list) (eVar i)))) (sFrz i (sSet i (eUn fTuple (eVar i)))) sPass) ρ = .next (ρ.set i (some (.own k'))) ∧ Fit 1400 2 k'.toD := by
  have hlt := (List.getElem?_eq_some_iff.mp hi).1
  have tI : VL.tB (eUn (fIsI .list) (eVar i)) ρ = .ok (inst k.toD .list) := by
    refine tb_v (un_v (ev_var hi) ?_)
    cases k <;> rfl
  cases q with
  | false => exact ⟨k, by rw [set_same hi]; exact if_f (and_f ht) rfl, hf⟩
  | true =>
    cases e : inst k.toD .list with
    | false => exact ⟨k, by rw [set_same hi]; exact if_f (and_F ht (by rw [tI, e])) rfl, hf⟩
    | true =>
      obtain ⟨ds, hds⟩ : ∃ ds, k.toD = .list ds := by
        cases hh : k.toD with
        | list ds => exact ⟨ds, rfl⟩
        | _ => rw [hh] at e; cases e
      rw [hds] at hf
      refine ⟨.fz (.tuple ds), if_t (and_T ht (by rw [tI, e])) (frz_n ?_), ⟨by show lf (.tuple ds) = true; rw [tup_lf]; exact hf.lf, by show PyData.weight (.tuple ds) ≤ 1400; rw [tup_w]; exact hf.w, by show PyData.depth (.tuple ds) ≤ 2; rw [tup_dp]; exact hf.dp⟩⟩
      rw [hi]
      show (sSet i (eUn fTuple (eVar i))) (ρ.set i (some (.own (.fz k.toD)))) = _
      rw [hds]
      refine set_w (un_v (ev_f (by rw [List.getElem?_set_self hlt])) (tupf_s rfl)) ?_
      rw [List.set_set]
theorem law_s (ns : List Int) : φ_law [.own (.fz (.list (ns.map PyData.int)))] = .ok (.fz (.bool true)) := by
  show φ_law [Lx ns] = _
  obtain ⟨P, hP⟩ : ∃ P, P = rowV (cellV ns 5) 8 60 := ⟨_, rfl⟩
  have lP := row_len (c := cellV ns 5) (n := 8) (size := 60) (by omega)
  rw [← hP] at lP
  obtain ⟨n, cs, eh, d1, d2, lc, ok⟩ := house_e ns 0 30 (by omega)
  have ix21 : ∀ {x3 x4 x5 x6 x7 x8 x9 x10 : Option Sl}, (eUn fLen (eBin fIx (eVar 2) (eK (.int 1)))) [some (Lx ns), some (.own (.ls (oI P))), some (.own (.tp [.fz (.int n), .ls (cpsO cs)])), x3, x4, x5, x6, x7, x8, x9, x10] = .ok (.val (.fz (.int cs.length))) := fun {x3 x4 x5 x6 x7 x8 x9 x10} => un_v (x := .ref 2 [1] (.ls (cpsO cs))) rfl (cs_lenp 2 [1])
  have cl : ∀ {k : Int} {r : Rho}, 0 ≤ k → eCall φ__law_cell_k01 [eVar 0, eK (.int k)] (some (Lx ns) :: r) = .ok (.val (.fz (.int (cellV ns k)))) := fun {k r} hk => call_ok (xs := [.val (.fz (.list (dI ns))), .val (.fz (.int k))]) rfl (cell_s ns hk)
  -- kept
  obtain ⟨k3, ek, rk⟩ : ∃ k3 : Ow, φ__law_kept_k02 [I (cellV ns 6), I cs.length] = .ok k3 ∧ Row k3 := by
    rcases kept_e (c := cellV ns 6) (n := cs.length) (by omega) with h | ⟨L, h, hl, hb⟩
    · exact ⟨_, h, .inl rfl⟩
    · exact ⟨_, h, .inr ⟨L, rfl, hl, hb⟩⟩
  obtain ⟨M, em, lm, bm⟩ := days_e (c := cellV ns 7) (n := n) ⟨d1, d2⟩
  -- perhaps spoilt
  obtain ⟨k3', e3, f3⟩ : ∃ k3' : Ow, (sIf (tAnd (tB (eBin fEq (eBin fMod (eUn fInt (eBin fIx (eVar 1) (eK (.int 0)))) (eK (.int 4))) (eK (.int 0)))) (tB (eUn fNotN (eVar 3)))) (sFrz 3 (sSet 3 (eCall φ__law_spoilt [(eVar 3), (eCall φ__law_cell_k01 [(eVar 0), (eK (.int 8))]), (eBin fSub (eUn fLen (eBin fIx (eVar 2) (eK (.int 1)))) (eK (.int 1)))]))) sPass) [some (Lx ns), some (.own (.ls (oI P))), some (.own (.tp [.fz (.int n), .ls (cpsO cs)])), some (.own k3), some (.own (.ls (oI M))), none, none, none, none, none, none] = .next [some (Lx ns), some (.own (.ls (oI P))), some (.own (.tp [.fz (.int n), .ls (cpsO cs)])), some (.own k3'), some (.own (.ls (oI M))), none, none, none, none, none, none] ∧ Fit 1400 2 k3'.toD := by
    have t0 : VL.tB (eBin fEq (eBin fMod (eUn fInt (eBin fIx (eVar 1) (eK (.int 0)))) (eK (.int 4))) (eK (.int 0))) [some (Lx ns), some (.own (.ls (oI P))), some (.own (.tp [.fz (.int n), .ls (cpsO cs)])), some (.own k3), some (.own (.ls (oI M))), none, none, none, none, none, none] = .ok (decide (gD P 0 % 4 = 0)) := eq_t (bin_v (un_v (bin_v rfl rfl (ix_r (by omega))) (int_s _)) rfl (mod_s _ _ (by decide))) rfl
    by_cases q : gD P 0 % 4 = 0
    · rcases rk with rfl | ⟨L, rfl, hl, hb⟩
      · exact ⟨_, if_f (and_F (by rw [t0, decide_eq_true q]) rfl) rfl, Row.fit (.inl rfl)⟩
      · obtain ⟨ow, e, f⟩ := spoilt_e (L := L) (c := cellV ns 8) (h := (cs.length : Int) - 1) ⟨hl, hb⟩ (by omega)
        refine ⟨ow, if_t (and_T (by rw [t0, decide_eq_true q]) rfl) (frz_li rfl (set_w (call_ok (xs := [.val (.fz (.list (dI L))), .val (.fz (.int (cellV ns 8))), .val (.fz (.int ((cs.length : Int) - 1)))]) (ev_cons rfl (ev_cons (cl (by decide)) (ev_cons (bin_v ix21 rfl (sub_s _ _)) rfl))) e) rfl)), f⟩
    · exact ⟨k3, if_f (and_f (by rw [t0, decide_eq_false q])) rfl, rk.fit⟩
  obtain ⟨k4', e4, f4⟩ : ∃ k4' : Ow, (sIf (tB (eBin fEq (eBin fMod (eUn fInt (eBin fIx (eVar 1) (eK (.int 1)))) (eK (.int 4))) (eK (.int 0)))) (sFrzL 2 (sFrz 4 (sSet 4 (eCall φ__law_spoilt [(eVar 4), (eCall φ__law_cell_k01 [(eVar 0), (eK (.int 9))]), (eBin fIx (eVar 2) (eK (.int 0)))])))) sPass) [some (Lx ns), some (.own (.ls (oI P))), some (.own (.tp [.fz (.int n), .ls (cpsO cs)])), some (.own k3'), some (.own (.ls (oI M))), none, none, none, none, none, none] = .next [some (Lx ns), some (.own (.ls (oI P))), some (.own (.tp [.fz (.int n), .ls (cpsO cs)])), some (.own k3'), some (.own k4'), none, none, none, none, none, none] ∧ Fit 1400 2 k4'.toD := by
    have t0 : VL.tB (eBin fEq (eBin fMod (eUn fInt (eBin fIx (eVar 1) (eK (.int 1)))) (eK (.int 4))) (eK (.int 0))) [some (Lx ns), some (.own (.ls (oI P))), some (.own (.tp [.fz (.int n), .ls (cpsO cs)])), some (.own k3'), some (.own (.ls (oI M))), none, none, none, none, none, none] = .ok (decide (gD P 1 % 4 = 0)) := eq_t (bin_v (un_v (bin_v rfl rfl (ix_r (by omega))) (int_s _)) rfl (mod_s _ _ (by decide))) rfl
    by_cases q : gD P 1 % 4 = 0
    · obtain ⟨ow, e, f⟩ := spoilt_e (L := M) (c := cellV ns 9) (h := n) ⟨lm, bm⟩ (by omega)
      exact ⟨ow, if_t (by rw [t0, decide_eq_true q]) (frzL_n (frz_li rfl (set_w (call_ok (xs := [.val (.fz (.list (dI M))), .val (.fz (.int (cellV ns 9))), .val (.fz (.int n))]) (ev_cons rfl (ev_cons (cl (by decide)) (ev_cons rfl rfl))) e) rfl))), f⟩
    · exact ⟨_, if_f (by rw [t0, decide_eq_false q]) rfl, Row.fit (.inr ⟨M, rfl, lm, bm⟩)⟩
  obtain ⟨k3a, e5, f5⟩ := tuple_step (i := 3) (k := k3') (t := tB (eBin fEq (eBin fMod (eUn fInt (eBin fIx (eVar 1) (eK (.int 2)))) (eK (.int 2))) (eK (.int 1)))) (ρ := [some (Lx ns), some (.own (.ls (oI P))), some (.own (.tp [.fz (.int n), .ls (cpsO cs)])), some (.own k3'), some (.own k4'), none, none, none, none, none, none]) (q := decide (gD P 2 % 2 = 1)) rfl (eq_t (bin_v (un_v (bin_v rfl rfl (ix_r (by omega))) (int_s _)) rfl (mod_s _ _ (by decide))) rfl) f3
  obtain ⟨k4a, e6, f6⟩ := tuple_step (i := 4) (k := k4') (t := tB (eBin fEq (eBin fMod (eUn fInt (eBin fIx (eVar 1) (eK (.int 3)))) (eK (.int 2))) (eK (.int 1)))) (ρ := [some (Lx ns), some (.own (.ls (oI P))), some (.own (.tp [.fz (.int n), .ls (cpsO cs)])), some (.own k3a), some (.own k4'), none, none, none, none, none, none]) (q := decide (gD P 3 % 2 = 1)) rfl (eq_t (bin_v (un_v (bin_v rfl rfl (ix_r (by omega))) (int_s _)) rfl (mod_s _ _ (by decide))) rfl) f4
  obtain ⟨ρ', ef, _⟩ := for_rng (i := 5) (b := w_law_0) (a := eK (.int 3)) (n := 3) (fun _ ρ => ∃ (h3 k3 k4 : Ow) (x5 x6 x7 x8 x9 x10 : Option Sl), ρ = [some (Lx ns), some (.own (.ls (oI P))), some (.own h3), some (.own k3), some (.own k4), x5, x6, x7, x8, x9, x10] ∧ h3.toD = hD n cs ∧ k3.toD = k3a.toD ∧ k4.toD = k4a.toD)
    (ρ := [some (Lx ns), some (.own (.ls (oI P))), some (.own (.tp [.fz (.int n), .ls (cpsO cs)])), some (.own k3a), some (.own k4a), none, none, none, none, none, none]) rfl (by decide) ⟨_, _, _, _, _, _, _, _, _, rfl, by show PyData.tuple [.int n, (Ow.ls (cpsO cs)).toD] = _; rw [cpsO_toD], rfl, rfl⟩ (by
    rintro k ρ hk ⟨h3, k3, k4, x5, x6, x7, x8, x9, x10, rfl, hh, h3', h4'⟩
    obtain ⟨y6, y7, y8, y9, y10, e⟩ := turn_s (ns := ns) (P := P) (w := (k : Int)) (n := n) (cs := cs) (κ := k3a.toD) (δ := k4a.toD) (h3 := h3) (k3 := k3) (k4 := k4) (x6 := x6) (x7 := x7) (x8 := x8) (x9 := x9) (x10 := x10) (by omega) (by omega) ⟨d1, d2⟩ (by omega) ok (f5.mono (by decide) (by decide)) (f6.mono (by decide) (by decide)) hh h3' h4'
    exact nx_of e ⟨.fz (hD n cs), .fz k3a.toD, .fz k4a.toD, _, _, _, _, _, _, rfl, rfl, rfl, rfl⟩)
  refine run_ret [some (Lx ns), none, none, none, none, none, none, none, none, none, none] ?_
  refine seq_n (ρ' := [some (Lx ns), some (.own (.ls (oI P))), none, none, none, none, none, none, none, none, none]) (set_w (call_ok (xs := [.val (.fz (.int (cellV ns 5))), .val (.fz (.int 8)), .val (.fz (.int 60))]) (ev_cons (cl (by decide)) (ev_cons rfl (ev_cons rfl rfl))) (by rw [hP]; exact PR.row_s (by omega))) rfl) ?_
  refine seq_n (ρ' := [some (Lx ns), some (.own (.ls (oI P))), some (.own (.tp [.fz (.int n), .ls (cpsO cs)])), none, none, none, none, none, none, none, none]) (set_w (call_ok (xs := [.val (.fz (.list (dI ns))), .val (.fz (.int 0)), .val (.fz (.int 30))]) rfl eh) rfl) ?_
  refine seq_n (ρ' := [some (Lx ns), some (.own (.ls (oI P))), some (.own (.tp [.fz (.int n), .ls (cpsO cs)])), some (.own k3), none, none, none, none, none, none, none]) (set_w (call_ok (xs := [.val (.fz (.int (cellV ns 6))), .val (.fz (.int cs.length))]) (ev_cons (cl (by decide)) (ev_cons ix21 rfl)) ek) rfl) ?_
  refine seq_n (ρ' := [some (Lx ns), some (.own (.ls (oI P))), some (.own (.tp [.fz (.int n), .ls (cpsO cs)])), some (.own k3), some (.own (.ls (oI M))), none, none, none, none, none, none]) (frzL_n (set_w (call_ok (xs := [.val (.fz (.int (cellV ns 7))), .val (.fz (.int n))]) (ev_cons (cl (by decide)) (ev_cons rfl rfl)) em) rfl)) ?_
  exact seq_n e3 (seq_n e4 (seq_n e5 (seq_n e6 (seq_n ef rfl))))
end K02

set_option Elab.async false
set_option linter.all false
set_option maxRecDepth 100000
set_option maxHeartbeats 4000000
namespace K02
open PySem PySem.Spec PyProof.Rows L2 VL PR
def top (i : Nat) : Stmt := PySem.Challenge.pw_reelvault_k02_parts_of_a_house.main.body.getD i (.Pass ⟨0, 0, 0, 0⟩)
structure Txt (mg : Str → Option Value) : Prop where
  b_int : mg "int" = none
  b_range : mg "range" = none
  b_len : mg "len" = none
  b_max : mg "max" = none
  b_list : mg "list" = none
  b_reversed : mg "reversed" = none
  b_isinstance : mg "isinstance" = none
  b_bool : mg "bool" = none
  b_tuple : mg "tuple" = none
  b_sum : mg "sum" = none
  b_enumerate : mg "enumerate" = none
  b_str : mg "str" = none
  b_repr : mg "repr" = none
  c_DAYS_LIMIT : ∃ t, mg "DAYS_LIMIT" = some (.int 10 t)
  c_COPIES_LIMIT : ∃ t, mg "COPIES_LIMIT" = some (.int 30 t)
  c_SIZE_LIMIT : ∃ t, mg "SIZE_LIMIT" = some (.int 999 t)
section
variable {P : Program} {w : World} {K : Frag} {mg : Str → Option Value} {base : Heap}
/-! _law_mixed -/
abbrev s__law_mixed : Stmt := top 25
theorem sc__law_mixed : FnScope ["cell", "k", "mixed"] ["cell", "k"] (defScope s__law_mixed) := ⟨rfl, rfl, rfl, by decide +kernel, rfl, by decide +kernel, by decide +kernel⟩
theorem ok__law_mixed {f : Addr} {fd : FuncData} (F : Fun K "_law_mixed" "_law_mixed" s__law_mixed f fd) (T : Txt mg)  : FOk P w K mg base 1 f fd ["cell", "k"] φ__law_mixed_k01 :=
  fok_of (N := ["cell", "k", "mixed"]) F sc__law_mixed fun cdv A outer s H E hr => (bok_cons (st 2 sc__law_mixed.nd (eok_mod (eok_intc T.b_int (eok_add (eok_add (eok_mul (eok_mod (eok_intc T.b_int (ev 0)) eok_int) eok_int) (eok_mul (ev 1) eok_int)) eok_int)) eok_int)) (bok_cons (st 2 sc__law_mixed.nd (eok_mod (eok_intc T.b_int (eok_add (eok_add (eok_mul (ev 2) (ev 2)) (eok_mul eok_int (ev 1))) eok_int)) eok_int)) (bok_one (sok_ret (eok_mod (eok_intc T.b_int (eok_add (eok_add (eok_mul (ev 2) (ev 2)) (eok_div (ev 2) eok_int)) (ev 1))) eok_int)))))
/-! _law_row -/
abbrev s__law_row : Stmt := top 27
theorem sc__law_row : FnScope ["cell", "count", "size", "row", "rest", "k"] ["cell", "count", "size"] (defScope s__law_row) := ⟨rfl, rfl, rfl, by decide +kernel, rfl, by decide +kernel, by decide +kernel⟩
theorem ok__law_row {f : Addr} {fd : FuncData} (F : Fun K "_law_row" "_law_row" s__law_row f fd) (T : Txt mg) {f__law_mixed : Addr} {fd__law_mixed : FuncData} (D__law_mixed : Df P w K mg base 1 f__law_mixed fd__law_mixed "_law_mixed" ["cell", "k"] φ__law_mixed_k01) : FOk P w K mg base 2 f fd ["cell", "count", "size"] φ__law_row_k01 :=
  fok_of (N := ["cell", "count", "size", "row", "rest", "k"]) F sc__law_row fun cdv A outer s H E hr => (bok_cons (st 3 sc__law_row.nd (eok_lst aok_nil)) (bok_cons (st 4 sc__law_row.nd (ev 0)) (bok_cons (sok_for (b := w__law_row_k01_0) pass_def rfl (iok_rng1 (i := 5) T.b_range (ev 1)) (tn 5 sc__law_row.nd) (bok_one (sok_if (tok_w (wok_and (tok_cmp op_ge op2_ge (ev 0) (eok_pow eok_int eok_int) (nomark _)) (wok_and1 (tok_cmp op_gt op2_gt (ev 4) eok_int (nomark _))))) (bok_cons (sok_app (ev 3) (eok_mod (eok_intc T.b_int (ev 4)) (ev 2))) (bok_one (st 4 sc__law_row.nd (eok_div (ev 4) (ev 2))))) (bok_one (sok_app (ev 3) (eok_mod (eok_intc T.b_int (eok_add (eok_mul (D__law_mixed.call hr (aok_cons (ev 0) (aok_cons (eok_mul eok_int (ev 5)) aok_nil))) eok_int) (D__law_mixed.call hr (aok_cons (ev 0) (aok_cons (eok_add (eok_mul eok_int (ev 5)) eok_int) aok_nil))))) (ev 2))))))) (bok_one (sok_ret (ev 3))))))
/-! _law_order -/
abbrev s__law_order : Stmt := top 30
theorem sc__law_order : FnScope ["cell", "days", "row", "order", "k"] ["cell", "days"] (defScope s__law_order) := ⟨rfl, rfl, rfl, by decide +kernel, rfl, by decide +kernel, by decide +kernel⟩
theorem ok__law_order {f : Addr} {fd : FuncData} (F : Fun K "_law_order" "_law_order" s__law_order f fd) (T : Txt mg) {f__law_row : Addr} {fd__law_row : FuncData} (D__law_row : Df P w K mg base 2 f__law_row fd__law_row "_law_row" ["cell", "count", "size"] φ__law_row_k01) : FOk P w K mg base 3 f fd ["cell", "days"] φ__law_order_k01 :=
  fok_of (N := ["cell", "days", "row", "order", "k"]) F sc__law_order fun cdv A outer s H E hr => (bok_cons (st 2 sc__law_order.nd (D__law_row.call hr (aok_cons (ev 0) (aok_cons (ev 1) (aok_cons eok_int aok_nil))))) (bok_cons (st 3 sc__law_order.nd (eok_lst aok_nil)) (bok_cons (sok_for (b := w__law_order_k01_0) pass_def rfl (iok_rng1 (i := 4) T.b_range (ev 1)) (tn 4 sc__law_order.nd) (bok_one (sok_ins (ev 3) (eok_mod (eok_intc T.b_int (eok_ix (ev 2) (ev 4))) (eok_add (ev 4) eok_int)) (eok_add (ev 4) eok_int)))) (bok_one (sok_ret (ev 3))))))
/-! _law_cell -/
abbrev s__law_cell : Stmt := top 26
theorem sc__law_cell : FnScope ["script", "k"] ["script", "k"] (defScope s__law_cell) := ⟨rfl, rfl, rfl, by decide +kernel, rfl, by decide +kernel, by decide +kernel⟩
theorem ok__law_cell {f : Addr} {fd : FuncData} (F : Fun K "_law_cell" "_law_cell" s__law_cell f fd) (T : Txt mg) {f__law_mixed : Addr} {fd__law_mixed : FuncData} (D__law_mixed : Df P w K mg base 1 f__law_mixed fd__law_mixed "_law_mixed" ["cell", "k"] φ__law_mixed_k01) : FOk P w K mg base 2 f fd ["script", "k"] φ__law_cell_k01 :=
  fok_of (N := ["script", "k"]) F sc__law_cell fun cdv A outer s H E hr => (bok_cons (sok_if (tok_cmp op_lt op2_lt (ev 1) (eok_len T.b_len (ev 0)) (nomark _)) (bok_one (sok_ret (eok_ix (ev 0) (ev 1)))) bok_nil) (bok_cons (sok_if (tok_cmp (op_eqD hr.units) op2_eq (eok_len T.b_len (ev 0)) eok_int (nomark _)) (bok_one (sok_ret (ev 1))) bok_nil) (bok_one (sok_ret (D__law_mixed.call hr (aok_cons (eok_ix (ev 0) (eok_mod (eok_intc T.b_int (ev 1)) (eok_len T.b_len (ev 0)))) (aok_cons (eok_add eok_int (ev 1)) aok_nil)))))))
/-! _law_base -/
abbrev s__law_base : Stmt := top 31
theorem sc__law_base : FnScope ["style", "number", "day", "days", "later", "base"] ["style", "number", "day", "days"] (defScope s__law_base) := ⟨rfl, rfl, rfl, by decide +kernel, rfl, by decide +kernel, by decide +kernel⟩
theorem ok__law_base {f : Addr} {fd : FuncData} (F : Fun K "_law_base" "_law_base" s__law_base f fd) (T : Txt mg)  : FOk P w K mg base 1 f fd ["style", "number", "day", "days"] φ__law_base_k01 :=
  fok_of (N := ["style", "number", "day", "days", "later", "base"]) F sc__law_base fun cdv A outer s H E hr => (bok_cons (sok_if (tok_cmp (op_eqD hr.units) op2_eq (ev 0) eok_int (nomark _)) (bok_one (sok_ret (eok_max T.b_max eok_int (eok_sub (eok_sub (ev 2) eok_int) (eok_mod (eok_intc T.b_int (ev 1)) eok_int))))) bok_nil) (bok_cons (sok_if (tok_cmp (op_eqD hr.units) op2_eq (ev 0) eok_int (nomark _)) (bok_cons (st 4 sc__law_base.nd (eok_add (eok_add (ev 2) eok_int) (eok_mod (eok_intc T.b_int (ev 1)) eok_int))) (bok_one (sok_ret (eok_mul (ev 4) (eok_intc T.b_int (eok_cmp op_le op2_le (ev 4) (ev 3) (nomark _))))))) bok_nil) (bok_cons (sok_if (tok_cmp (op_eqD hr.units) op2_eq (ev 0) eok_int (nomark _)) (bok_one (sok_ret (eok_mod (eok_intc T.b_int (ev 1)) (ev 2)))) bok_nil) (bok_cons (sok_if (tok_w (wok_and (tok_cmp (op_eqD hr.units) op2_eq (ev 0) eok_int (nomark _)) (wok_and (tok_cmp op_lt op2_lt (ev 1) eok_int (nomark _)) (wok_and1 (tok_cmp op_gt op2_gt (ev 3) eok_int (nomark _)))))) (bok_one (sok_ret (eok_add eok_int (eok_mod (eok_intc T.b_int (eok_sub (eok_add (ev 2) (ev 3)) eok_int)) (ev 3))))) bok_nil) (bok_cons (st 5 sc__law_base.nd (eok_mod (eok_intc T.b_int (ev 1)) (eok_add (ev 3) eok_int))) (bok_one (sok_ret (eok_mul (ev 5) (eok_intc T.b_int (eok_cmp (op_neD hr.units) op2_ne (ev 5) (ev 2) (nomark _)))))))))))
/-! _law_house -/
abbrev s__law_house : Stmt := top 32
theorem sc__law_house : FnScope ["script", "start", "most", "plan", "days", "many", "style", "order", "heads", "bases", "sizes", "copies", "k", "day", "base", "size"] ["script", "start", "most"] (defScope s__law_house) := ⟨rfl, rfl, rfl, by decide +kernel, rfl, by decide +kernel, by decide +kernel⟩
theorem ok__law_house {f : Addr} {fd : FuncData} (F : Fun K "_law_house" "_law_house" s__law_house f fd) (T : Txt mg) {f__law_row : Addr} {fd__law_row : FuncData} (D__law_row : Df P w K mg base 2 f__law_row fd__law_row "_law_row" ["cell", "count", "size"] φ__law_row_k01) {f__law_order : Addr} {fd__law_order : FuncData} (D__law_order : Df P w K mg base 3 f__law_order fd__law_order "_law_order" ["cell", "days"] φ__law_order_k01) {f__law_cell : Addr} {fd__law_cell : FuncData} (D__law_cell : Df P w K mg base 2 f__law_cell fd__law_cell "_law_cell" ["script", "k"] φ__law_cell_k01) {f__law_base : Addr} {fd__law_base : FuncData} (D__law_base : Df P w K mg base 1 f__law_base fd__law_base "_law_base" ["style", "number", "day", "days"] φ__law_base_k01) : FOk P w K mg base 4 f fd ["script", "start", "most"] φ__law_house_k01 :=
  fok_of (N := ["script", "start", "most", "plan", "days", "many", "style", "order", "heads", "bases", "sizes", "copies", "k", "day", "base", "size"]) F sc__law_house fun cdv A outer s H E hr => (bok_cons (st 3 sc__law_house.nd (D__law_row.call hr (aok_cons (D__law_cell.call hr (aok_cons (ev 0) (aok_cons (ev 1) aok_nil))) (aok_cons eok_int (aok_cons eok_int aok_nil))))) (bok_cons (st 4 sc__law_house.nd (eok_add eok_int (eok_mod (eok_intc T.b_int (eok_ix (ev 3) eok_int)) eok_int))) (bok_cons (sok_if (tok_cmp (op_eqD hr.units) op2_eq (eok_mod (eok_intc T.b_int (eok_ix (ev 3) eok_int)) eok_int) eok_int (nomark _)) (bok_one (st 4 sc__law_house.nd (eok_ix (eok_lst (aok_cons eok_int (aok_cons eok_int (aok_cons eok_int (aok_cons eok_int aok_nil))))) (eok_mod (eok_intc T.b_int (eok_ix (ev 3) eok_int)) eok_int)))) bok_nil) (bok_cons (st 5 sc__law_house.nd (eok_mod (eok_intc T.b_int (eok_ix (ev 3) eok_int)) (eok_add (ev 2) eok_int))) (bok_cons (sok_if (tok_cmp (op_eqD hr.units) op2_eq (eok_mod (eok_intc T.b_int (eok_ix (ev 3) eok_int)) eok_int) eok_int (nomark _)) (bok_one (st 5 sc__law_house.nd (eok_ix (eok_lst (aok_cons eok_int (aok_cons eok_int (aok_cons (eok_sub (ev 2) eok_int) (aok_cons (ev 2) aok_nil))))) (eok_mod (eok_intc T.b_int (eok_ix (ev 3) eok_int)) eok_int)))) bok_nil) (bok_cons (st 6 sc__law_house.nd (eok_mod (eok_intc T.b_int (eok_ix (ev 3) eok_int)) eok_int)) (bok_cons (sok_frz (i := 4) (st 7 sc__law_house.nd (D__law_order.call hr (aok_cons (D__law_cell.call hr (aok_cons (ev 0) (aok_cons (eok_add (ev 1) eok_int) aok_nil))) (aok_cons (ev 4) aok_nil))))) (bok_cons (sok_frz (i := 5) (st 8 sc__law_house.nd (D__law_row.call hr (aok_cons (D__law_cell.call hr (aok_cons (ev 0) (aok_cons (eok_add (ev 1) eok_int) aok_nil))) (aok_cons (ev 5) (aok_cons eok_int aok_nil)))))) (bok_cons (sok_frz (i := 5) (st 9 sc__law_house.nd (D__law_row.call hr (aok_cons (D__law_cell.call hr (aok_cons (ev 0) (aok_cons (eok_add (ev 1) eok_int) aok_nil))) (aok_cons (ev 5) (aok_cons eok_int aok_nil)))))) (bok_cons (sok_frz (i := 5) (st 10 sc__law_house.nd (D__law_row.call hr (aok_cons (D__law_cell.call hr (aok_cons (ev 0) (aok_cons (eok_add (ev 1) eok_int) aok_nil))) (aok_cons (ev 5) (aok_cons eok_int aok_nil)))))) (bok_cons (st 11 sc__law_house.nd (eok_lst aok_nil)) (bok_cons (sok_frz (i := 5) (sok_for (b := w__law_house_k01_0) pass_def rfl (iok_rng1 (i := 12) T.b_range (ev 5)) (tn 12 sc__law_house.nd) (bok_cons (st 13 sc__law_house.nd (eok_add eok_int (eok_mod (eok_intc T.b_int (eok_ix (ev 8) (ev 12))) (ev 4)))) (bok_cons (sok_frz (i := 4) (sok_frz (i := 13) (sok_frzL (i := 9) (st 14 sc__law_house.nd (D__law_base.call hr (aok_cons (ev 6) (aok_cons (eok_ix (ev 9) (ev 12)) (aok_cons (ev 13) (aok_cons (ev 4) aok_nil))))))))) (bok_cons (sok_if (tok_cmp (op_eqD hr.units) op2_eq (ev 6) eok_int (nomark _)) (bok_cons (sok_frzL (i := 7) (st 13 sc__law_house.nd (eok_ix (ev 7) (eok_mod (eok_intc T.b_int (ev 12)) (ev 4))))) (bok_one (sok_frzL (i := 7) (st 14 sc__law_house.nd (eok_ix (eok_add (eok_lst (aok_cons eok_int aok_nil)) (ev 7)) (eok_mod (eok_intc T.b_int (eok_ix (ev 9) (ev 12))) (eok_add eok_int (eok_mod (eok_intc T.b_int (ev 12)) (ev 4))))))))) bok_nil) (bok_cons (sok_if (tok_w (wok_and (tok_cmp (op_eqD hr.units) op2_eq (eok_mod (eok_intc T.b_int (eok_ix (ev 3) eok_int)) eok_int) eok_int (nomark _)) (wok_and1 (tok_cmp (op_eqD hr.units) op2_eq (eok_mod (eok_intc T.b_int (ev 12)) eok_int) eok_int (nomark _))))) (bok_cons (st 14 sc__law_house.nd (eok_ix (eok_ix (ev 11) (eok_sub (ev 12) eok_int)) eok_int)) (bok_one (st 13 sc__law_house.nd (eok_ix (eok_ix (ev 11) (eok_sub (ev 12) eok_int)) eok_int)))) bok_nil) (bok_cons (sok_frzL (i := 10) (st 15 sc__law_house.nd (eok_ix (ev 10) (ev 12)))) (bok_cons (sok_if (tok_cmp op_ge op2_ge (ev 15) eok_int (nomark _)) (bok_one (st 15 sc__law_house.nd (eok_ix (eok_lst (aok_cons eok_int (aok_cons eok_int (aok_cons eok_int aok_nil)))) (eok_mod (eok_intc T.b_int (ev 15)) eok_int)))) bok_nil) (bok_one (sok_frz (i := 15) (sok_frz (i := 13) (sok_frz (i := 14) (sok_app (ev 11) (eok_tup (aok_cons (ev 14) (aok_cons (ev 13) (aok_cons (ev 15) aok_nil))))))))))))))))) (bok_one (sok_retM (mok_mv 4 (mok_mv 11 mok_nil))))))))))))))))
/-! _law_kept -/
abbrev s__law_kept : Stmt := top 34
theorem sc__law_kept : FnScope ["cell", "many", "plan", "way", "gone", "k"] ["cell", "many"] (defScope s__law_kept) := ⟨rfl, rfl, rfl, by decide +kernel, rfl, by decide +kernel, by decide +kernel⟩
theorem ok__law_kept {f : Addr} {fd : FuncData} (F : Fun K "_law_kept" "_law_kept" s__law_kept f fd) (T : Txt mg) {f__law_row : Addr} {fd__law_row : FuncData} (D__law_row : Df P w K mg base 2 f__law_row fd__law_row "_law_row" ["cell", "count", "size"] φ__law_row_k01) : FOk P w K mg base 3 f fd ["cell", "many"] φ__law_kept_k02 :=
  fok_of (N := ["cell", "many", "plan", "way", "gone", "k"]) F sc__law_kept fun cdv A outer s H E hr => (bok_cons (st 2 sc__law_kept.nd (D__law_row.call hr (aok_cons (ev 0) (aok_cons eok_int (aok_cons eok_int aok_nil))))) (bok_cons (st 3 sc__law_kept.nd (eok_mod (eok_intc T.b_int (eok_ix (ev 2) eok_int)) eok_int)) (bok_cons (sok_if (tok_cmp op_lt op2_lt (ev 3) eok_int (nomark _)) (bok_one (sok_ret eok_none)) bok_nil) (bok_cons (sok_if (tok_cmp (op_eqD hr.units) op2_eq (ev 3) eok_int (nomark _)) (bok_one (sok_ret (eok_lrng1 T.b_list T.b_range (ev 1)))) bok_nil) (bok_cons (sok_if (tok_cmp (op_eqD hr.units) op2_eq (ev 3) eok_int (nomark _)) (bok_one (sok_ret (eok_lst aok_nil))) bok_nil) (bok_cons (sok_if (tok_w (wok_and (tok_cmp (op_eqD hr.units) op2_eq (ev 3) eok_int (nomark _)) (wok_and1 (tok_cmp op_gt op2_gt (ev 1) eok_int (nomark _))))) (bok_cons (st 4 sc__law_kept.nd (eok_mod (eok_intc T.b_int (eok_ix (ev 2) eok_int)) (ev 1))) (bok_one (sok_ret (eok_comp rfl sc__law_kept.nd (iok_rng1 (i := 5) T.b_range (ev 1)) (blkOk_by (own := [("k", 5)]) (show blkC ["cell", "many", "plan", "way", "gone", "k"] (defScope s__law_kept) _ _ = true by decide +kernel)) rfl (fun _ _ _ _ _ => ⟨(tn 5 sc__law_kept.nd), (pts_oneV (tok_cmp (op_neD hr.units) op2_ne (ev 5) (ev 4) (nomark _))), (ev 5)⟩))))) bok_nil) (bok_one (sok_ret (eok_comp rfl sc__law_kept.nd (iok_rng1 (i := 5) T.b_range (ev 1)) (blkOk_by (own := [("k", 5)]) (show blkC ["cell", "many", "plan", "way", "gone", "k"] (defScope s__law_kept) _ _ = true by decide +kernel)) rfl (fun _ _ _ _ _ => ⟨(tn 5 sc__law_kept.nd), (pts_oneV (tok_cmp op_gt op2_gt (eok_mod (eok_intc T.b_int (eok_ix (ev 2) (eok_add eok_int (ev 5)))) eok_int) eok_int (nomark _))), (ev 5)⟩))))))))))
/-! _law_days -/
abbrev s__law_days : Stmt := top 36
theorem sc__law_days : FnScope ["cell", "days", "plan", "way", "k"] ["cell", "days"] (defScope s__law_days) := ⟨rfl, rfl, rfl, by decide +kernel, rfl, by decide +kernel, by decide +kernel⟩
theorem ok__law_days {f : Addr} {fd : FuncData} (F : Fun K "_law_days" "_law_days" s__law_days f fd) (T : Txt mg) {f__law_row : Addr} {fd__law_row : FuncData} (D__law_row : Df P w K mg base 2 f__law_row fd__law_row "_law_row" ["cell", "count", "size"] φ__law_row_k01) : FOk P w K mg base 3 f fd ["cell", "days"] φ__law_days :=
  fok_of (N := ["cell", "days", "plan", "way", "k"]) F sc__law_days fun cdv A outer s H E hr => (bok_cons (st 2 sc__law_days.nd (D__law_row.call hr (aok_cons (ev 0) (aok_cons eok_int (aok_cons eok_int aok_nil))))) (bok_cons (st 3 sc__law_days.nd (eok_mod (eok_intc T.b_int (eok_ix (ev 2) eok_int)) eok_int)) (bok_cons (sok_if (tok_cmp (op_eqD hr.units) op2_eq (ev 3) eok_int (nomark _)) (bok_one (sok_ret (eok_lst aok_nil))) bok_nil) (bok_cons (sok_if (tok_cmp (op_eqD hr.units) op2_eq (ev 3) eok_int (nomark _)) (bok_one (sok_ret (eok_lst (aok_cons (eok_add eok_int (eok_mod (eok_intc T.b_int (eok_ix (ev 2) eok_int)) (ev 1))) aok_nil)))) bok_nil) (bok_cons (sok_if (tok_cmp (op_eqD hr.units) op2_eq (ev 3) eok_int (nomark _)) (bok_one (sok_ret (eok_lrng2 T.b_list T.b_range eok_int (eok_add (ev 1) eok_int)))) bok_nil) (bok_one (sok_ret (eok_comp rfl sc__law_days.nd (iok_rng2 (i := 4) T.b_range eok_int (eok_add (ev 1) eok_int)) (blkOk_by (own := [("k", 4)]) (show blkC ["cell", "days", "plan", "way", "k"] (defScope s__law_days) _ _ = true by decide +kernel)) rfl (fun _ _ _ _ _ => ⟨(tn 4 sc__law_days.nd), (pts_oneV (tok_cmp (op_eqD hr.units) op2_eq (eok_mod (eok_intc T.b_int (eok_ix (ev 2) (eok_add eok_int (ev 4)))) eok_int) eok_int (nomark _))), (ev 4)⟩)))))))))
/-! _law_spoilt -/
abbrev s__law_spoilt : Stmt := top 37
theorem sc__law_spoilt : FnScope ["row", "cell", "high", "plan", "odd", "value", "place", "way"] ["row", "cell", "high"] (defScope s__law_spoilt) := ⟨rfl, rfl, rfl, by decide +kernel, rfl, by decide +kernel, by decide +kernel⟩
theorem ok__law_spoilt {f : Addr} {fd : FuncData} (F : Fun K "_law_spoilt" "_law_spoilt" s__law_spoilt f fd) (T : Txt mg) {f__law_row : Addr} {fd__law_row : FuncData} (D__law_row : Df P w K mg base 2 f__law_row fd__law_row "_law_row" ["cell", "count", "size"] φ__law_row_k01) : FOk P w K mg base 3 f fd ["row", "cell", "high"] φ__law_spoilt :=
  fok_of (N := ["row", "cell", "high", "plan", "odd", "value", "place", "way"]) F sc__law_spoilt fun cdv A outer s H E hr => (bok_cons (st 3 sc__law_spoilt.nd (D__law_row.call hr (aok_cons (ev 1) (aok_cons eok_int (aok_cons eok_int aok_nil))))) (bok_cons (st 4 sc__law_spoilt.nd (eok_lst (aok_cons eok_none (aok_cons eok_bool (aok_cons eok_bool (aok_cons (eok_neg eok_int) (aok_cons eok_int (aok_cons eok_int (aok_cons (ev 2) (aok_cons (eok_add (ev 2) eok_int) (aok_cons (eok_pow eok_int eok_int) (aok_cons eok_str (aok_cons eok_str (aok_cons (eok_lst aok_nil) (aok_cons (eok_lst (aok_cons eok_int aok_nil)) (aok_cons (eok_tup (aok_cons eok_int aok_nil)) aok_nil)))))))))))))))) (bok_cons (sok_frzL (i := 4) (st 5 sc__law_spoilt.nd (eok_ix (ev 4) (eok_mod (eok_intc T.b_int (eok_ix (ev 3) eok_int)) eok_int)))) (bok_cons (st 6 sc__law_spoilt.nd (eok_mod (eok_intc T.b_int (eok_ix (ev 3) eok_int)) (eok_add (eok_len T.b_len (ev 0)) eok_int))) (bok_cons (st 7 sc__law_spoilt.nd (eok_mod (eok_intc T.b_int (eok_ix (ev 3) eok_int)) eok_int)) (bok_cons (sok_if (tok_cmp (op_eqD hr.units) op2_eq (ev 7) eok_int (nomark _)) (bok_one (sok_ret (ev 5))) bok_nil) (bok_cons (sok_if (tok_cmp (op_eqD hr.units) op2_eq (ev 7) eok_int (nomark _)) (bok_one (sok_frz (i := 5) (sok_ret (eok_add (eok_add (eok_slice (ev 0) pok_none (pok_some (ev 6))) (eok_lst (aok_cons (ev 5) aok_nil))) (eok_slice (ev 0) (pok_some (ev 6)) pok_none))))) bok_nil) (bok_cons (sok_if (tok_w (wok_and (tok_cmp (op_eqD hr.units) op2_eq (ev 7) eok_int (nomark _)) (wok_and1 (tok_cmp op_lt op2_lt (ev 6) (eok_len T.b_len (ev 0)) (nomark _))))) (bok_one (sok_frz (i := 5) (sok_ret (eok_add (eok_add (eok_slice (ev 0) pok_none (pok_some (ev 6))) (eok_lst (aok_cons (ev 5) aok_nil))) (eok_slice (ev 0) (pok_some (eok_add (ev 6) eok_int)) pok_none))))) bok_nil) (bok_cons (sok_if (tok_w (wok_and (tok_cmp (op_eqD hr.units) op2_eq (ev 7) eok_int (nomark _)) (wok_and1 (tok_cmp op_lt op2_lt (ev 6) (eok_len T.b_len (ev 0)) (nomark _))))) (bok_one (sok_ret (eok_add (eok_add (eok_slice (ev 0) pok_none (pok_some (ev 6))) (eok_lst (aok_cons (eok_ix (ev 0) (ev 6)) aok_nil))) (eok_slice (ev 0) (pok_some (ev 6)) pok_none)))) bok_nil) (bok_one (sok_ret (eok_listRev T.b_list T.b_reversed (ev 0)))))))))))))
/-! _law_is_number -/
abbrev s__law_is_number : Stmt := top 28
theorem sc__law_is_number : FnScope ["value", "low", "high"] ["value", "low", "high"] (defScope s__law_is_number) := ⟨rfl, rfl, rfl, by decide +kernel, rfl, by decide +kernel, by decide +kernel⟩
theorem ok__law_is_number {f : Addr} {fd : FuncData} (F : Fun K "_law_is_number" "_law_is_number" s__law_is_number f fd) (T : Txt mg)  : FOk P w K mg base 1 f fd ["value", "low", "high"] φ__law_is_number_k01 :=
  fok_of (N := ["value", "low", "high"]) F sc__law_is_number fun cdv A outer s H E hr => (bok_one (sok_ret (eok_and (eok_isI T.b_isinstance (ev 0) (ty_name (c := .int) T.b_int (by rfl))) (eok_and (eok_not (eok_isI T.b_isinstance (ev 0) (ty_name (c := .bool) T.b_bool (by rfl)))) (eok_and (eok_cmp op_le op2_le (ev 1) (ev 0) (nomark _)) (eok_one (eok_cmp op_le op2_le (ev 0) (ev 2) (nomark _))))))))
/-! _law_fault -/
abbrev s__law_fault : Stmt := top 35
theorem sc__law_fault : FnScope ["value", "low", "high", "before", "k"] ["value", "low", "high"] (defScope s__law_fault) := ⟨rfl, rfl, rfl, by decide +kernel, rfl, by decide +kernel, by decide +kernel⟩
theorem ok__law_fault {f : Addr} {fd : FuncData} (F : Fun K "_law_fault" "_law_fault" s__law_fault f fd) (T : Txt mg) {f__law_is_number : Addr} {fd__law_is_number : FuncData} (D__law_is_number : Df P w K mg base 1 f__law_is_number fd__law_is_number "_law_is_number" ["value", "low", "high"] φ__law_is_number_k01) : FOk P w K mg base 2 f fd ["value", "low", "high"] φ__law_fault_k02 :=
  fok_of (N := ["value", "low", "high", "before", "k"]) F sc__law_fault fun cdv A outer s H E hr => (bok_cons (sok_if (tok_not (tok_val (eok_isIs T.b_isinstance (ev 0) (tys_cons (ty_name (c := .list) T.b_list (by rfl)) (tys_cons (ty_name (c := .tuple) T.b_tuple (by rfl)) tys_nil))))) (bok_one (sok_ret (eok_neg eok_int))) bok_nil) (bok_cons (st 3 sc__law_fault.nd (eok_sub (ev 1) eok_int)) (bok_cons (sok_for (b := w__law_fault_k02_0) pass_def rfl (iok_rng1 (i := 4) T.b_range (eok_len T.b_len (ev 0))) (tn 4 sc__law_fault.nd) (bok_cons (sok_if (tok_w (wok_or (tok_not (tok_val (D__law_is_number.call hr (aok_cons (eok_ix (ev 0) (ev 4)) (aok_cons (ev 1) (aok_cons (ev 2) aok_nil)))))) (wok_or1 (tok_cmp op_le op2_le (eok_ix (ev 0) (ev 4)) (ev 3) (nomark _))))) (bok_one (sok_ret (ev 4))) bok_nil) (bok_one (st 3 sc__law_fault.nd (eok_ix (ev 0) (ev 4)))))) (bok_one (sok_ret eok_none)))))
/-! _law_due -/
abbrev s__law_due : Stmt := top 38
theorem sc__law_due : FnScope ["which", "house", "kept", "days", "copies", "there", "fault", "k"] ["which", "house", "kept", "days"] (defScope s__law_due) := ⟨rfl, rfl, rfl, by decide +kernel, rfl, by decide +kernel, by decide +kernel⟩
theorem ok__law_due {f : Addr} {fd : FuncData} (F : Fun K "_law_due" "_law_due" s__law_due f fd) (T : Txt mg) {f__law_fault : Addr} {fd__law_fault : FuncData} (D__law_fault : Df P w K mg base 2 f__law_fault fd__law_fault "_law_fault" ["value", "low", "high"] φ__law_fault_k02) : FOk P w K mg base 3 f fd ["which", "house", "kept", "days"] φ__law_due :=
  fok_of (N := ["which", "house", "kept", "days", "copies", "there", "fault", "k"]) F sc__law_due fun cdv A outer s H E hr => (bok_cons (st 4 sc__law_due.nd (eok_ix (ev 1) eok_int)) (bok_cons (st 5 sc__law_due.nd (ev 2)) (bok_cons (sok_if (tok_isN (ev 2)) (bok_one (st 5 sc__law_due.nd (eok_lrng1 T.b_list T.b_range (eok_len T.b_len (ev 4))))) bok_nil) (bok_cons (sok_frz (i := 5) (st 6 sc__law_due.nd (D__law_fault.call hr (aok_cons (ev 5) (aok_cons eok_int (aok_cons (eok_sub (eok_len T.b_len (ev 4)) eok_int) aok_nil)))))) (bok_cons (sok_if (tok_notN (ev 6)) (bok_one (sok_retM (mok_ev eok_str (mok_mv 6 (mok_ev eok_bool mok_nil))))) bok_nil) (bok_cons (sok_if (tok_cmp (op_eqD hr.units) op2_eq (ev 0) eok_int (nomark _)) (bok_one (sok_frzL (i := 4) (sok_frz (i := 5) (sok_ret (eok_tup (aok_cons eok_str (aok_cons (eok_tup (aok_cons (eok_ix (ev 1) eok_int) (aok_cons (eok_comp rfl sc__law_due.nd (iok_row (i := 7) (ev 5)) (blkOk_by (own := [("k", 7)]) (show blkC ["which", "house", "kept", "days", "copies", "there", "fault", "k"] (defScope s__law_due) _ _ = true by decide +kernel)) rfl (fun _ _ _ _ _ => ⟨(tn 7 sc__law_due.nd), pts_nilV, (eok_ix (ev 4) (ev 7))⟩)) aok_nil))) (aok_cons eok_bool aok_nil)))))))) bok_nil) (bok_cons (sok_if (tok_cmp (op_eqD hr.units) op2_eq (ev 0) eok_int (nomark _)) (bok_one (sok_frzL (i := 4) (sok_frz (i := 5) (sok_ret (eok_tup (aok_cons eok_str (aok_cons (eok_sum rfl T.b_sum (eok_comp rfl sc__law_due.nd (iok_row (i := 7) (ev 5)) (blkOk_by (own := [("k", 7)]) (show blkC ["which", "house", "kept", "days", "copies", "there", "fault", "k"] (defScope s__law_due) _ _ = true by decide +kernel)) rfl (fun _ _ _ _ _ => ⟨(tn 7 sc__law_due.nd), pts_nilV, (eok_ix (eok_ix (ev 4) (ev 7)) eok_int)⟩))) (aok_cons eok_bool aok_nil)))))))) bok_nil) (bok_cons (st 6 sc__law_due.nd (D__law_fault.call hr (aok_cons (ev 3) (aok_cons eok_int (aok_cons (eok_ix (ev 1) eok_int) aok_nil))))) (bok_cons (sok_if (tok_notN (ev 6)) (bok_one (sok_retM (mok_ev eok_str (mok_mv 6 (mok_ev eok_bool mok_nil))))) bok_nil) (bok_one (sok_frz (i := 5) (sok_ret (eok_tup (aok_cons eok_str (aok_cons (eok_comp rfl sc__law_due.nd (iok_row (i := 7) (ev 5)) (blkOk_by (own := [("k", 7)]) (show blkC ["which", "house", "kept", "days", "copies", "there", "fault", "k"] (defScope s__law_due) _ _ = true by decide +kernel)) rfl (fun _ _ _ _ _ => ⟨(tn 7 sc__law_due.nd), (pts_oneV (tok_w (wok_and (tok_cmp op_in_seq op2_in (eok_ix (eok_ix (ev 4) (ev 7)) eok_int) (ev 3) (by with_unfolding_all rfl)) (wok_and1 (tok_cmp op_notIn_seq op2_notIn (eok_ix (eok_ix (ev 4) (ev 7)) eok_int) (ev 3) (by with_unfolding_all rfl)))))), (ev 7)⟩)) (aok_cons eok_bool aok_nil))))))))))))))))
/-! _law_given -/
abbrev s__law_given : Stmt := top 33
theorem sc__law_given : FnScope ["house", "number", "copies", "copy"] ["house", "number"] (defScope s__law_given) := ⟨rfl, rfl, rfl, by decide +kernel, rfl, by decide +kernel, by decide +kernel⟩
theorem ok__law_given {f : Addr} {fd : FuncData} (F : Fun K "_law_given" "_law_given" s__law_given f fd) (T : Txt mg)  : FOk P w K mg base 1 f fd ["house", "number"] φ__law_given_k02 :=
  fok_of (N := ["house", "number", "copies", "copy"]) F sc__law_given fun cdv A outer s H E hr => (bok_cons (st 2 sc__law_given.nd (eok_list T.b_list (eok_ix (ev 0) eok_int))) (bok_cons (sok_if (tok_cmp (op_eqD hr.units) op2_eq (eok_mod (eok_intc T.b_int (ev 1)) eok_int) eok_int (nomark _)) (bok_one (sok_frz (i := 2) (sok_setLc rfl sc__law_given.nd rfl rfl (by rfl) (iok_row (i := 3) (ev 2)) (blkOk_by (own := [("copy", 3)]) (show blkC ["house", "number", "copies", "copy"] (defScope s__law_given) _ _ = true by decide +kernel)) rfl (fun _ _ _ _ _ => ⟨(tn 3 sc__law_given.nd), pts_nilV, (eok_list T.b_list (ev 3))⟩)))) bok_nil) (bok_cons (sok_if (tok_cmp (op_eqD hr.units) op2_eq (eok_mod (eok_intc T.b_int (ev 1)) eok_int) eok_int (nomark _)) (bok_one (sok_frz (i := 2) (st 2 sc__law_given.nd (eok_tuple T.b_tuple (ev 2))))) bok_nil) (bok_cons (sok_if (tok_cmp op_lt op2_lt (eok_mod (eok_intc T.b_int (ev 1)) eok_int) eok_int (nomark _)) (bok_one (sok_frz (i := 2) (sok_ret (eok_lst (aok_cons (eok_ix (ev 0) eok_int) (aok_cons (ev 2) aok_nil)))))) bok_nil) (bok_one (sok_retM (mok_ev (eok_ix (ev 0) eok_int) (mok_mv 2 mok_nil))))))))
/-! cost_of -/
abbrev s_cost_of : Stmt := top 20
theorem sc_cost_of : FnScope ["copies", "kept", "at"] ["copies", "kept"] (defScope s_cost_of) := ⟨rfl, rfl, rfl, by decide +kernel, rfl, by decide +kernel, by decide +kernel⟩
theorem ok_cost_of {f : Addr} {fd : FuncData} (F : Fun K "cost_of" "cost_of" s_cost_of f fd) (T : Txt mg)  : FOk P w K mg base 1 f fd ["copies", "kept"] φ_cost_of :=
  fok_of (N := ["copies", "kept", "at"]) F sc_cost_of fun cdv A outer s H E hr => (bok_one (sok_ret (eok_sum rfl T.b_sum (eok_comp rfl sc_cost_of.nd (iok_row (i := 2) (ev 1)) (blkOk_by (own := [("at", 2)]) (show blkC ["copies", "kept", "at"] (defScope s_cost_of) _ _ = true by decide +kernel)) rfl (fun _ _ _ _ _ => ⟨(tn 2 sc_cost_of.nd), pts_nilV, (eok_ix (eok_ix (ev 0) (ev 2)) eok_int)⟩)))))
/-! is_row -/
abbrev s_is_row : Stmt := top 7
theorem sc_is_row : FnScope ["value"] ["value"] (defScope s_is_row) := ⟨rfl, rfl, rfl, by decide +kernel, rfl, by decide +kernel, by decide +kernel⟩
theorem ok_is_row {f : Addr} {fd : FuncData} (F : Fun K "is_row" "is_row" s_is_row f fd) (T : Txt mg)  : FOk P w K mg base 1 f fd ["value"] φ_is_row :=
  fok_of (N := ["value"]) F sc_is_row fun cdv A outer s H E hr => (bok_one (sok_ret (eok_isIs T.b_isinstance (ev 0) (tys_cons (ty_name (c := .list) T.b_list (by rfl)) (tys_cons (ty_name (c := .tuple) T.b_tuple (by rfl)) tys_nil)))))
/-! is_number -/
abbrev s_is_number : Stmt := top 6
theorem sc_is_number : FnScope ["value", "low", "high"] ["value", "low", "high"] (defScope s_is_number) := ⟨rfl, rfl, rfl, by decide +kernel, rfl, by decide +kernel, by decide +kernel⟩
theorem ok_is_number {f : Addr} {fd : FuncData} (F : Fun K "is_number" "is_number" s_is_number f fd) (T : Txt mg)  : FOk P w K mg base 1 f fd ["value", "low", "high"] φ_is_number :=
  fok_of (N := ["value", "low", "high"]) F sc_is_number fun cdv A outer s H E hr => (bok_cons (sok_if (tok_w (wok_or (tok_not (tok_val (eok_isI T.b_isinstance (ev 0) (ty_name (c := .int) T.b_int (by rfl))))) (wok_or1 (tok_val (eok_isI T.b_isinstance (ev 0) (ty_name (c := .bool) T.b_bool (by rfl))))))) (bok_one (sok_ret eok_bool)) bok_nil) (bok_one (sok_ret (eok_chain op_le op_le op2_le op2_le (ev 1) (ev 0) (ev 2)))))
/-! check_frame -/
abbrev s_check_frame : Stmt := top 15
theorem sc_check_frame : FnScope ["house", "days", "copies"] ["house"] (defScope s_check_frame) := ⟨rfl, rfl, rfl, by decide +kernel, rfl, by decide +kernel, by decide +kernel⟩
theorem ok_check_frame {f : Addr} {fd : FuncData} (F : Fun K "check_frame" "check_frame" s_check_frame f fd) (T : Txt mg) (R_BadHouse : Rz P w K mg base "BadHouse" "at") (R_TooMany : Rz P w K mg base "TooMany" "limit") {f_is_row : Addr} {fd_is_row : FuncData} (D_is_row : Df P w K mg base 1 f_is_row fd_is_row "is_row" ["value"] φ_is_row) {f_is_number : Addr} {fd_is_number : FuncData} (D_is_number : Df P w K mg base 1 f_is_number fd_is_number "is_number" ["value", "low", "high"] φ_is_number) : FOk P w K mg base 2 f fd ["house"] φ_check_frame :=
  fok_of (N := ["house", "days", "copies"]) F sc_check_frame fun cdv A outer s H E hr => (bok_cons (sok_if (tok_w (wok_or (tok_not (tok_val (D_is_row.call hr (aok_cons (ev 0) aok_nil)))) (wok_or1 (tok_cmp (op_neD hr.units) op2_ne (eok_len T.b_len (ev 0)) eok_int (nomark _))))) (bok_one (R_BadHouse.raise hr (eok_neg eok_int))) bok_nil) (bok_cons (sok_unp (tg := [1, 2]) rfl (ev 0) (pgs_cons (tn 1 sc_check_frame.nd) (pgs_cons (tn 2 sc_check_frame.nd) pgs_nil))) (bok_cons (sok_frz (i := 2) (sok_frz (i := 1) (sok_if (tok_w (wok_or (tok_not (tok_val (D_is_number.call hr (aok_cons (ev 1) (aok_cons eok_int (aok_cons (eg (.int 10) T.c_DAYS_LIMIT.choose_spec ⟨_, rfl⟩) aok_nil)))))) (wok_or1 (tok_not (tok_val (D_is_row.call hr (aok_cons (ev 2) aok_nil))))))) (bok_one (R_BadHouse.raise hr (eok_neg eok_int))) bok_nil))) (bok_cons (sok_if (tok_cmp op_gt op2_gt (eok_len T.b_len (ev 2)) (eg (.int 30) T.c_COPIES_LIMIT.choose_spec ⟨_, rfl⟩) (nomark _)) (bok_one (R_TooMany.raise hr (eg (.int 30) T.c_COPIES_LIMIT.choose_spec ⟨_, rfl⟩))) bok_nil) (bok_one (sok_retM (mok_mv 1 (mok_mv 2 mok_nil))))))))
/-! is_link -/
abbrev s_is_link : Stmt := top 14
theorem sc_is_link : FnScope ["days", "base", "day"] ["days", "base", "day"] (defScope s_is_link) := ⟨rfl, rfl, rfl, by decide +kernel, rfl, by decide +kernel, by decide +kernel⟩
theorem ok_is_link {f : Addr} {fd : FuncData} (F : Fun K "is_link" "is_link" s_is_link f fd) (T : Txt mg) {f_is_number : Addr} {fd_is_number : FuncData} (D_is_number : Df P w K mg base 1 f_is_number fd_is_number "is_number" ["value", "low", "high"] φ_is_number) : FOk P w K mg base 2 f fd ["days", "base", "day"] φ_is_link :=
  fok_of (N := ["days", "base", "day"]) F sc_is_link fun cdv A outer s H E hr => (bok_one (sok_ret (eok_and (D_is_number.call hr (aok_cons (ev 2) (aok_cons eok_int (aok_cons (ev 0) aok_nil)))) (eok_and (D_is_number.call hr (aok_cons (ev 1) (aok_cons eok_int (aok_cons (ev 0) aok_nil)))) (eok_one (eok_cmp (op_neD hr.units) op2_ne (ev 1) (ev 2) (nomark _)))))))
/-! check_house -/
abbrev s_check_house : Stmt := top 16
theorem sc_check_house : FnScope ["house", "days", "copies", "checked", "at", "copy", "base", "day", "size"] ["house"] (defScope s_check_house) := ⟨rfl, rfl, rfl, by decide +kernel, rfl, by decide +kernel, by decide +kernel⟩
theorem ok_check_house {f : Addr} {fd : FuncData} (F : Fun K "check_house" "check_house" s_check_house f fd) (T : Txt mg) (R_BadHouse : Rz P w K mg base "BadHouse" "at") {f_check_frame : Addr} {fd_check_frame : FuncData} (D_check_frame : Df P w K mg base 2 f_check_frame fd_check_frame "check_frame" ["house"] φ_check_frame) {f_is_row : Addr} {fd_is_row : FuncData} (D_is_row : Df P w K mg base 1 f_is_row fd_is_row "is_row" ["value"] φ_is_row) {f_is_link : Addr} {fd_is_link : FuncData} (D_is_link : Df P w K mg base 2 f_is_link fd_is_link "is_link" ["days", "base", "day"] φ_is_link) {f_is_number : Addr} {fd_is_number : FuncData} (D_is_number : Df P w K mg base 1 f_is_number fd_is_number "is_number" ["value", "low", "high"] φ_is_number) : FOk P w K mg base 3 f fd ["house"] φ_check_house :=
  fok_of (N := ["house", "days", "copies", "checked", "at", "copy", "base", "day", "size"]) F sc_check_house fun cdv A outer s H E hr => (bok_cons (sok_unp (tg := [1, 2]) rfl (D_check_frame.call hr (aok_cons (ev 0) aok_nil)) (pgs_cons (tn 1 sc_check_house.nd) (pgs_cons (tn 2 sc_check_house.nd) pgs_nil))) (bok_cons (st 3 sc_check_house.nd (eok_lst aok_nil)) (bok_cons (sok_frz (i := 2) (sok_for (b := w_check_house_0) pass_def rfl (iok_enum (i := 4) (j := 5) T.b_enumerate (ev 2)) (pg_row rfl (pgs_cons (tn 4 sc_check_house.nd) (pgs_cons (tn 5 sc_check_house.nd) pgs_nil))) (bok_cons (sok_if (tok_w (wok_or (tok_not (tok_val (D_is_row.call hr (aok_cons (ev 5) aok_nil)))) (wok_or1 (tok_cmp (op_neD hr.units) op2_ne (eok_len T.b_len (ev 5)) eok_int (nomark _))))) (bok_one (R_BadHouse.raise hr (ev 4))) bok_nil) (bok_cons (sok_unp (tg := [6, 7, 8]) rfl (ev 5) (pgs_cons (tn 6 sc_check_house.nd) (pgs_cons (tn 7 sc_check_house.nd) (pgs_cons (tn 8 sc_check_house.nd) pgs_nil)))) (bok_cons (sok_frz (i := 8) (sok_frz (i := 7) (sok_frz (i := 6) (sok_frz (i := 1) (sok_if (tok_w (wok_or (tok_not (tok_val (D_is_link.call hr (aok_cons (ev 1) (aok_cons (ev 6) (aok_cons (ev 7) aok_nil)))))) (wok_or1 (tok_not (tok_val (D_is_number.call hr (aok_cons (ev 8) (aok_cons eok_int (aok_cons (eg (.int 999) T.c_SIZE_LIMIT.choose_spec ⟨_, rfl⟩) aok_nil))))))))) (bok_one (R_BadHouse.raise hr (ev 4))) bok_nil))))) (bok_one (sok_frz (i := 8) (sok_frz (i := 7) (sok_frz (i := 6) (sok_app (ev 3) (eok_tup (aok_cons (ev 6) (aok_cons (ev 7) (aok_cons (ev 8) aok_nil)))))))))))))) (bok_one (sok_retM (mok_mv 1 (mok_mv 3 mok_nil)))))))
/-! first_fault -/
abbrev s_first_fault : Stmt := top 8
theorem sc_first_fault : FnScope ["row", "low", "high", "at", "member"] ["row", "low", "high"] (defScope s_first_fault) := ⟨rfl, rfl, rfl, by decide +kernel, rfl, by decide +kernel, by decide +kernel⟩
theorem ok_first_fault {f : Addr} {fd : FuncData} (F : Fun K "first_fault" "first_fault" s_first_fault f fd) (T : Txt mg) {f_is_number : Addr} {fd_is_number : FuncData} (D_is_number : Df P w K mg base 1 f_is_number fd_is_number "is_number" ["value", "low", "high"] φ_is_number) : FOk P w K mg base 2 f fd ["row", "low", "high"] φ_first_fault :=
  fok_of (N := ["row", "low", "high", "at", "member"]) F sc_first_fault fun cdv A outer s H E hr => (bok_cons (sok_for (b := w_first_fault_0) pass_def rfl (iok_enum (i := 3) (j := 4) T.b_enumerate (ev 0)) (pg_row rfl (pgs_cons (tn 3 sc_first_fault.nd) (pgs_cons (tn 4 sc_first_fault.nd) pgs_nil))) (bok_cons (sok_if (tok_not (tok_val (D_is_number.call hr (aok_cons (ev 4) (aok_cons (ev 1) (aok_cons (ev 2) aok_nil)))))) (bok_one (sok_ret (ev 3))) bok_nil) (bok_one (sok_if (tok_w (wok_and (tok_cmp op_gt op2_gt (ev 3) eok_int (nomark _)) (wok_and1 (tok_cmp op_le op2_le (ev 4) (eok_ix (ev 0) (eok_sub (ev 3) eok_int)) (nomark _))))) (bok_one (sok_ret (ev 3))) bok_nil)))) (bok_one (sok_ret eok_none)))
/-! check_choice -/
abbrev s_check_choice : Stmt := top 9
theorem sc_check_choice : FnScope ["value", "low", "high", "at"] ["value", "low", "high"] (defScope s_check_choice) := ⟨rfl, rfl, rfl, by decide +kernel, rfl, by decide +kernel, by decide +kernel⟩
theorem ok_check_choice {f : Addr} {fd : FuncData} (F : Fun K "check_choice" "check_choice" s_check_choice f fd) (T : Txt mg) (R_BadChoice : Rz P w K mg base "BadChoice" "at") {f_first_fault : Addr} {fd_first_fault : FuncData} (D_first_fault : Df P w K mg base 2 f_first_fault fd_first_fault "first_fault" ["row", "low", "high"] φ_first_fault) {f_is_row : Addr} {fd_is_row : FuncData} (D_is_row : Df P w K mg base 1 f_is_row fd_is_row "is_row" ["value"] φ_is_row) : FOk P w K mg base 3 f fd ["value", "low", "high"] φ_check_choice :=
  fok_of (N := ["value", "low", "high", "at"]) F sc_check_choice fun cdv A outer s H E hr => (bok_cons (sok_if (tok_not (tok_val (D_is_row.call hr (aok_cons (ev 0) aok_nil)))) (bok_one (R_BadChoice.raise hr (eok_neg eok_int))) bok_nil) (bok_cons (st 3 sc_check_choice.nd (D_first_fault.call hr (aok_cons (ev 0) (aok_cons (ev 1) (aok_cons (ev 2) aok_nil))))) (bok_cons (sok_if (tok_notN (ev 3)) (bok_one (R_BadChoice.raise hr (ev 3))) bok_nil) (bok_one (sok_ret (eok_list T.b_list (ev 0)))))))
/-! check_kept -/
abbrev s_check_kept : Stmt := top 17
theorem sc_check_kept : FnScope ["kept", "count"] ["kept", "count"] (defScope s_check_kept) := ⟨rfl, rfl, rfl, by decide +kernel, rfl, by decide +kernel, by decide +kernel⟩
theorem ok_check_kept {f : Addr} {fd : FuncData} (F : Fun K "check_kept" "check_kept" s_check_kept f fd) (T : Txt mg) {f_check_choice : Addr} {fd_check_choice : FuncData} (D_check_choice : Df P w K mg base 3 f_check_choice fd_check_choice "check_choice" ["value", "low", "high"] φ_check_choice) : FOk P w K mg base 4 f fd ["kept", "count"] φ_check_kept :=
  fok_of (N := ["kept", "count"]) F sc_check_kept fun cdv A outer s H E hr => (bok_cons (sok_if (tok_isN (ev 0)) (bok_one (sok_ret (eok_lrng1 T.b_list T.b_range (ev 1)))) bok_nil) (bok_one (sok_ret (D_check_choice.call hr (aok_cons (ev 0) (aok_cons eok_int (aok_cons (eok_sub (ev 1) eok_int) aok_nil)))))))
/-! total_size -/
abbrev s_total_size : Stmt := top 23
theorem sc_total_size : FnScope ["house", "kept", "copies"] ["house", "kept"] (defScope s_total_size) := ⟨rfl, rfl, rfl, by decide +kernel, rfl, by decide +kernel, by decide +kernel⟩
theorem ok_total_size {f : Addr} {fd : FuncData} (F : Fun K "total_size" "total_size" s_total_size f fd) (T : Txt mg) {f_cost_of : Addr} {fd_cost_of : FuncData} (D_cost_of : Df P w K mg base 1 f_cost_of fd_cost_of "cost_of" ["copies", "kept"] φ_cost_of) {f_check_house : Addr} {fd_check_house : FuncData} (D_check_house : Df P w K mg base 3 f_check_house fd_check_house "check_house" ["house"] φ_check_house) {f_check_kept : Addr} {fd_check_kept : FuncData} (D_check_kept : Df P w K mg base 4 f_check_kept fd_check_kept "check_kept" ["kept", "count"] φ_check_kept) : FOk P w K mg base 5 f fd ["house", "kept"] φ_total_size :=
  fok_of (N := ["house", "kept", "copies"]) F sc_total_size fun cdv A outer s H E hr => (bok_cons (st 2 sc_total_size.nd (eok_ix (D_check_house.call hr (aok_cons (ev 0) aok_nil)) eok_int)) (bok_one (sok_frz (i := 2) (sok_ret (D_cost_of.call hr (aok_cons (ev 2) (aok_cons (D_check_kept.call hr (aok_cons (ev 1) (aok_cons (eok_len T.b_len (ev 2)) aok_nil))) aok_nil)))))))
/-! enters -/
abbrev s_enters : Stmt := top 18
theorem sc_enters : FnScope ["copy", "days"] ["copy", "days"] (defScope s_enters) := ⟨rfl, rfl, rfl, by decide +kernel, rfl, by decide +kernel, by decide +kernel⟩
theorem ok_enters {f : Addr} {fd : FuncData} (F : Fun K "enters" "enters" s_enters f fd) (T : Txt mg)  : FOk P w K mg base 1 f fd ["copy", "days"] φ_enters :=
  fok_of (N := ["copy", "days"]) F sc_enters fun cdv A outer s H E hr => (bok_one (sok_ret (eok_and (eok_cmp op_in_seq op2_in (eok_ix (ev 0) eok_int) (ev 1) (by with_unfolding_all rfl)) (eok_one (eok_cmp op_notIn_seq op2_notIn (eok_ix (ev 0) eok_int) (ev 1) (by with_unfolding_all rfl))))))
/-! entering_among -/
abbrev s_entering_among : Stmt := top 19
theorem sc_entering_among : FnScope ["copies", "kept", "days", "at"] ["copies", "kept", "days"] (defScope s_entering_among) := ⟨rfl, rfl, rfl, by decide +kernel, rfl, by decide +kernel, by decide +kernel⟩
theorem ok_entering_among {f : Addr} {fd : FuncData} (F : Fun K "entering_among" "entering_among" s_entering_among f fd) (T : Txt mg) {f_enters : Addr} {fd_enters : FuncData} (D_enters : Df P w K mg base 1 f_enters fd_enters "enters" ["copy", "days"] φ_enters) : FOk P w K mg base 2 f fd ["copies", "kept", "days"] φ_entering_among :=
  fok_of (N := ["copies", "kept", "days", "at"]) F sc_entering_among fun cdv A outer s H E hr => (bok_one (sok_ret (eok_comp rfl sc_entering_among.nd (iok_row (i := 3) (ev 1)) (blkOk_by (own := [("at", 3)]) (show blkC ["copies", "kept", "days", "at"] (defScope s_entering_among) _ _ = true by decide +kernel)) rfl (fun _ _ _ _ _ => ⟨(tn 3 sc_entering_among.nd), (pts_oneV (tok_val (D_enters.call hr (aok_cons (eok_ix (ev 0) (ev 3)) (aok_cons (ev 2) aok_nil))))), (ev 3)⟩))))
/-! entering -/
abbrev s_entering : Stmt := top 22
theorem sc_entering : FnScope ["house", "kept", "days", "count", "copies"] ["house", "kept", "days"] (defScope s_entering) := ⟨rfl, rfl, rfl, by decide +kernel, rfl, by decide +kernel, by decide +kernel⟩
theorem ok_entering {f : Addr} {fd : FuncData} (F : Fun K "entering" "entering" s_entering f fd) (T : Txt mg) {f_check_house : Addr} {fd_check_house : FuncData} (D_check_house : Df P w K mg base 3 f_check_house fd_check_house "check_house" ["house"] φ_check_house) {f_check_kept : Addr} {fd_check_kept : FuncData} (D_check_kept : Df P w K mg base 4 f_check_kept fd_check_kept "check_kept" ["kept", "count"] φ_check_kept) {f_check_choice : Addr} {fd_check_choice : FuncData} (D_check_choice : Df P w K mg base 3 f_check_choice fd_check_choice "check_choice" ["value", "low", "high"] φ_check_choice) {f_entering_among : Addr} {fd_entering_among : FuncData} (D_entering_among : Df P w K mg base 2 f_entering_among fd_entering_among "entering_among" ["copies", "kept", "days"] φ_entering_among) : FOk P w K mg base 5 f fd ["house", "kept", "days"] φ_entering :=
  fok_of (N := ["house", "kept", "days", "count", "copies"]) F sc_entering fun cdv A outer s H E hr => (bok_cons (sok_unp (tg := [3, 4]) rfl (D_check_house.call hr (aok_cons (ev 0) aok_nil)) (pgs_cons (tn 3 sc_entering.nd) (pgs_cons (tn 4 sc_entering.nd) pgs_nil))) (bok_cons (sok_frz (i := 1) (st 1 sc_entering.nd (D_check_kept.call hr (aok_cons (ev 1) (aok_cons (eok_len T.b_len (ev 4)) aok_nil))))) (bok_cons (sok_frz (i := 3) (sok_frz (i := 2) (st 2 sc_entering.nd (D_check_choice.call hr (aok_cons (ev 2) (aok_cons eok_int (aok_cons (ev 3) aok_nil))))))) (bok_one (sok_frz (i := 2) (sok_frz (i := 1) (sok_frz (i := 4) (sok_ret (D_entering_among.call hr (aok_cons (ev 4) (aok_cons (ev 1) (aok_cons (ev 2) aok_nil))))))))))))
/-! part_of -/
abbrev s_part_of : Stmt := top 21
theorem sc_part_of : FnScope ["house", "kept", "days", "copies", "at"] ["house", "kept"] (defScope s_part_of) := ⟨rfl, rfl, rfl, by decide +kernel, rfl, by decide +kernel, by decide +kernel⟩
theorem ok_part_of {f : Addr} {fd : FuncData} (F : Fun K "part_of" "part_of" s_part_of f fd) (T : Txt mg) {f_check_house : Addr} {fd_check_house : FuncData} (D_check_house : Df P w K mg base 3 f_check_house fd_check_house "check_house" ["house"] φ_check_house) {f_check_kept : Addr} {fd_check_kept : FuncData} (D_check_kept : Df P w K mg base 4 f_check_kept fd_check_kept "check_kept" ["kept", "count"] φ_check_kept) : FOk P w K mg base 5 f fd ["house", "kept"] φ_part_of :=
  fok_of (N := ["house", "kept", "days", "copies", "at"]) F sc_part_of fun cdv A outer s H E hr => (bok_cons (sok_unp (tg := [2, 3]) rfl (D_check_house.call hr (aok_cons (ev 0) aok_nil)) (pgs_cons (tn 2 sc_part_of.nd) (pgs_cons (tn 3 sc_part_of.nd) pgs_nil))) (bok_cons (sok_frz (i := 1) (st 1 sc_part_of.nd (D_check_kept.call hr (aok_cons (ev 1) (aok_cons (eok_len T.b_len (ev 3)) aok_nil))))) (bok_one (sok_frzL (i := 3) (sok_frz (i := 1) (sok_retM (mok_mv 2 (mok_ev (eok_comp rfl sc_part_of.nd (iok_row (i := 4) (ev 1)) (blkOk_by (own := [("at", 4)]) (show blkC ["house", "kept", "days", "copies", "at"] (defScope s_part_of) _ _ = true by decide +kernel)) rfl (fun _ _ _ _ _ => ⟨(tn 4 sc_part_of.nd), pts_nilV, (eok_ix (ev 3) (ev 4))⟩)) mok_nil))))))))
/-! _law_told -/
abbrev s__law_told : Stmt := top 39
theorem sc__law_told : FnScope ["which", "house", "kept", "days", "e"] ["which", "house", "kept", "days"] (defScope s__law_told) := ⟨rfl, rfl, rfl, by decide +kernel, rfl, by decide +kernel, by decide +kernel⟩
theorem ok__law_told {f : Addr} {fd : FuncData} (F : Fun K "_law_told" "_law_told" s__law_told f fd) (T : Txt mg) (G : ErrF K mg ecls eys eflds esub) {f_total_size : Addr} {fd_total_size : FuncData} (D_total_size : Df P w K mg base 5 f_total_size fd_total_size "total_size" ["house", "kept"] φ_total_size) {f_entering : Addr} {fd_entering : FuncData} (D_entering : Df P w K mg base 5 f_entering fd_entering "entering" ["house", "kept", "days"] φ_entering) {f_part_of : Addr} {fd_part_of : FuncData} (D_part_of : Df P w K mg base 5 f_part_of fd_part_of "part_of" ["house", "kept"] φ_part_of) : FOk P w K mg base 6 f fd ["which", "house", "kept", "days"] φ__law_told :=
  fok_of (N := ["which", "house", "kept", "days", "e"]) F sc__law_told fun cdv A outer s H E hr => (bok_one (sok_try2 G rfl rfl sc__law_told.nd (fun pn xe hp => (bok_cons (sok_if (tok_cmp (op_eqD hr.units) op2_eq (ev 0) eok_int (nomark _)) (bok_one (sok_ret (eok_tup (aok_cons eok_str (aok_cons (D_entering.call hr (aok_cons (ev 1) (aok_cons (ev 2) (aok_cons (ev 3) aok_nil)))) (aok_cons eok_bool aok_nil)))))) bok_nil) (bok_cons (sok_if (tok_cmp (op_eqD hr.units) op2_eq (ev 0) eok_int (nomark _)) (bok_one (sok_ret (eok_tup (aok_cons eok_str (aok_cons (D_part_of.call hr (aok_cons (ev 1) (aok_cons (ev 2) aok_nil))) (aok_cons eok_bool aok_nil)))))) bok_nil) (bok_one (sok_ret (eok_tup (aok_cons eok_str (aok_cons (D_total_size.call hr (aok_cons (ev 1) (aok_cons (ev 2) aok_nil))) (aok_cons eok_bool aok_nil))))))))) (HCs.cons (c := ⟨"BadChoice", 4, (hsRetT [(fun _ _ => some (.str "choice")), (hFld ecls "at"), (hAnd (hIs esub "VaultError") (hNot (hIs esub "BadHouse")))])⟩) rfl rfl rfl (by decide) (hs_retT (haok_cons heok_str (haok_cons (heok_fld G (by decide)) (haok_cons (heok_and (heok_is G T.b_isinstance) (heok_one (heok_not (heok_is G T.b_isinstance)))) haok_nil))) (by decide)) HCs.nil) (by decide)))
/-! _law_same -/
abbrev s__law_same : Stmt := top 29
theorem sc__law_same : FnScope ["value", "due", "k"] ["value", "due"] (defScope s__law_same) := ⟨rfl, rfl, rfl, by decide +kernel, rfl, by decide +kernel, by decide +kernel⟩
theorem okn__law_same {f : Addr} {fd : FuncData} (F : Fun K "_law_same" "_law_same" s__law_same f fd) (T : Txt mg)  (hm : mg "_law_same" = some (.ref f)) (hb : Binds K fd ["value", "due"] []) : ∀ n : Nat, FOk P w K mg base (0 + n) f fd ["value", "due"] (φ__law_same_k01_n n)
  | 0 => fok_stuck
  | n + 1 => fok_of (b := b__law_same_k01 (φ__law_same_k01_n n)) (N := ["value", "due", "k"]) F sc__law_same fun cdv A outer s H E hr => by
    have D__law_same : Df P w K mg base (0 + n) f fd "_law_same" ["value", "due"] (φ__law_same_k01_n n) := ⟨okn__law_same F T  hm hb n, hm, F.kp, hb⟩
    exact (bok_cons (sok_if (tok_isN (ev 1)) (bok_one (sok_ret (eok_isN (ev 0)))) bok_nil) (bok_cons (sok_if (tok_val (eok_isI T.b_isinstance (ev 1) (ty_name (c := .bool) T.b_bool (by rfl)))) (bok_one (sok_ret (eok_and (eok_isI T.b_isinstance (ev 0) (ty_name (c := .bool) T.b_bool (by rfl))) (eok_one (eok_cmp (op_eqD hr.units) op2_eq (ev 0) (ev 1) (nomark _)))))) bok_nil) (bok_cons (sok_if (tok_val (eok_isI T.b_isinstance (ev 1) (ty_name (c := .int) T.b_int (by rfl)))) (bok_one (sok_ret (eok_and (eok_isI T.b_isinstance (ev 0) (ty_name (c := .int) T.b_int (by rfl))) (eok_and (eok_not (eok_isI T.b_isinstance (ev 0) (ty_name (c := .bool) T.b_bool (by rfl)))) (eok_one (eok_cmp (op_eqD hr.units) op2_eq (ev 0) (ev 1) (nomark _))))))) bok_nil) (bok_cons (sok_if (tok_val (eok_isI T.b_isinstance (ev 1) (ty_name (c := .str) T.b_str (by rfl)))) (bok_one (sok_ret (eok_and (eok_isI T.b_isinstance (ev 0) (ty_name (c := .str) T.b_str (by rfl))) (eok_one (eok_cmp (op_eqD hr.units) op2_eq (ev 0) (ev 1) (nomark _)))))) bok_nil) (bok_cons (sok_if (tok_w (wok_and (tok_val (eok_isI T.b_isinstance (ev 1) (ty_name (c := .list) T.b_list (by rfl)))) (wok_and1 (tok_not (tok_val (eok_isI T.b_isinstance (ev 0) (ty_name (c := .list) T.b_list (by rfl)))))))) (bok_one (sok_ret eok_bool)) bok_nil) (bok_cons (sok_if (tok_w (wok_and (tok_val (eok_isI T.b_isinstance (ev 1) (ty_name (c := .tuple) T.b_tuple (by rfl)))) (wok_and1 (tok_not (tok_val (eok_isI T.b_isinstance (ev 0) (ty_name (c := .tuple) T.b_tuple (by rfl)))))))) (bok_one (sok_ret eok_bool)) bok_nil) (bok_cons (sok_if (tok_cmp (op_neD hr.units) op2_ne (eok_len T.b_len (ev 0)) (eok_len T.b_len (ev 1)) (nomark _)) (bok_one (sok_ret eok_bool)) bok_nil) (bok_cons (sok_for (b := (w__law_same_k01_0 (φ__law_same_k01_n n))) pass_def rfl (iok_rng1 (i := 2) T.b_range (eok_len T.b_len (ev 1))) (tn 2 sc__law_same.nd) (bok_one (sok_if (tok_not (tok_val (D__law_same.call hr (aok_cons (eok_ix (ev 0) (ev 2)) (aok_cons (eok_ix (ev 1) (ev 2)) aok_nil)) (by first | exact Nat.le_refl _ | exact Nat.le_trans (by decide) (Nat.le_add_right _ _))))) (bok_one (sok_ret eok_bool)) bok_nil))) (bok_one (sok_ret eok_bool))))))))))
theorem ok__law_same {f : Addr} {fd : FuncData} (F : Fun K "_law_same" "_law_same" s__law_same f fd) (T : Txt mg)  (hm : mg "_law_same" = some (.ref f)) (hb : Binds K fd ["value", "due"] []) : FOk P w K mg base 12 f fd ["value", "due"] φ__law_same_k01 := okn__law_same F T  hm hb 12
/-! law -/
abbrev s_law : Stmt := top 40
theorem sc_law : FnScope ["script", "plan", "house", "kept", "days", "which", "due", "given", "before", "told", "rows"] ["script"] (defScope s_law) := ⟨rfl, rfl, rfl, by decide +kernel, rfl, by decide +kernel, by decide +kernel⟩
theorem ok_law {f : Addr} {fd : FuncData} (F : Fun K "law" "law" s_law f fd) (T : Txt mg) {f__law_row : Addr} {fd__law_row : FuncData} (D__law_row : Df P w K mg base 2 f__law_row fd__law_row "_law_row" ["cell", "count", "size"] φ__law_row_k01) {f__law_house : Addr} {fd__law_house : FuncData} (D__law_house : Df P w K mg base 4 f__law_house fd__law_house "_law_house" ["script", "start", "most"] φ__law_house_k01) {f__law_kept : Addr} {fd__law_kept : FuncData} (D__law_kept : Df P w K mg base 3 f__law_kept fd__law_kept "_law_kept" ["cell", "many"] φ__law_kept_k02) {f__law_days : Addr} {fd__law_days : FuncData} (D__law_days : Df P w K mg base 3 f__law_days fd__law_days "_law_days" ["cell", "days"] φ__law_days) {f__law_cell : Addr} {fd__law_cell : FuncData} (D__law_cell : Df P w K mg base 2 f__law_cell fd__law_cell "_law_cell" ["script", "k"] φ__law_cell_k01) {f__law_spoilt : Addr} {fd__law_spoilt : FuncData} (D__law_spoilt : Df P w K mg base 3 f__law_spoilt fd__law_spoilt "_law_spoilt" ["row", "cell", "high"] φ__law_spoilt) {f__law_due : Addr} {fd__law_due : FuncData} (D__law_due : Df P w K mg base 3 f__law_due fd__law_due "_law_due" ["which", "house", "kept", "days"] φ__law_due) {f__law_given : Addr} {fd__law_given : FuncData} (D__law_given : Df P w K mg base 1 f__law_given fd__law_given "_law_given" ["house", "number"] φ__law_given_k02) {f__law_told : Addr} {fd__law_told : FuncData} (D__law_told : Df P w K mg base 6 f__law_told fd__law_told "_law_told" ["which", "house", "kept", "days"] φ__law_told) {f__law_same : Addr} {fd__law_same : FuncData} (D__law_same : Df P w K mg base 12 f__law_same fd__law_same "_law_same" ["value", "due"] φ__law_same_k01) : FOkG P w K mg base 13 f fd ["script"] φ_law :=
  fokg_of (N := ["script", "plan", "house", "kept", "days", "which", "due", "given", "before", "told", "rows"]) F sc_law fun cdv A outer s H E hr hgd => (bok_cons (st 1 sc_law.nd (D__law_row.call hr (aok_cons (D__law_cell.call hr (aok_cons (ev 0) (aok_cons eok_int aok_nil))) (aok_cons eok_int (aok_cons eok_int aok_nil))))) (bok_cons (st 2 sc_law.nd (D__law_house.call hr (aok_cons (ev 0) (aok_cons eok_int (aok_cons eok_int aok_nil))))) (bok_cons (st 3 sc_law.nd (D__law_kept.call hr (aok_cons (D__law_cell.call hr (aok_cons (ev 0) (aok_cons eok_int aok_nil))) (aok_cons (eok_len T.b_len (eok_ix (ev 2) eok_int)) aok_nil)))) (bok_cons (sok_frzL (i := 2) (st 4 sc_law.nd (D__law_days.call hr (aok_cons (D__law_cell.call hr (aok_cons (ev 0) (aok_cons eok_int aok_nil))) (aok_cons (eok_ix (ev 2) eok_int) aok_nil))))) (bok_cons (sok_if (tok_w (wok_and (tok_cmp (op_eqD hr.units) op2_eq (eok_mod (eok_intc T.b_int (eok_ix (ev 1) eok_int)) eok_int) eok_int (nomark _)) (wok_and1 (tok_notN (ev 3))))) (bok_one (sok_frz (i := 3) (st 3 sc_law.nd (D__law_spoilt.call hr (aok_cons (ev 3) (aok_cons (D__law_cell.call hr (aok_cons (ev 0) (aok_cons eok_int aok_nil))) (aok_cons (eok_sub (eok_len T.b_len (eok_ix (ev 2) eok_int)) eok_int) aok_nil))))))) bok_nil) (bok_cons (sok_if (tok_cmp (op_eqD hr.units) op2_eq (eok_mod (eok_intc T.b_int (eok_ix (ev 1) eok_int)) eok_int) eok_int (nomark _)) (bok_one (sok_frzL (i := 2) (sok_frz (i := 4) (st 4 sc_law.nd (D__law_spoilt.call hr (aok_cons (ev 4) (aok_cons (D__law_cell.call hr (aok_cons (ev 0) (aok_cons eok_int aok_nil))) (aok_cons (eok_ix (ev 2) eok_int) aok_nil)))))))) bok_nil) (bok_cons (sok_if (tok_w (wok_and (tok_cmp (op_eqD hr.units) op2_eq (eok_mod (eok_intc T.b_int (eok_ix (ev 1) eok_int)) eok_int) eok_int (nomark _)) (wok_and1 (tok_val (eok_isI T.b_isinstance (ev 3) (ty_name (c := .list) T.b_list (by rfl))))))) (bok_one (sok_frz (i := 3) (st 3 sc_law.nd (eok_tuple T.b_tuple (ev 3))))) bok_nil) (bok_cons (sok_if (tok_w (wok_and (tok_cmp (op_eqD hr.units) op2_eq (eok_mod (eok_intc T.b_int (eok_ix (ev 1) eok_int)) eok_int) eok_int (nomark _)) (wok_and1 (tok_val (eok_isI T.b_isinstance (ev 4) (ty_name (c := .list) T.b_list (by rfl))))))) (bok_one (sok_frz (i := 4) (st 4 sc_law.nd (eok_tuple T.b_tuple (ev 4))))) bok_nil) (bok_cons (sok_for (b := w_law_0) pass_def rfl (iok_rng1 (i := 5) T.b_range eok_int) (tn 5 sc_law.nd) (bok_cons (sok_frz (i := 4) (sok_frz (i := 3) (sok_frz (i := 2) (st 6 sc_law.nd (D__law_due.call hr (aok_cons (ev 5) (aok_cons (ev 2) (aok_cons (ev 3) (aok_cons (ev 4) aok_nil))))))))) (bok_cons (sok_frzL (i := 1) (sok_frz (i := 2) (st 7 sc_law.nd (D__law_given.call hr (aok_cons (ev 2) (aok_cons (eok_ix (ev 1) (eok_add eok_int (ev 5))) aok_nil)))))) (bok_cons (sok_frz (i := 4) (sok_frz (i := 3) (sok_frz (i := 7) (st 8 sc_law.nd (eok_repr hgd hr.units T.b_repr (eok_lst (aok_cons (ev 7) (aok_cons (ev 3) (aok_cons (ev 4) aok_nil))))))))) (bok_cons (sok_frz (i := 4) (sok_frz (i := 3) (sok_frz (i := 7) (st 9 sc_law.nd (D__law_told.call hr (aok_cons (ev 5) (aok_cons (ev 7) (aok_cons (ev 3) (aok_cons (ev 4) aok_nil))))))))) (bok_cons (sok_frz (i := 4) (sok_frz (i := 3) (sok_frz (i := 7) (sok_frz (i := 6) (sok_if (tok_w (wok_or (tok_not (tok_val (D__law_same.call hr (aok_cons (ev 9) (aok_cons (ev 6) aok_nil))))) (wok_or1 (tok_cmp op_ne op2_neS (eok_repr hgd hr.units T.b_repr (eok_lst (aok_cons (ev 7) (aok_cons (ev 3) (aok_cons (ev 4) aok_nil))))) (ev 8) (nomark _))))) (bok_one (sok_ret eok_bool)) bok_nil))))) (bok_cons (sok_if (tok_w (wok_and (tok_cmp (op_eqD hr.units) op2_eq (ev 5) eok_int (nomark _)) (wok_and1 (tok_cmp (op_eqD hr.units) op2_eq (eok_ix (ev 6) eok_int) eok_str (nomark _))))) (bok_cons (tk 10 sc_law.nd (eok_ix (ev 9) eok_int)) (bok_one (sok_app (ev 10) eok_int))) bok_nil) (bok_cons (sok_if (tok_w (wok_and (tok_cmp (op_eqD hr.units) op2_eq (ev 5) eok_int (nomark _)) (wok_and1 (tok_cmp (op_eqD hr.units) op2_eq (eok_ix (ev 6) eok_int) eok_str (nomark _))))) (bok_cons (tk 10 sc_law.nd (eok_ix (eok_ix (ev 9) eok_int) eok_int)) (bok_one (sok_app (ev 10) (eok_tup (aok_cons eok_int (aok_cons eok_int (aok_cons eok_int aok_nil))))))) bok_nil) (bok_one (sok_frz (i := 4) (sok_frz (i := 3) (sok_frz (i := 7) (sok_frz (i := 6) (sok_if (tok_w (wok_or (tok_not (tok_val (D__law_same.call hr (aok_cons (D__law_told.call hr (aok_cons (ev 5) (aok_cons (ev 7) (aok_cons (ev 3) (aok_cons (ev 4) aok_nil))))) (aok_cons (ev 6) aok_nil))))) (wok_or1 (tok_cmp op_ne op2_neS (eok_repr hgd hr.units T.b_repr (eok_lst (aok_cons (ev 7) (aok_cons (ev 3) (aok_cons (ev 4) aok_nil))))) (ev 8) (nomark _))))) (bok_one (sok_ret eok_bool)) bok_nil)))))))))))))) (bok_one (sok_ret eok_bool)))))))))))
end
abbrev si_BadHouse : Stmt := inClass (top 3) 0
theorem sci_BadHouse : InScope ["self", "at"] (defScope si_BadHouse) := ⟨rfl, rfl, rfl, by decide +kernel, rfl, rfl, by decide +kernel, by decide +kernel, by decide +kernel⟩
abbrev si_TooMany : Stmt := inClass (top 4) 0
theorem sci_TooMany : InScope ["self", "limit"] (defScope si_TooMany) := ⟨rfl, rfl, rfl, by decide +kernel, rfl, rfl, by decide +kernel, by decide +kernel, by decide +kernel⟩
abbrev si_BadChoice : Stmt := inClass (top 2) 0
theorem sci_BadChoice : InScope ["self", "at"] (defScope si_BadChoice) := ⟨rfl, rfl, rfl, by decide +kernel, rfl, rfl, by decide +kernel, by decide +kernel, by decide +kernel⟩
end K02

set_option Elab.async false
set_option linter.all false
set_option maxRecDepth 100000
set_option maxHeartbeats 4000000
namespace K02
open PySem PySem.Spec PyProof.Rows L2 VL PR
theorem all_mk {l : PySem.W.OpenLaw} {w : World} {K : Frag} {h : Heap} {mg : Str → Option Value} {fa : Addr} {f0 : Addr} {od0 an0 : Option Addr} {sl0 : Array (Option Value)} {oc0 kV0 dc0 pm0 cd0 ct0 : Value} {f1 : Addr} {od1 an1 : Option Addr} {sl1 : Array (Option Value)} {oc1 kV1 dc1 pm1 cd1 ct1 : Value} {f2 : Addr} {od2 an2 : Option Addr} {sl2 : Array (Option Value)} {oc2 kV2 dc2 pm2 cd2 ct2 : Value} {f3 : Addr} {od3 an3 : Option Addr} {sl3 : Array (Option Value)} {oc3 kV3 dc3 pm3 cd3 ct3 : Value} {f4 : Addr} {od4 an4 : Option Addr} {sl4 : Array (Option Value)} {oc4 kV4 dc4 pm4 cd4 ct4 : Value} {f5 : Addr} {od5 an5 : Option Addr} {sl5 : Array (Option Value)} {oc5 kV5 dc5 pm5 cd5 ct5 : Value} {f6 : Addr} {od6 an6 : Option Addr} {sl6 : Array (Option Value)} {oc6 kV6 dc6 pm6 cd6 ct6 : Value} {f7 : Addr} {od7 an7 : Option Addr} {sl7 : Array (Option Value)} {oc7 kV7 dc7 pm7 cd7 ct7 : Value} {f8 : Addr} {od8 an8 : Option Addr} {sl8 : Array (Option Value)} {oc8 kV8 dc8 pm8 cd8 ct8 : Value} {f9 : Addr} {od9 an9 : Option Addr} {sl9 : Array (Option Value)} {oc9 kV9 dc9 pm9 cd9 ct9 : Value} {f10 : Addr} {od10 an10 : Option Addr} {sl10 : Array (Option Value)} {oc10 kV10 dc10 pm10 cd10 ct10 : Value} {f11 : Addr} {od11 an11 : Option Addr} {sl11 : Array (Option Value)} {oc11 kV11 dc11 pm11 cd11 ct11 : Value} {f12 : Addr} {od12 an12 : Option Addr} {sl12 : Array (Option Value)} {oc12 kV12 dc12 pm12 cd12 ct12 : Value} {f13 : Addr} {od13 an13 : Option Addr} {sl13 : Array (Option Value)} {oc13 kV13 dc13 pm13 cd13 ct13 : Value} {f14 : Addr} {od14 an14 : Option Addr} {sl14 : Array (Option Value)} {oc14 kV14 dc14 pm14 cd14 ct14 : Value} {f15 : Addr} {od15 an15 : Option Addr} {sl15 : Array (Option Value)} {oc15 kV15 dc15 pm15 cd15 ct15 : Value} {f16 : Addr} {od16 an16 : Option Addr} {sl16 : Array (Option Value)} {oc16 kV16 dc16 pm16 cd16 ct16 : Value} {f17 : Addr} {od17 an17 : Option Addr} {sl17 : Array (Option Value)} {oc17 kV17 dc17 pm17 cd17 ct17 : Value} {f18 : Addr} {od18 an18 : Option Addr} {sl18 : Array (Option Value)} {oc18 kV18 dc18 pm18 cd18 ct18 : Value} {f19 : Addr} {od19 an19 : Option Addr} {sl19 : Array (Option Value)} {oc19 kV19 dc19 pm19 cd19 ct19 : Value} {f20 : Addr} {od20 an20 : Option Addr} {sl20 : Array (Option Value)} {oc20 kV20 dc20 pm20 cd20 ct20 : Value} {f21 : Addr} {od21 an21 : Option Addr} {sl21 : Array (Option Value)} {oc21 kV21 dc21 pm21 cd21 ct21 : Value} {f22 : Addr} {od22 an22 : Option Addr} {sl22 : Array (Option Value)} {oc22 kV22 dc22 pm22 cd22 ct22 : Value} {f23 : Addr} {od23 an23 : Option Addr} {sl23 : Array (Option Value)} {oc23 kV23 dc23 pm23 cd23 ct23 : Value} {f24 : Addr} {od24 an24 : Option Addr} {sl24 : Array (Option Value)} {oc24 kV24 dc24 pm24 cd24 ct24 : Value} {f25 : Addr} {od25 an25 : Option Addr} {sl25 : Array (Option Value)} {oc25 kV25 dc25 pm25 cd25 ct25 : Value} {f26 : Addr} {od26 an26 : Option Addr} {sl26 : Array (Option Value)} {oc26 kV26 dc26 pm26 cd26 ct26 : Value} {f27 : Addr} {od27 an27 : Option Addr} {sl27 : Array (Option Value)} {oc27 kV27 dc27 pm27 cd27 ct27 : Value} {f28 : Addr} {od28 an28 : Option Addr} {sl28 : Array (Option Value)} {oc28 kV28 dc28 pm28 cd28 ct28 : Value} {f29 : Addr} {od29 an29 : Option Addr} {sl29 : Array (Option Value)} {oc29 kV29 dc29 pm29 cd29 ct29 : Value} {t0 : Tok} {t1 : Tok} {t2 : Tok} {C_BadHouse : Addr} {C_TooMany : Addr} {C_BadChoice : Addr} {C_VaultError : Addr} {nm_BadHouse qn_BadHouse : Str} {N_BadHouse : Addr} {bs_BadHouse bm_BadHouse : List Value} {sn_BadHouse : List Str} {sub_BadHouse : List Value} {ab_BadHouse : Bool} {col_BadHouse : Option Bool} {dd_BadHouse : Option Addr} {k0_BadHouse k1_BadHouse k2_BadHouse k3_BadHouse k5_BadHouse : Option Value} {fI_BadHouse cda_BadHouse cc_BadHouse : Addr} {ocI_BadHouse kVI_BadHouse dcI_BadHouse pmI_BadHouse ctI_BadHouse ccl_BadHouse cl_BadHouse : Value} {odI_BadHouse anI_BadHouse cdd_BadHouse cld_BadHouse : Option Addr} {osI_BadHouse ccs_BadHouse csl_BadHouse : Array (Option Value)} {vs_BadHouse : Array Value} {file_BadHouse : Str} {tf_BadHouse : Tok} {nm_TooMany qn_TooMany : Str} {N_TooMany : Addr} {bs_TooMany bm_TooMany : List Value} {sn_TooMany : List Str} {sub_TooMany : List Value} {ab_TooMany : Bool} {col_TooMany : Option Bool} {dd_TooMany : Option Addr} {k0_TooMany k1_TooMany k2_TooMany k3_TooMany k5_TooMany : Option Value} {fI_TooMany cda_TooMany cc_TooMany : Addr} {ocI_TooMany kVI_TooMany dcI_TooMany pmI_TooMany ctI_TooMany ccl_TooMany cl_TooMany : Value} {odI_TooMany anI_TooMany cdd_TooMany cld_TooMany : Option Addr} {osI_TooMany ccs_TooMany csl_TooMany : Array (Option Value)} {vs_TooMany : Array Value} {file_TooMany : Str} {tf_TooMany : Tok} {nm_BadChoice qn_BadChoice : Str} {N_BadChoice : Addr} {bs_BadChoice bm_BadChoice : List Value} {sn_BadChoice : List Str} {sub_BadChoice : List Value} {ab_BadChoice : Bool} {col_BadChoice : Option Bool} {dd_BadChoice : Option Addr} {k0_BadChoice k1_BadChoice k2_BadChoice k3_BadChoice k5_BadChoice : Option Value} {fI_BadChoice cda_BadChoice cc_BadChoice : Addr} {ocI_BadChoice kVI_BadChoice dcI_BadChoice pmI_BadChoice ctI_BadChoice ccl_BadChoice cl_BadChoice : Value} {odI_BadChoice anI_BadChoice cdd_BadChoice cld_BadChoice : Option Addr} {osI_BadChoice ccs_BadChoice csl_BadChoice : Array (Option Value)} {vs_BadChoice : Array Value} {file_BadChoice : Str} {tf_BadChoice : Tok}
    (X : K.In h) (G : h.Ns mainGlobals mg) (hfa : mg "law" = some (.ref fa)) (a0 : PySem.W.nsIn K mainGlobals "_law_mixed" = some (some (.ref f0)))
    (l0 : K.lookup f0 = some ⟨oc0, od0, .func (PySem.W.fnOf "_law_mixed" "_law_mixed" (defArgs s__law_mixed) (defBody s__law_mixed) (defScope s__law_mixed) .none kV0 dc0 pm0 an0 cd0 ct0), sl0⟩)
    (c0 : PySem.W.codeIn K cd0 "_law_mixed" = true)
    (k0 : PySem.W.keepIn K (.ref f0) = true)
    (a1 : PySem.W.nsIn K mainGlobals "_law_row" = some (some (.ref f1)))
    (l1 : K.lookup f1 = some ⟨oc1, od1, .func (PySem.W.fnOf "_law_row" "_law_row" (defArgs s__law_row) (defBody s__law_row) (defScope s__law_row) .none kV1 dc1 pm1 an1 cd1 ct1), sl1⟩)
    (c1 : PySem.W.codeIn K cd1 "_law_row" = true)
    (k1 : PySem.W.keepIn K (.ref f1) = true)
    (a2 : PySem.W.nsIn K mainGlobals "_law_order" = some (some (.ref f2)))
    (l2 : K.lookup f2 = some ⟨oc2, od2, .func (PySem.W.fnOf "_law_order" "_law_order" (defArgs s__law_order) (defBody s__law_order) (defScope s__law_order) .none kV2 dc2 pm2 an2 cd2 ct2), sl2⟩)
    (c2 : PySem.W.codeIn K cd2 "_law_order" = true)
    (k2 : PySem.W.keepIn K (.ref f2) = true)
    (a3 : PySem.W.nsIn K mainGlobals "_law_cell" = some (some (.ref f3)))
    (l3 : K.lookup f3 = some ⟨oc3, od3, .func (PySem.W.fnOf "_law_cell" "_law_cell" (defArgs s__law_cell) (defBody s__law_cell) (defScope s__law_cell) .none kV3 dc3 pm3 an3 cd3 ct3), sl3⟩)
    (c3 : PySem.W.codeIn K cd3 "_law_cell" = true)
    (k3 : PySem.W.keepIn K (.ref f3) = true)
    (a4 : PySem.W.nsIn K mainGlobals "_law_base" = some (some (.ref f4)))
    (l4 : K.lookup f4 = some ⟨oc4, od4, .func (PySem.W.fnOf "_law_base" "_law_base" (defArgs s__law_base) (defBody s__law_base) (defScope s__law_base) .none kV4 dc4 pm4 an4 cd4 ct4), sl4⟩)
    (c4 : PySem.W.codeIn K cd4 "_law_base" = true)
    (k4 : PySem.W.keepIn K (.ref f4) = true)
    (a5 : PySem.W.nsIn K mainGlobals "_law_house" = some (some (.ref f5)))
    (l5 : K.lookup f5 = some ⟨oc5, od5, .func (PySem.W.fnOf "_law_house" "_law_house" (defArgs s__law_house) (defBody s__law_house) (defScope s__law_house) .none kV5 dc5 pm5 an5 cd5 ct5), sl5⟩)
    (c5 : PySem.W.codeIn K cd5 "_law_house" = true)
    (k5 : PySem.W.keepIn K (.ref f5) = true)
    (a6 : PySem.W.nsIn K mainGlobals "_law_kept" = some (some (.ref f6)))
    (l6 : K.lookup f6 = some ⟨oc6, od6, .func (PySem.W.fnOf "_law_kept" "_law_kept" (defArgs s__law_kept) (defBody s__law_kept) (defScope s__law_kept) .none kV6 dc6 pm6 an6 cd6 ct6), sl6⟩)
    (c6 : PySem.W.codeIn K cd6 "_law_kept" = true)
    (k6 : PySem.W.keepIn K (.ref f6) = true)
    (a7 : PySem.W.nsIn K mainGlobals "_law_days" = some (some (.ref f7)))
    (l7 : K.lookup f7 = some ⟨oc7, od7, .func (PySem.W.fnOf "_law_days" "_law_days" (defArgs s__law_days) (defBody s__law_days) (defScope s__law_days) .none kV7 dc7 pm7 an7 cd7 ct7), sl7⟩)
    (c7 : PySem.W.codeIn K cd7 "_law_days" = true)
    (k7 : PySem.W.keepIn K (.ref f7) = true)
    (a8 : PySem.W.nsIn K mainGlobals "_law_spoilt" = some (some (.ref f8)))
    (l8 : K.lookup f8 = some ⟨oc8, od8, .func (PySem.W.fnOf "_law_spoilt" "_law_spoilt" (defArgs s__law_spoilt) (defBody s__law_spoilt) (defScope s__law_spoilt) .none kV8 dc8 pm8 an8 cd8 ct8), sl8⟩)
    (c8 : PySem.W.codeIn K cd8 "_law_spoilt" = true)
    (k8 : PySem.W.keepIn K (.ref f8) = true)
    (a9 : PySem.W.nsIn K mainGlobals "_law_is_number" = some (some (.ref f9)))
    (l9 : K.lookup f9 = some ⟨oc9, od9, .func (PySem.W.fnOf "_law_is_number" "_law_is_number" (defArgs s__law_is_number) (defBody s__law_is_number) (defScope s__law_is_number) .none kV9 dc9 pm9 an9 cd9 ct9), sl9⟩)
    (c9 : PySem.W.codeIn K cd9 "_law_is_number" = true)
    (k9 : PySem.W.keepIn K (.ref f9) = true)
    (a10 : PySem.W.nsIn K mainGlobals "_law_fault" = some (some (.ref f10)))
    (l10 : K.lookup f10 = some ⟨oc10, od10, .func (PySem.W.fnOf "_law_fault" "_law_fault" (defArgs s__law_fault) (defBody s__law_fault) (defScope s__law_fault) .none kV10 dc10 pm10 an10 cd10 ct10), sl10⟩)
    (c10 : PySem.W.codeIn K cd10 "_law_fault" = true)
    (k10 : PySem.W.keepIn K (.ref f10) = true)
    (a11 : PySem.W.nsIn K mainGlobals "_law_due" = some (some (.ref f11)))
    (l11 : K.lookup f11 = some ⟨oc11, od11, .func (PySem.W.fnOf "_law_due" "_law_due" (defArgs s__law_due) (defBody s__law_due) (defScope s__law_due) .none kV11 dc11 pm11 an11 cd11 ct11), sl11⟩)
    (c11 : PySem.W.codeIn K cd11 "_law_due" = true)
    (k11 : PySem.W.keepIn K (.ref f11) = true)
    (a12 : PySem.W.nsIn K mainGlobals "_law_given" = some (some (.ref f12)))
    (l12 : K.lookup f12 = some ⟨oc12, od12, .func (PySem.W.fnOf "_law_given" "_law_given" (defArgs s__law_given) (defBody s__law_given) (defScope s__law_given) .none kV12 dc12 pm12 an12 cd12 ct12), sl12⟩)
    (c12 : PySem.W.codeIn K cd12 "_law_given" = true)
    (k12 : PySem.W.keepIn K (.ref f12) = true)
    (a13 : PySem.W.nsIn K mainGlobals "cost_of" = some (some (.ref f13)))
    (l13 : K.lookup f13 = some ⟨oc13, od13, .func (PySem.W.fnOf "cost_of" "cost_of" (defArgs s_cost_of) (defBody s_cost_of) (defScope s_cost_of) .none kV13 dc13 pm13 an13 cd13 ct13), sl13⟩)
    (c13 : PySem.W.codeIn K cd13 "cost_of" = true)
    (k13 : PySem.W.keepIn K (.ref f13) = true)
    (a14 : PySem.W.nsIn K mainGlobals "is_row" = some (some (.ref f14)))
    (l14 : K.lookup f14 = some ⟨oc14, od14, .func (PySem.W.fnOf "is_row" "is_row" (defArgs s_is_row) (defBody s_is_row) (defScope s_is_row) .none kV14 dc14 pm14 an14 cd14 ct14), sl14⟩)
    (c14 : PySem.W.codeIn K cd14 "is_row" = true)
    (k14 : PySem.W.keepIn K (.ref f14) = true)
    (a15 : PySem.W.nsIn K mainGlobals "is_number" = some (some (.ref f15)))
    (l15 : K.lookup f15 = some ⟨oc15, od15, .func (PySem.W.fnOf "is_number" "is_number" (defArgs s_is_number) (defBody s_is_number) (defScope s_is_number) .none kV15 dc15 pm15 an15 cd15 ct15), sl15⟩)
    (c15 : PySem.W.codeIn K cd15 "is_number" = true)
    (k15 : PySem.W.keepIn K (.ref f15) = true)
    (a16 : PySem.W.nsIn K mainGlobals "check_frame" = some (some (.ref f16)))
    (l16 : K.lookup f16 = some ⟨oc16, od16, .func (PySem.W.fnOf "check_frame" "check_frame" (defArgs s_check_frame) (defBody s_check_frame) (defScope s_check_frame) .none kV16 dc16 pm16 an16 cd16 ct16), sl16⟩)
    (c16 : PySem.W.codeIn K cd16 "check_frame" = true)
    (k16 : PySem.W.keepIn K (.ref f16) = true)
    (a17 : PySem.W.nsIn K mainGlobals "is_link" = some (some (.ref f17)))
    (l17 : K.lookup f17 = some ⟨oc17, od17, .func (PySem.W.fnOf "is_link" "is_link" (defArgs s_is_link) (defBody s_is_link) (defScope s_is_link) .none kV17 dc17 pm17 an17 cd17 ct17), sl17⟩)
    (c17 : PySem.W.codeIn K cd17 "is_link" = true)
    (k17 : PySem.W.keepIn K (.ref f17) = true)
    (a18 : PySem.W.nsIn K mainGlobals "check_house" = some (some (.ref f18)))
    (l18 : K.lookup f18 = some ⟨oc18, od18, .func (PySem.W.fnOf "check_house" "check_house" (defArgs s_check_house) (defBody s_check_house) (defScope s_check_house) .none kV18 dc18 pm18 an18 cd18 ct18), sl18⟩)
    (c18 : PySem.W.codeIn K cd18 "check_house" = true)
    (k18 : PySem.W.keepIn K (.ref f18) = true)
    (a19 : PySem.W.nsIn K mainGlobals "first_fault" = some (some (.ref f19)))
    (l19 : K.lookup f19 = some ⟨oc19, od19, .func (PySem.W.fnOf "first_fault" "first_fault" (defArgs s_first_fault) (defBody s_first_fault) (defScope s_first_fault) .none kV19 dc19 pm19 an19 cd19 ct19), sl19⟩)
    (c19 : PySem.W.codeIn K cd19 "first_fault" = true)
    (k19 : PySem.W.keepIn K (.ref f19) = true)
    (a20 : PySem.W.nsIn K mainGlobals "check_choice" = some (some (.ref f20)))
    (l20 : K.lookup f20 = some ⟨oc20, od20, .func (PySem.W.fnOf "check_choice" "check_choice" (defArgs s_check_choice) (defBody s_check_choice) (defScope s_check_choice) .none kV20 dc20 pm20 an20 cd20 ct20), sl20⟩)
    (c20 : PySem.W.codeIn K cd20 "check_choice" = true)
    (k20 : PySem.W.keepIn K (.ref f20) = true)
    (a21 : PySem.W.nsIn K mainGlobals "check_kept" = some (some (.ref f21)))
    (l21 : K.lookup f21 = some ⟨oc21, od21, .func (PySem.W.fnOf "check_kept" "check_kept" (defArgs s_check_kept) (defBody s_check_kept) (defScope s_check_kept) .none kV21 dc21 pm21 an21 cd21 ct21), sl21⟩)
    (c21 : PySem.W.codeIn K cd21 "check_kept" = true)
    (k21 : PySem.W.keepIn K (.ref f21) = true)
    (a22 : PySem.W.nsIn K mainGlobals "total_size" = some (some (.ref f22)))
    (l22 : K.lookup f22 = some ⟨oc22, od22, .func (PySem.W.fnOf "total_size" "total_size" (defArgs s_total_size) (defBody s_total_size) (defScope s_total_size) .none kV22 dc22 pm22 an22 cd22 ct22), sl22⟩)
    (c22 : PySem.W.codeIn K cd22 "total_size" = true)
    (k22 : PySem.W.keepIn K (.ref f22) = true)
    (a23 : PySem.W.nsIn K mainGlobals "enters" = some (some (.ref f23)))
    (l23 : K.lookup f23 = some ⟨oc23, od23, .func (PySem.W.fnOf "enters" "enters" (defArgs s_enters) (defBody s_enters) (defScope s_enters) .none kV23 dc23 pm23 an23 cd23 ct23), sl23⟩)
    (c23 : PySem.W.codeIn K cd23 "enters" = true)
    (k23 : PySem.W.keepIn K (.ref f23) = true)
    (a24 : PySem.W.nsIn K mainGlobals "entering_among" = some (some (.ref f24)))
    (l24 : K.lookup f24 = some ⟨oc24, od24, .func (PySem.W.fnOf "entering_among" "entering_among" (defArgs s_entering_among) (defBody s_entering_among) (defScope s_entering_among) .none kV24 dc24 pm24 an24 cd24 ct24), sl24⟩)
    (c24 : PySem.W.codeIn K cd24 "entering_among" = true)
    (k24 : PySem.W.keepIn K (.ref f24) = true)
    (a25 : PySem.W.nsIn K mainGlobals "entering" = some (some (.ref f25)))
    (l25 : K.lookup f25 = some ⟨oc25, od25, .func (PySem.W.fnOf "entering" "entering" (defArgs s_entering) (defBody s_entering) (defScope s_entering) .none kV25 dc25 pm25 an25 cd25 ct25), sl25⟩)
    (c25 : PySem.W.codeIn K cd25 "entering" = true)
    (k25 : PySem.W.keepIn K (.ref f25) = true)
    (a26 : PySem.W.nsIn K mainGlobals "part_of" = some (some (.ref f26)))
    (l26 : K.lookup f26 = some ⟨oc26, od26, .func (PySem.W.fnOf "part_of" "part_of" (defArgs s_part_of) (defBody s_part_of) (defScope s_part_of) .none kV26 dc26 pm26 an26 cd26 ct26), sl26⟩)
    (c26 : PySem.W.codeIn K cd26 "part_of" = true)
    (k26 : PySem.W.keepIn K (.ref f26) = true)
    (a27 : PySem.W.nsIn K mainGlobals "_law_told" = some (some (.ref f27)))
    (l27 : K.lookup f27 = some ⟨oc27, od27, .func (PySem.W.fnOf "_law_told" "_law_told" (defArgs s__law_told) (defBody s__law_told) (defScope s__law_told) .none kV27 dc27 pm27 an27 cd27 ct27), sl27⟩)
    (c27 : PySem.W.codeIn K cd27 "_law_told" = true)
    (k27 : PySem.W.keepIn K (.ref f27) = true)
    (a28 : PySem.W.nsIn K mainGlobals "_law_same" = some (some (.ref f28)))
    (l28 : K.lookup f28 = some ⟨oc28, od28, .func (PySem.W.fnOf "_law_same" "_law_same" (defArgs s__law_same) (defBody s__law_same) (defScope s__law_same) .none kV28 dc28 pm28 an28 cd28 ct28), sl28⟩)
    (c28 : PySem.W.codeIn K cd28 "_law_same" = true)
    (k28 : PySem.W.keepIn K (.ref f28) = true)
    (a29 : PySem.W.nsIn K mainGlobals "law" = some (some (.ref f29)))
    (l29 : K.lookup f29 = some ⟨oc29, od29, .func (PySem.W.fnOf "law" "law" (defArgs s_law) (defBody s_law) (defScope s_law) .none kV29 dc29 pm29 an29 cd29 ct29), sl29⟩)
    (c29 : PySem.W.codeIn K cd29 "law" = true)
    (k29 : PySem.W.keepIn K (.ref f29) = true)
    (z0 : PySem.W.nsIn K mainGlobals "int" = some none)
    (z1 : PySem.W.nsIn K mainGlobals "range" = some none)
    (z2 : PySem.W.nsIn K mainGlobals "len" = some none)
    (z3 : PySem.W.nsIn K mainGlobals "max" = some none)
    (z4 : PySem.W.nsIn K mainGlobals "list" = some none)
    (z5 : PySem.W.nsIn K mainGlobals "reversed" = some none)
    (z6 : PySem.W.nsIn K mainGlobals "isinstance" = some none)
    (z7 : PySem.W.nsIn K mainGlobals "bool" = some none)
    (z8 : PySem.W.nsIn K mainGlobals "tuple" = some none)
    (z9 : PySem.W.nsIn K mainGlobals "sum" = some none)
    (z10 : PySem.W.nsIn K mainGlobals "enumerate" = some none)
    (z11 : PySem.W.nsIn K mainGlobals "str" = some none)
    (z12 : PySem.W.nsIn K mainGlobals "repr" = some none)
    (n0 : PySem.W.nsIn K mainGlobals "DAYS_LIMIT" = some (some (.int 10 t0)))
    (n1 : PySem.W.nsIn K mainGlobals "COPIES_LIMIT" = some (some (.int 30 t1)))
    (n2 : PySem.W.nsIn K mainGlobals "SIZE_LIMIT" = some (some (.int 999 t2)))
    (xs : PySem.W.nsIn K mainGlobals "super" = some none)
    (xo : PySem.W.nsIn K PySem.cStatics "thirdparty.any" = some none)
    (xt : (l.prog.main.scope.names.lookup ("super" : Str)).isSome = false)
    (xm_BadHouse : PySem.W.nsIn K mainGlobals "BadHouse" = some (some (.ref C_BadHouse)))
    (xm_TooMany : PySem.W.nsIn K mainGlobals "TooMany" = some (some (.ref C_TooMany)))
    (xm_BadChoice : PySem.W.nsIn K mainGlobals "BadChoice" = some (some (.ref C_BadChoice)))
    (xm_VaultError : PySem.W.nsIn K mainGlobals "VaultError" = some (some (.ref C_VaultError)))
    (xl_BadHouse : K.lookup C_BadHouse = some (excClassObj nm_BadHouse qn_BadHouse C_BadHouse N_BadHouse bs_BadHouse bm_BadHouse true sn_BadHouse sub_BadHouse ab_BadHouse col_BadHouse dd_BadHouse k0_BadHouse k1_BadHouse k2_BadHouse k3_BadHouse k5_BadHouse "ValueError.__new__"))
    (xb_BadHouse : PySem.HandSPX.refsVE bm_BadHouse = true)
    (xsa_BadHouse : PySem.W.findIn K (.ref C_BadHouse) "__setattr__" = some (some (.builtin "object.__setattr__")))
    (xex_BadHouse : PySem.W.subIn K (.ref C_BadHouse) (.type "BaseException") = some true)
    (xty_BadHouse : PySem.W.typeIn K (.ref C_BadHouse) = some (.type "type"))
    (xkp_BadHouse : PySem.W.keepIn K (.ref C_BadHouse) = true)
    (xic_BadHouse : PySem.W.findIn K (.ref C_BadHouse) "__init__" = some (some (.ref fI_BadHouse)))
    (xti_BadHouse : PySem.W.typeIn K (.ref fI_BadHouse) = some (.type "function"))
    (xlf_BadHouse : K.lookup fI_BadHouse = some ⟨ocI_BadHouse, odI_BadHouse, .func (PySem.W.ksFn "__init__" "BadHouse.__init__" (defArgs si_BadHouse) (defBody si_BadHouse) (defScope si_BadHouse) .none kVI_BadHouse dcI_BadHouse pmI_BadHouse anI_BadHouse (.ref cda_BadHouse) ctI_BadHouse cc_BadHouse), osI_BadHouse⟩)
    (xcd_BadHouse : PySem.W.codeIn K (.ref cda_BadHouse) "BadHouse.__init__" = true)
    (xlc_BadHouse : K.lookup cda_BadHouse = some ⟨ccl_BadHouse, cdd_BadHouse, .fields vs_BadHouse, ccs_BadHouse⟩)
    (xv2_BadHouse : vs_BadHouse[2]? = some (.str file_BadHouse tf_BadHouse))
    (xff_BadHouse : ((l.prog.main.file : Str) == file_BadHouse) = true)
    (xle_BadHouse : K.lookup cc_BadHouse = some ⟨cl_BadHouse, cld_BadHouse, .cell (some (.ref C_BadHouse)), csl_BadHouse⟩)
    (xms_BadHouse : PySem.W.ks_superIn K C_BadHouse C_BadHouse "__init__" = some (some (.builtin "ValueError.__init__")))
    (xf_at_BadHouse : PySem.W.findIn K (.ref C_BadHouse) "at" = some none)
    (eg_BadHouse : PySem.W.findIn K (.ref C_BadHouse) "__getattribute__" = some (some (.builtin "BaseException.__getattribute__")))
    (ek_BadHouse : PySem.W.findIn K (.ref C_BadHouse) "__getattr__" = some none)
    (ed_BadHouse : PySem.W.hasDictIn K C_BadHouse = true)
    (ea_BadHouse : PySem.W.findIn K (.ref C_BadHouse) "__class__" = some (some (.builtin "object.__class__")))
    (em_BadHouse : PySem.W.mroIn K C_BadHouse (.type "object") = some true)
    (qk_BadChoice_BadHouse : PySem.W.kitOne K (.ref C_BadHouse) (.ref C_BadChoice) = some false)
    (qe_BadChoice_BadHouse : PySem.W.exmOne K (.ref C_BadHouse) (.ref C_BadChoice) = some false)
    (qk_VaultError_BadHouse : PySem.W.kitOne K (.ref C_BadHouse) (.ref C_VaultError) = some true)
    (qe_VaultError_BadHouse : PySem.W.exmOne K (.ref C_BadHouse) (.ref C_VaultError) = some true)
    (qk_BadHouse_BadHouse : PySem.W.kitOne K (.ref C_BadHouse) (.ref C_BadHouse) = some true)
    (qe_BadHouse_BadHouse : PySem.W.exmOne K (.ref C_BadHouse) (.ref C_BadHouse) = some true)
    (xl_TooMany : K.lookup C_TooMany = some (excClassObj nm_TooMany qn_TooMany C_TooMany N_TooMany bs_TooMany bm_TooMany true sn_TooMany sub_TooMany ab_TooMany col_TooMany dd_TooMany k0_TooMany k1_TooMany k2_TooMany k3_TooMany k5_TooMany "ValueError.__new__"))
    (xb_TooMany : PySem.HandSPX.refsVE bm_TooMany = true)
    (xsa_TooMany : PySem.W.findIn K (.ref C_TooMany) "__setattr__" = some (some (.builtin "object.__setattr__")))
    (xex_TooMany : PySem.W.subIn K (.ref C_TooMany) (.type "BaseException") = some true)
    (xty_TooMany : PySem.W.typeIn K (.ref C_TooMany) = some (.type "type"))
    (xkp_TooMany : PySem.W.keepIn K (.ref C_TooMany) = true)
    (xic_TooMany : PySem.W.findIn K (.ref C_TooMany) "__init__" = some (some (.ref fI_TooMany)))
    (xti_TooMany : PySem.W.typeIn K (.ref fI_TooMany) = some (.type "function"))
    (xlf_TooMany : K.lookup fI_TooMany = some ⟨ocI_TooMany, odI_TooMany, .func (PySem.W.ksFn "__init__" "TooMany.__init__" (defArgs si_TooMany) (defBody si_TooMany) (defScope si_TooMany) .none kVI_TooMany dcI_TooMany pmI_TooMany anI_TooMany (.ref cda_TooMany) ctI_TooMany cc_TooMany), osI_TooMany⟩)
    (xcd_TooMany : PySem.W.codeIn K (.ref cda_TooMany) "TooMany.__init__" = true)
    (xlc_TooMany : K.lookup cda_TooMany = some ⟨ccl_TooMany, cdd_TooMany, .fields vs_TooMany, ccs_TooMany⟩)
    (xv2_TooMany : vs_TooMany[2]? = some (.str file_TooMany tf_TooMany))
    (xff_TooMany : ((l.prog.main.file : Str) == file_TooMany) = true)
    (xle_TooMany : K.lookup cc_TooMany = some ⟨cl_TooMany, cld_TooMany, .cell (some (.ref C_TooMany)), csl_TooMany⟩)
    (xms_TooMany : PySem.W.ks_superIn K C_TooMany C_TooMany "__init__" = some (some (.builtin "ValueError.__init__")))
    (xf_at_TooMany : PySem.W.findIn K (.ref C_TooMany) "at" = some none)
    (xf_limit_TooMany : PySem.W.findIn K (.ref C_TooMany) "limit" = some none)
    (eg_TooMany : PySem.W.findIn K (.ref C_TooMany) "__getattribute__" = some (some (.builtin "BaseException.__getattribute__")))
    (ek_TooMany : PySem.W.findIn K (.ref C_TooMany) "__getattr__" = some none)
    (ed_TooMany : PySem.W.hasDictIn K C_TooMany = true)
    (ea_TooMany : PySem.W.findIn K (.ref C_TooMany) "__class__" = some (some (.builtin "object.__class__")))
    (em_TooMany : PySem.W.mroIn K C_TooMany (.type "object") = some true)
    (qk_BadChoice_TooMany : PySem.W.kitOne K (.ref C_TooMany) (.ref C_BadChoice) = some false)
    (qe_BadChoice_TooMany : PySem.W.exmOne K (.ref C_TooMany) (.ref C_BadChoice) = some false)
    (qk_VaultError_TooMany : PySem.W.kitOne K (.ref C_TooMany) (.ref C_VaultError) = some true)
    (qe_VaultError_TooMany : PySem.W.exmOne K (.ref C_TooMany) (.ref C_VaultError) = some true)
    (qk_BadHouse_TooMany : PySem.W.kitOne K (.ref C_TooMany) (.ref C_BadHouse) = some false)
    (qe_BadHouse_TooMany : PySem.W.exmOne K (.ref C_TooMany) (.ref C_BadHouse) = some false)
    (xl_BadChoice : K.lookup C_BadChoice = some (excClassObj nm_BadChoice qn_BadChoice C_BadChoice N_BadChoice bs_BadChoice bm_BadChoice true sn_BadChoice sub_BadChoice ab_BadChoice col_BadChoice dd_BadChoice k0_BadChoice k1_BadChoice k2_BadChoice k3_BadChoice k5_BadChoice "ValueError.__new__"))
    (xb_BadChoice : PySem.HandSPX.refsVE bm_BadChoice = true)
    (xsa_BadChoice : PySem.W.findIn K (.ref C_BadChoice) "__setattr__" = some (some (.builtin "object.__setattr__")))
    (xex_BadChoice : PySem.W.subIn K (.ref C_BadChoice) (.type "BaseException") = some true)
    (xty_BadChoice : PySem.W.typeIn K (.ref C_BadChoice) = some (.type "type"))
    (xkp_BadChoice : PySem.W.keepIn K (.ref C_BadChoice) = true)
    (xic_BadChoice : PySem.W.findIn K (.ref C_BadChoice) "__init__" = some (some (.ref fI_BadChoice)))
    (xti_BadChoice : PySem.W.typeIn K (.ref fI_BadChoice) = some (.type "function"))
    (xlf_BadChoice : K.lookup fI_BadChoice = some ⟨ocI_BadChoice, odI_BadChoice, .func (PySem.W.ksFn "__init__" "BadChoice.__init__" (defArgs si_BadChoice) (defBody si_BadChoice) (defScope si_BadChoice) .none kVI_BadChoice dcI_BadChoice pmI_BadChoice anI_BadChoice (.ref cda_BadChoice) ctI_BadChoice cc_BadChoice), osI_BadChoice⟩)
    (xcd_BadChoice : PySem.W.codeIn K (.ref cda_BadChoice) "BadChoice.__init__" = true)
    (xlc_BadChoice : K.lookup cda_BadChoice = some ⟨ccl_BadChoice, cdd_BadChoice, .fields vs_BadChoice, ccs_BadChoice⟩)
    (xv2_BadChoice : vs_BadChoice[2]? = some (.str file_BadChoice tf_BadChoice))
    (xff_BadChoice : ((l.prog.main.file : Str) == file_BadChoice) = true)
    (xle_BadChoice : K.lookup cc_BadChoice = some ⟨cl_BadChoice, cld_BadChoice, .cell (some (.ref C_BadChoice)), csl_BadChoice⟩)
    (xms_BadChoice : PySem.W.ks_superIn K C_BadChoice C_BadChoice "__init__" = some (some (.builtin "ValueError.__init__")))
    (xf_at_BadChoice : PySem.W.findIn K (.ref C_BadChoice) "at" = some none)
    (eg_BadChoice : PySem.W.findIn K (.ref C_BadChoice) "__getattribute__" = some (some (.builtin "BaseException.__getattribute__")))
    (ek_BadChoice : PySem.W.findIn K (.ref C_BadChoice) "__getattr__" = some none)
    (ed_BadChoice : PySem.W.hasDictIn K C_BadChoice = true)
    (ea_BadChoice : PySem.W.findIn K (.ref C_BadChoice) "__class__" = some (some (.builtin "object.__class__")))
    (em_BadChoice : PySem.W.mroIn K C_BadChoice (.type "object") = some true)
    (qk_BadChoice_BadChoice : PySem.W.kitOne K (.ref C_BadChoice) (.ref C_BadChoice) = some true)
    (qe_BadChoice_BadChoice : PySem.W.exmOne K (.ref C_BadChoice) (.ref C_BadChoice) = some true)
    (qk_VaultError_BadChoice : PySem.W.kitOne K (.ref C_BadChoice) (.ref C_VaultError) = some true)
    (qe_VaultError_BadChoice : PySem.W.exmOne K (.ref C_BadChoice) (.ref C_VaultError) = some true)
    (qk_BadHouse_BadChoice : PySem.W.kitOne K (.ref C_BadChoice) (.ref C_BadHouse) = some false)
    (qe_BadHouse_BadChoice : PySem.W.exmOne K (.ref C_BadChoice) (.ref C_BadHouse) = some false)
    (en : PySem.W.specialIn K (.builtin "object.__class__") "__get__" = some (some (.builtin "getset_descriptor.__get__")))
    (et : PySem.W.takesIn K (.builtin "object.__class__") = some true) :
    ∃ fd : FuncData, (∀ (s : Shared) (u : Value), BindsTo s fd ⟨[u], []⟩ [("script", u)]) ∧ ∀ base : Heap, K.In base → base.Ns mainGlobals mg → FOkG l.prog w K mg base 13 fa fd ["script"] φ_law := by
  have e := hfa.symm.trans (PySem.W.mg_of X G a29)
  cases e
  have T : Txt mg := ⟨PySem.W.mg_none_of X G z0, PySem.W.mg_none_of X G z1, PySem.W.mg_none_of X G z2, PySem.W.mg_none_of X G z3, PySem.W.mg_none_of X G z4, PySem.W.mg_none_of X G z5, PySem.W.mg_none_of X G z6, PySem.W.mg_none_of X G z7, PySem.W.mg_none_of X G z8, PySem.W.mg_none_of X G z9, PySem.W.mg_none_of X G z10, PySem.W.mg_none_of X G z11, PySem.W.mg_none_of X G z12, ⟨_, PySem.W.mg_of X G n0⟩, ⟨_, PySem.W.mg_of X G n1⟩, ⟨_, PySem.W.mg_of X G n2⟩⟩
  have F0 := fun_mk (st := s__law_mixed) l0 c0 k0
  have B0 := F0.binds (ps := ["cell", "k"]) fun _ _ _ _ _ _ us hl => match us, hl with | [_, _], _ => rfl
  have F1 := fun_mk (st := s__law_row) l1 c1 k1
  have B1 := F1.binds (ps := ["cell", "count", "size"]) fun _ _ _ _ _ _ us hl => match us, hl with | [_, _, _], _ => rfl
  have F2 := fun_mk (st := s__law_order) l2 c2 k2
  have B2 := F2.binds (ps := ["cell", "days"]) fun _ _ _ _ _ _ us hl => match us, hl with | [_, _], _ => rfl
  have F3 := fun_mk (st := s__law_cell) l3 c3 k3
  have B3 := F3.binds (ps := ["script", "k"]) fun _ _ _ _ _ _ us hl => match us, hl with | [_, _], _ => rfl
  have F4 := fun_mk (st := s__law_base) l4 c4 k4
  have B4 := F4.binds (ps := ["style", "number", "day", "days"]) fun _ _ _ _ _ _ us hl => match us, hl with | [_, _, _, _], _ => rfl
  have F5 := fun_mk (st := s__law_house) l5 c5 k5
  have B5 := F5.binds (ps := ["script", "start", "most"]) fun _ _ _ _ _ _ us hl => match us, hl with | [_, _, _], _ => rfl
  have F6 := fun_mk (st := s__law_kept) l6 c6 k6
  have B6 := F6.binds (ps := ["cell", "many"]) fun _ _ _ _ _ _ us hl => match us, hl with | [_, _], _ => rfl
  have F7 := fun_mk (st := s__law_days) l7 c7 k7
  have B7 := F7.binds (ps := ["cell", "days"]) fun _ _ _ _ _ _ us hl => match us, hl with | [_, _], _ => rfl
  have F8 := fun_mk (st := s__law_spoilt) l8 c8 k8
  have B8 := F8.binds (ps := ["row", "cell", "high"]) fun _ _ _ _ _ _ us hl => match us, hl with | [_, _, _], _ => rfl
  have F9 := fun_mk (st := s__law_is_number) l9 c9 k9
  have B9 := F9.binds (ps := ["value", "low", "high"]) fun _ _ _ _ _ _ us hl => match us, hl with | [_, _, _], _ => rfl
  have F10 := fun_mk (st := s__law_fault) l10 c10 k10
  have B10 := F10.binds (ps := ["value", "low", "high"]) fun _ _ _ _ _ _ us hl => match us, hl with | [_, _, _], _ => rfl
  have F11 := fun_mk (st := s__law_due) l11 c11 k11
  have B11 := F11.binds (ps := ["which", "house", "kept", "days"]) fun _ _ _ _ _ _ us hl => match us, hl with | [_, _, _, _], _ => rfl
  have F12 := fun_mk (st := s__law_given) l12 c12 k12
  have B12 := F12.binds (ps := ["house", "number"]) fun _ _ _ _ _ _ us hl => match us, hl with | [_, _], _ => rfl
  have F13 := fun_mk (st := s_cost_of) l13 c13 k13
  have B13 := F13.binds (ps := ["copies", "kept"]) fun _ _ _ _ _ _ us hl => match us, hl with | [_, _], _ => rfl
  have F14 := fun_mk (st := s_is_row) l14 c14 k14
  have B14 := F14.binds (ps := ["value"]) fun _ _ _ _ _ _ us hl => match us, hl with | [_], _ => rfl
  have F15 := fun_mk (st := s_is_number) l15 c15 k15
  have B15 := F15.binds (ps := ["value", "low", "high"]) fun _ _ _ _ _ _ us hl => match us, hl with | [_, _, _], _ => rfl
  have F16 := fun_mk (st := s_check_frame) l16 c16 k16
  have B16 := F16.binds (ps := ["house"]) fun _ _ _ _ _ _ us hl => match us, hl with | [_], _ => rfl
  have F17 := fun_mk (st := s_is_link) l17 c17 k17
  have B17 := F17.binds (ps := ["days", "base", "day"]) fun _ _ _ _ _ _ us hl => match us, hl with | [_, _, _], _ => rfl
  have F18 := fun_mk (st := s_check_house) l18 c18 k18
  have B18 := F18.binds (ps := ["house"]) fun _ _ _ _ _ _ us hl => match us, hl with | [_], _ => rfl
  have F19 := fun_mk (st := s_first_fault) l19 c19 k19
  have B19 := F19.binds (ps := ["row", "low", "high"]) fun _ _ _ _ _ _ us hl => match us, hl with | [_, _, _], _ => rfl
  have F20 := fun_mk (st := s_check_choice) l20 c20 k20
  have B20 := F20.binds (ps := ["value", "low", "high"]) fun _ _ _ _ _ _ us hl => match us, hl with | [_, _, _], _ => rfl
  have F21 := fun_mk (st := s_check_kept) l21 c21 k21
  have B21 := F21.binds (ps := ["kept", "count"]) fun _ _ _ _ _ _ us hl => match us, hl with | [_, _], _ => rfl
  have F22 := fun_mk (st := s_total_size) l22 c22 k22
  have B22 := F22.binds (ps := ["house", "kept"]) fun _ _ _ _ _ _ us hl => match us, hl with | [_, _], _ => rfl
  have F23 := fun_mk (st := s_enters) l23 c23 k23
  have B23 := F23.binds (ps := ["copy", "days"]) fun _ _ _ _ _ _ us hl => match us, hl with | [_, _], _ => rfl
  have F24 := fun_mk (st := s_entering_among) l24 c24 k24
  have B24 := F24.binds (ps := ["copies", "kept", "days"]) fun _ _ _ _ _ _ us hl => match us, hl with | [_, _, _], _ => rfl
  have F25 := fun_mk (st := s_entering) l25 c25 k25
  have B25 := F25.binds (ps := ["house", "kept", "days"]) fun _ _ _ _ _ _ us hl => match us, hl with | [_, _, _], _ => rfl
  have F26 := fun_mk (st := s_part_of) l26 c26 k26
  have B26 := F26.binds (ps := ["house", "kept"]) fun _ _ _ _ _ _ us hl => match us, hl with | [_, _], _ => rfl
  have F27 := fun_mk (st := s__law_told) l27 c27 k27
  have B27 := F27.binds (ps := ["which", "house", "kept", "days"]) fun _ _ _ _ _ _ us hl => match us, hl with | [_, _, _, _], _ => rfl
  have F28 := fun_mk (st := s__law_same) l28 c28 k28
  have B28 := F28.binds (ps := ["value", "due"]) fun _ _ _ _ _ _ us hl => match us, hl with | [_, _], _ => rfl
  have F29 := fun_mk (st := s_law) l29 c29 k29
  have B29 := F29.binds (ps := ["script"]) fun _ _ _ _ _ _ us hl => match us, hl with | [_], _ => rfl
  have M_BadHouse := PySem.W.mg_of X G xm_BadHouse
  have M_TooMany := PySem.W.mg_of X G xm_TooMany
  have M_BadChoice := PySem.W.mg_of X G xm_BadChoice
  have M_VaultError := PySem.W.mg_of X G xm_VaultError
  have OX_BadHouse := oexC_mk xl_BadHouse xb_BadHouse xsa_BadHouse xex_BadHouse xty_BadHouse xkp_BadHouse
  have IX_BadHouse := iniC_mk (P := l.prog) (st := si_BadHouse) xlf_BadHouse xcd_BadHouse xlc_BadHouse xv2_BadHouse xff_BadHouse xle_BadHouse xo xms_BadHouse xt
  have R_BadHouse : ∀ base : Heap, Rz l.prog w K mg base "BadHouse" "at" := fun base => rz_mk OX_BadHouse IX_BadHouse M_BadHouse xic_BadHouse xti_BadHouse xf_at_BadHouse (PySem.W.mg_none_of X G xs) (fun _ _ _ _ => ⟨_, rfl⟩) sci_BadHouse rfl rfl (fun _ _ _ _ _ _ _ us hl => match us, hl with | [_, _], _ => rfl)
  have OX_TooMany := oexC_mk xl_TooMany xb_TooMany xsa_TooMany xex_TooMany xty_TooMany xkp_TooMany
  have IX_TooMany := iniC_mk (P := l.prog) (st := si_TooMany) xlf_TooMany xcd_TooMany xlc_TooMany xv2_TooMany xff_TooMany xle_TooMany xo xms_TooMany xt
  have R_TooMany : ∀ base : Heap, Rz l.prog w K mg base "TooMany" "limit" := fun base => rz_mk OX_TooMany IX_TooMany M_TooMany xic_TooMany xti_TooMany xf_limit_TooMany (PySem.W.mg_none_of X G xs) (fun _ _ _ _ => ⟨_, rfl⟩) sci_TooMany rfl rfl (fun _ _ _ _ _ _ _ us hl => match us, hl with | [_, _], _ => rfl)
  have OX_BadChoice := oexC_mk xl_BadChoice xb_BadChoice xsa_BadChoice xex_BadChoice xty_BadChoice xkp_BadChoice
  have IX_BadChoice := iniC_mk (P := l.prog) (st := si_BadChoice) xlf_BadChoice xcd_BadChoice xlc_BadChoice xv2_BadChoice xff_BadChoice xle_BadChoice xo xms_BadChoice xt
  have R_BadChoice : ∀ base : Heap, Rz l.prog w K mg base "BadChoice" "at" := fun base => rz_mk OX_BadChoice IX_BadChoice M_BadChoice xic_BadChoice xti_BadChoice xf_at_BadChoice (PySem.W.mg_none_of X G xs) (fun _ _ _ _ => ⟨_, rfl⟩) sci_BadChoice rfl rfl (fun _ _ _ _ _ _ _ us hl => match us, hl with | [_, _], _ => rfl)
  have E_BadHouse : EC1 K mg eflds ("BadHouse", C_BadHouse) := ⟨M_BadHouse, ⟨eg_BadHouse, ek_BadHouse, xex_BadHouse, ed_BadHouse, ea_BadHouse, en, et, em_BadHouse⟩, ⟨xf_at_BadHouse, trivial⟩⟩
  have E_TooMany : EC1 K mg eflds ("TooMany", C_TooMany) := ⟨M_TooMany, ⟨eg_TooMany, ek_TooMany, xex_TooMany, ed_TooMany, ea_TooMany, en, et, em_TooMany⟩, ⟨xf_at_TooMany, trivial⟩⟩
  have E_BadChoice : EC1 K mg eflds ("BadChoice", C_BadChoice) := ⟨M_BadChoice, ⟨eg_BadChoice, ek_BadChoice, xex_BadChoice, ed_BadChoice, ea_BadChoice, en, et, em_BadChoice⟩, ⟨xf_at_BadChoice, trivial⟩⟩
  have GE : ErrF K mg ecls eys eflds esub := errf_mk [("BadChoice", C_BadChoice), ("BadHouse", C_BadHouse), ("TooMany", C_TooMany)] [("BadChoice", .ref C_BadChoice, .ref C_BadChoice), ("VaultError", .ref C_VaultError, .ref C_VaultError), ("BadHouse", .ref C_BadHouse, .ref C_BadHouse)] ⟨E_BadChoice, E_BadHouse, E_TooMany, trivial⟩ ⟨⟨.inl M_BadChoice, .own _⟩, ⟨.inl M_VaultError, .own _⟩, ⟨.inl M_BadHouse, .own _⟩, trivial⟩ ⟨⟨⟨qk_BadChoice_BadChoice, qe_BadChoice_BadChoice⟩, ⟨qk_VaultError_BadChoice, qe_VaultError_BadChoice⟩, ⟨qk_BadHouse_BadChoice, qe_BadHouse_BadChoice⟩, trivial⟩, ⟨⟨qk_BadChoice_BadHouse, qe_BadChoice_BadHouse⟩, ⟨qk_VaultError_BadHouse, qe_VaultError_BadHouse⟩, ⟨qk_BadHouse_BadHouse, qe_BadHouse_BadHouse⟩, trivial⟩, ⟨⟨qk_BadChoice_TooMany, qe_BadChoice_TooMany⟩, ⟨qk_VaultError_TooMany, qe_VaultError_TooMany⟩, ⟨qk_BadHouse_TooMany, qe_BadHouse_TooMany⟩, trivial⟩, trivial⟩
  refine ⟨PySem.W.fnOf "law" "law" (defArgs s_law) (defBody s_law) (defScope s_law) .none kV29 dc29 pm29 an29 cd29 ct29, fun s v => .of_eq rfl, fun base _ _ => ?_⟩
  have D0 := Df.mk' (x := "_law_mixed") F0 (PySem.W.mg_of X G a0) B0 (ok__law_mixed (P := l.prog) (w := w) (base := base) F0 T )
  have D1 := Df.mk' (x := "_law_row") F1 (PySem.W.mg_of X G a1) B1 (ok__law_row (P := l.prog) (w := w) (base := base) F1 T D0)
  have D2 := Df.mk' (x := "_law_order") F2 (PySem.W.mg_of X G a2) B2 (ok__law_order (P := l.prog) (w := w) (base := base) F2 T D1)
  have D3 := Df.mk' (x := "_law_cell") F3 (PySem.W.mg_of X G a3) B3 (ok__law_cell (P := l.prog) (w := w) (base := base) F3 T D0)
  have D4 := Df.mk' (x := "_law_base") F4 (PySem.W.mg_of X G a4) B4 (ok__law_base (P := l.prog) (w := w) (base := base) F4 T )
  have D5 := Df.mk' (x := "_law_house") F5 (PySem.W.mg_of X G a5) B5 (ok__law_house (P := l.prog) (w := w) (base := base) F5 T D1 D2 D3 D4)
  have D6 := Df.mk' (x := "_law_kept") F6 (PySem.W.mg_of X G a6) B6 (ok__law_kept (P := l.prog) (w := w) (base := base) F6 T D1)
  have D7 := Df.mk' (x := "_law_days") F7 (PySem.W.mg_of X G a7) B7 (ok__law_days (P := l.prog) (w := w) (base := base) F7 T D1)
  have D8 := Df.mk' (x := "_law_spoilt") F8 (PySem.W.mg_of X G a8) B8 (ok__law_spoilt (P := l.prog) (w := w) (base := base) F8 T D1)
  have D9 := Df.mk' (x := "_law_is_number") F9 (PySem.W.mg_of X G a9) B9 (ok__law_is_number (P := l.prog) (w := w) (base := base) F9 T )
  have D10 := Df.mk' (x := "_law_fault") F10 (PySem.W.mg_of X G a10) B10 (ok__law_fault (P := l.prog) (w := w) (base := base) F10 T D9)
  have D11 := Df.mk' (x := "_law_due") F11 (PySem.W.mg_of X G a11) B11 (ok__law_due (P := l.prog) (w := w) (base := base) F11 T D10)
  have D12 := Df.mk' (x := "_law_given") F12 (PySem.W.mg_of X G a12) B12 (ok__law_given (P := l.prog) (w := w) (base := base) F12 T )
  have D13 := Df.mk' (x := "cost_of") F13 (PySem.W.mg_of X G a13) B13 (ok_cost_of (P := l.prog) (w := w) (base := base) F13 T )
  have D14 := Df.mk' (x := "is_row") F14 (PySem.W.mg_of X G a14) B14 (ok_is_row (P := l.prog) (w := w) (base := base) F14 T )
  have D15 := Df.mk' (x := "is_number") F15 (PySem.W.mg_of X G a15) B15 (ok_is_number (P := l.prog) (w := w) (base := base) F15 T )
  have D16 := Df.mk' (x := "check_frame") F16 (PySem.W.mg_of X G a16) B16 (ok_check_frame (P := l.prog) (w := w) (base := base) F16 T (R_BadHouse base) (R_TooMany base) D14 D15)
  have D17 := Df.mk' (x := "is_link") F17 (PySem.W.mg_of X G a17) B17 (ok_is_link (P := l.prog) (w := w) (base := base) F17 T D15)
  have D18 := Df.mk' (x := "check_house") F18 (PySem.W.mg_of X G a18) B18 (ok_check_house (P := l.prog) (w := w) (base := base) F18 T (R_BadHouse base) D16 D14 D17 D15)
  have D19 := Df.mk' (x := "first_fault") F19 (PySem.W.mg_of X G a19) B19 (ok_first_fault (P := l.prog) (w := w) (base := base) F19 T D15)
  have D20 := Df.mk' (x := "check_choice") F20 (PySem.W.mg_of X G a20) B20 (ok_check_choice (P := l.prog) (w := w) (base := base) F20 T (R_BadChoice base) D19 D14)
  have D21 := Df.mk' (x := "check_kept") F21 (PySem.W.mg_of X G a21) B21 (ok_check_kept (P := l.prog) (w := w) (base := base) F21 T D20)
  have D22 := Df.mk' (x := "total_size") F22 (PySem.W.mg_of X G a22) B22 (ok_total_size (P := l.prog) (w := w) (base := base) F22 T D13 D18 D21)
  have D23 := Df.mk' (x := "enters") F23 (PySem.W.mg_of X G a23) B23 (ok_enters (P := l.prog) (w := w) (base := base) F23 T )
  have D24 := Df.mk' (x := "entering_among") F24 (PySem.W.mg_of X G a24) B24 (ok_entering_among (P := l.prog) (w := w) (base := base) F24 T D23)
  have D25 := Df.mk' (x := "entering") F25 (PySem.W.mg_of X G a25) B25 (ok_entering (P := l.prog) (w := w) (base := base) F25 T D18 D21 D20 D24)
  have D26 := Df.mk' (x := "part_of") F26 (PySem.W.mg_of X G a26) B26 (ok_part_of (P := l.prog) (w := w) (base := base) F26 T D18 D21)
  have D27 := Df.mk' (x := "_law_told") F27 (PySem.W.mg_of X G a27) B27 (ok__law_told (P := l.prog) (w := w) (base := base) F27 T GE D22 D25 D26)
  have D28 := Df.mk' (x := "_law_same") F28 (PySem.W.mg_of X G a28) B28 (ok__law_same (P := l.prog) (w := w) (base := base) F28 T  (PySem.W.mg_of X G a28) B28)
  exact ok_law F29 T D1 D5 D6 D7 D3 D8 D11 D12 D27 D28
end K02
open PySem PySem.W PyProof.Rows in
set_option maxRecDepth 100000 in
set_option maxHeartbeats 0 in
theorem PySem.Challenge.cw_reelvault_k02_parts_of_a_house_holds : PySem.Challenge.rw_reelvault_k02_parts_of_a_house.Holds := by
  w_on; o_law; k_head; (case hw => w_witness2)
  k_fill
  refine VL.walk_ofG (l := PySem.Challenge.rw_reelvault_k02_parts_of_a_house) (k := 13) (x := "script") (φ := K02.φ_law) rfl rfl ⟨rfl, by decide, by decide⟩ (fun w h Y => PySem.W.kIn_of Y) ?F (fun ns _ => K02.law_s ns)
  case F =>
    intro w mg fa h KX G hmg
    refine' K02.all_mk KX G hmg ?a0 ?l0 ?c0 ?k0 ?a1 ?l1 ?c1 ?k1 ?a2 ?l2 ?c2 ?k2 ?a3 ?l3 ?c3 ?k3 ?a4 ?l4 ?c4 ?k4 ?a5 ?l5 ?c5 ?k5 ?a6 ?l6 ?c6 ?k6 ?a7 ?l7 ?c7 ?k7 ?a8 ?l8 ?c8 ?k8 ?a9 ?l9 ?c9 ?k9 ?a10 ?l10 ?c10 ?k10 ?a11 ?l11 ?c11 ?k11 ?a12 ?l12 ?c12 ?k12 ?a13 ?l13 ?c13 ?k13 ?a14 ?l14 ?c14 ?k14 ?a15 ?l15 ?c15 ?k15 ?a16 ?l16 ?c16 ?k16 ?a17 ?l17 ?c17 ?k17 ?a18 ?l18 ?c18 ?k18 ?a19 ?l19 ?c19 ?k19 ?a20 ?l20 ?c20 ?k20 ?a21 ?l21 ?c21 ?k21 ?a22 ?l22 ?c22 ?k22 ?a23 ?l23 ?c23 ?k23 ?a24 ?l24 ?c24 ?k24 ?a25 ?l25 ?c25 ?k25 ?a26 ?l26 ?c26 ?k26 ?a27 ?l27 ?c27 ?k27 ?a28 ?l28 ?c28 ?k28 ?a29 ?l29 ?c29 ?k29 ?z0 ?z1 ?z2 ?z3 ?z4 ?z5 ?z6 ?z7 ?z8 ?z9 ?z10 ?z11 ?z12 ?n0 ?n1 ?n2 ?xs ?xo ?xt ?xm_BadHouse ?xm_TooMany ?xm_BadChoice ?xm_VaultError ?xl_BadHouse ?xb_BadHouse ?xsa_BadHouse ?xex_BadHouse ?xty_BadHouse ?xkp_BadHouse ?xic_BadHouse ?xti_BadHouse ?xlf_BadHouse ?xcd_BadHouse ?xlc_BadHouse ?xv2_BadHouse ?xff_BadHouse ?xle_BadHouse ?xms_BadHouse ?xf_at_BadHouse ?eg_BadHouse ?ek_BadHouse ?ed_BadHouse ?ea_BadHouse ?em_BadHouse ?qk_BadChoice_BadHouse ?qe_BadChoice_BadHouse ?qk_VaultError_BadHouse ?qe_VaultError_BadHouse ?qk_BadHouse_BadHouse ?qe_BadHouse_BadHouse ?xl_TooMany ?xb_TooMany ?xsa_TooMany ?xex_TooMany ?xty_TooMany ?xkp_TooMany ?xic_TooMany ?xti_TooMany ?xlf_TooMany ?xcd_TooMany ?xlc_TooMany ?xv2_TooMany ?xff_TooMany ?xle_TooMany ?xms_TooMany ?xf_at_TooMany ?xf_limit_TooMany ?eg_TooMany ?ek_TooMany ?ed_TooMany ?ea_TooMany ?em_TooMany ?qk_BadChoice_TooMany ?qe_BadChoice_TooMany ?qk_VaultError_TooMany ?qe_VaultError_TooMany ?qk_BadHouse_TooMany ?qe_BadHouse_TooMany ?xl_BadChoice ?xb_BadChoice ?xsa_BadChoice ?xex_BadChoice ?xty_BadChoice ?xkp_BadChoice ?xic_BadChoice ?xti_BadChoice ?xlf_BadChoice ?xcd_BadChoice ?xlc_BadChoice ?xv2_BadChoice ?xff_BadChoice ?xle_BadChoice ?xms_BadChoice ?xf_at_BadChoice ?eg_BadChoice ?ek_BadChoice ?ed_BadChoice ?ea_BadChoice ?em_BadChoice ?qk_BadChoice_BadChoice ?qe_BadChoice_BadChoice ?qk_VaultError_BadChoice ?qe_VaultError_BadChoice ?qk_BadHouse_BadChoice ?qe_BadHouse_BadChoice ?en ?et
    (case a0 => k_is)
    (case l0 => k_is)
    (case c0 => k_is)
    (case k0 => k_is)
    (case a1 => k_is)
    (case l1 => k_is)
    (case c1 => k_is)
    (case k1 => k_is)
    (case a2 => k_is)
    (case l2 => k_is)
    (case c2 => k_is)
    (case k2 => k_is)
    (case a3 => k_is)
    (case l3 => k_is)
    (case c3 => k_is)
    (case k3 => k_is)
    (case a4 => k_is)
    (case l4 => k_is)
    (case c4 => k_is)
    (case k4 => k_is)
    (case a5 => k_is)
    (case l5 => k_is)
    (case c5 => k_is)
    (case k5 => k_is)
    (case a6 => k_is)
    (case l6 => k_is)
    (case c6 => k_is)
    (case k6 => k_is)
    (case a7 => k_is)
    (case l7 => k_is)
    (case c7 => k_is)
    (case k7 => k_is)
    (case a8 => k_is)
    (case l8 => k_is)
    (case c8 => k_is)
    (case k8 => k_is)
    (case a9 => k_is)
    (case l9 => k_is)
    (case c9 => k_is)
    (case k9 => k_is)
    (case a10 => k_is)
    (case l10 => k_is)
    (case c10 => k_is)
    (case k10 => k_is)
    (case a11 => k_is)
    (case l11 => k_is)
    (case c11 => k_is)
    (case k11 => k_is)
    (case a12 => k_is)
    (case l12 => k_is)
    (case c12 => k_is)
    (case k12 => k_is)
    (case a13 => k_is)
    (case l13 => k_is)
    (case c13 => k_is)
    (case k13 => k_is)
    (case a14 => k_is)
    (case l14 => k_is)
    (case c14 => k_is)
    (case k14 => k_is)
    (case a15 => k_is)
    (case l15 => k_is)
    (case c15 => k_is)
    (case k15 => k_is)
    (case a16 => k_is)
    (case l16 => k_is)
    (case c16 => k_is)
    (case k16 => k_is)
    (case a17 => k_is)
    (case l17 => k_is)
    (case c17 => k_is)
    (case k17 => k_is)
    (case a18 => k_is)
    (case l18 => k_is)
    (case c18 => k_is)
    (case k18 => k_is)
    (case a19 => k_is)
    (case l19 => k_is)
    (case c19 => k_is)
    (case k19 => k_is)
    (case a20 => k_is)
    (case l20 => k_is)
    (case c20 => k_is)
    (case k20 => k_is)
    (case a21 => k_is)
    (case l21 => k_is)
    (case c21 => k_is)
    (case k21 => k_is)
    (case a22 => k_is)
    (case l22 => k_is)
    (case c22 => k_is)
    (case k22 => k_is)
    (case a23 => k_is)
    (case l23 => k_is)
    (case c23 => k_is)
    (case k23 => k_is)
    (case a24 => k_is)
    (case l24 => k_is)
    (case c24 => k_is)
    (case k24 => k_is)
    (case a25 => k_is)
    (case l25 => k_is)
    (case c25 => k_is)
    (case k25 => k_is)
    (case a26 => k_is)
    (case l26 => k_is)
    (case c26 => k_is)
    (case k26 => k_is)
    (case a27 => k_is)
    (case l27 => k_is)
    (case c27 => k_is)
    (case k27 => k_is)
    (case a28 => k_is)
    (case l28 => k_is)
    (case c28 => k_is)
    (case k28 => k_is)
    (case a29 => k_is)
    (case l29 => k_is)
    (case c29 => k_is)
    (case k29 => k_is)
    (case z0 => k_is)
    (case z1 => k_is)
    (case z2 => k_is)
    (case z3 => k_is)
    (case z4 => k_is)
    (case z5 => k_is)
    (case z6 => k_is)
    (case z7 => k_is)
    (case z8 => k_is)
    (case z9 => k_is)
    (case z10 => k_is)
    (case z11 => k_is)
    (case z12 => k_is)
    (case n0 => k_is)
    (case n1 => k_is)
    (case n2 => k_is)
    (case xs => k_is)
    (case xo => k_is)
    (case xt => exact rfl)
    (case xm_BadHouse => k_is)
    (case xm_TooMany => k_is)
    (case xm_BadChoice => k_is)
    (case xm_VaultError => k_is)
    (case xl_BadHouse => k_is)
    (case xb_BadHouse => exact rfl)
    (case xsa_BadHouse => k_is)
    (case xex_BadHouse => k_is)
    (case xty_BadHouse => k_is)
    (case xkp_BadHouse => k_is)
    (case xic_BadHouse => k_is)
    (case xti_BadHouse => k_is)
    (case xlf_BadHouse => k_is)
    (case xcd_BadHouse => k_is)
    (case xlc_BadHouse => k_is)
    (case xv2_BadHouse => exact rfl)
    (case xff_BadHouse => first | exact rfl | decide +kernel)
    (case xle_BadHouse => k_is)
    (case xms_BadHouse => ks_is)
    (case xf_at_BadHouse => k_is)
    (case eg_BadHouse => k_is)
    (case ek_BadHouse => k_is)
    (case ed_BadHouse => k_is)
    (case ea_BadHouse => k_is)
    (case em_BadHouse => k_is)
    (case qk_BadChoice_BadHouse => kit_is)
    (case qe_BadChoice_BadHouse => kts_exm)
    (case qk_VaultError_BadHouse => kit_is)
    (case qe_VaultError_BadHouse => kts_exm)
    (case qk_BadHouse_BadHouse => kit_is)
    (case qe_BadHouse_BadHouse => kts_exm)
    (case xl_TooMany => k_is)
    (case xb_TooMany => exact rfl)
    (case xsa_TooMany => k_is)
    (case xex_TooMany => k_is)
    (case xty_TooMany => k_is)
    (case xkp_TooMany => k_is)
    (case xic_TooMany => k_is)
    (case xti_TooMany => k_is)
    (case xlf_TooMany => k_is)
    (case xcd_TooMany => k_is)
    (case xlc_TooMany => k_is)
    (case xv2_TooMany => exact rfl)
    (case xff_TooMany => first | exact rfl | decide +kernel)
    (case xle_TooMany => k_is)
    (case xms_TooMany => ks_is)
    (case xf_at_TooMany => k_is)
    (case xf_limit_TooMany => k_is)
    (case eg_TooMany => k_is)
    (case ek_TooMany => k_is)
    (case ed_TooMany => k_is)
    (case ea_TooMany => k_is)
    (case em_TooMany => k_is)
    (case qk_BadChoice_TooMany => kit_is)
    (case qe_BadChoice_TooMany => kts_exm)
    (case qk_VaultError_TooMany => kit_is)
    (case qe_VaultError_TooMany => kts_exm)
    (case qk_BadHouse_TooMany => kit_is)
    (case qe_BadHouse_TooMany => kts_exm)
    (case xl_BadChoice => k_is)
    (case xb_BadChoice => exact rfl)
    (case xsa_BadChoice => k_is)
    (case xex_BadChoice => k_is)
    (case xty_BadChoice => k_is)
    (case xkp_BadChoice => k_is)
    (case xic_BadChoice => k_is)
    (case xti_BadChoice => k_is)
    (case xlf_BadChoice => k_is)
    (case xcd_BadChoice => k_is)
    (case xlc_BadChoice => k_is)
    (case xv2_BadChoice => exact rfl)
    (case xff_BadChoice => first | exact rfl | decide +kernel)
    (case xle_BadChoice => k_is)
    (case xms_BadChoice => ks_is)
    (case xf_at_BadChoice => k_is)
    (case eg_BadChoice => k_is)
    (case ek_BadChoice => k_is)
    (case ed_BadChoice => k_is)
    (case ea_BadChoice => k_is)
    (case em_BadChoice => k_is)
    (case qk_BadChoice_BadChoice => kit_is)
    (case qe_BadChoice_BadChoice => kts_exm)
    (case qk_VaultError_BadChoice => kit_is)
    (case qe_VaultError_BadChoice => kts_exm)
    (case qk_BadHouse_BadChoice => kit_is)
    (case qe_BadHouse_BadChoice => kts_exm)
    (case en => k_is)
    (case et => k_is)

