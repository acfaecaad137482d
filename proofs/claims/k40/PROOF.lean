import PyProof.Rows.All
import Wide.All
import OpenK.AllK
import Wide.FinOn
import HandS.ForMost
import HandS.ForExc
import HandS.IsInst
import HandS.Conv
import HandS.Deep
import HandS.SortInts
import HandS.Style
import HandS.TupAny
import KE.KSortedM
import HandS.TryOnly
import KE.GoesEnum
import KE.GoesMore
import HandS.Ends
import HandS.ExcSuper
import HandS.ExcInit
import HandS.TryMany
import HandS.ExcIs
import HandS.ExcField
import KE.KExcIs
import KE.KSuper
import HandS.Words
import HandS.HotCalls
import KE.RegKSuper
import KE.RegKIsAll
import KE.RegKTryMore
import PySem.Challenge.RW_reelvault_k40_bases_and_chains
set_option Elab.async false
set_option linter.all false
set_option maxRecDepth 100000
set_option maxHeartbeats 2000000
/-! VL1: a layer of plain values over the hand layer. Data are trees (PyData); a slot holds a tree, part of which may be owned (lists that nobody else holds). -/
namespace VL
open PySem PySem.Spec PyProof.Rows L2

abbrev D := PySem.PyData
abbrev Frag := PySem.W.Frag
abbrev S := L2.St

/-- an owned value: frozen data, or a list (a tuple) that nobody else holds, of owned values -/
inductive Ow where
  | fz (d : D)
  | ls (xs : List Ow)
  | tp (xs : List Ow)
mutual
def Ow.toD : Ow → D
  | .fz d => d
  | .ls xs => .list (toDs xs)
  | .tp xs => .tuple (toDs xs)
def toDs : List Ow → List D
  | [] => []
  | x :: xs => x.toD :: toDs xs
end
theorem toDs_map : ∀ xs : List Ow, toDs xs = xs.map Ow.toD
  | [] => rfl
  | x :: xs => by rw [toDs, toDs_map xs]; rfl
theorem toDs_fz : ∀ ds : List D, toDs (ds.map Ow.fz) = ds
  | [] => rfl
  | d :: ds => by
    show Ow.toD (.fz d) :: toDs (ds.map Ow.fz) = d :: ds
    rw [toDs_fz ds]; rfl

/-- a slot: its own value, or a thing of the caller's that is read alone -/
inductive Sl where
  | own (ow : Ow)
  | bor (d : D)
def Sl.d : Sl → D
  | .own ow => ow.toD
  | .bor d => d
abbrev Rho := List (Option Sl)
/-- an expression's value: a value of its own; the thing at a path of an owned slot; a thing of the caller's -/
inductive RV where
  | val (ow : Ow)
  | ref (i : Nat) (p : List Nat) (ow : Ow)
  | bor (d : D)
def RV.d : RV → D
  | .val ow => ow.toD
  | .ref _ _ ow => ow.toD
  | .bor d => d
/-- an exception: its class, its fields -/
structure Exn where
  cls : Str
  fs : List (Str × D)
inductive Res (α : Type) where
  | ok (a : α)
  | err (x : Exn)
  | stuck
def Res.bind {α β : Type} : Res α → (α → Res β) → Res β
  | .ok a, f => f a
  | .err x, _ => .err x
  | .stuck, _ => .stuck
abbrev EC := Rho → Res RV
abbrev TC := Rho → Res Bool
inductive SRes where
  | next (ρ : Rho)
  | ret (ow : Ow)
  | brk (ρ : Rho)
  | cont (ρ : Rho)
  | err (x : Exn) (ρ : Rho)
  | stuck
abbrev SC := Rho → SRes

/-! ### heaps -/
def Sub (F F' : Hp) : Prop := ∀ a o, F a = some o → F' a = some o
theorem Sub.refl (F : Hp) : Sub F F := fun _ _ h => h
theorem Sub.trans {A B C : Hp} (h : Sub A B) (h' : Sub B C) : Sub A C := fun a o e => h' a o (h a o e)
theorem Sub.rd {F F' : Hp} (h : Sub F F') {a : Addr} {u : HO} (r : Rd F a u) : Rd F' a u := by
  rcases r with r | ⟨o, r⟩
  · exact .inl (h a _ r)
  · exact .inr ⟨o, h a _ r⟩
theorem Sub.sqL {K : Frag} {F F' : Hp} (h : Sub F F') {a : Addr} {xs : List V} (r : SqL K F a xs) : SqL K F' a xs := by
  rcases r with r | r
  · exact .inl (h.rd r)
  · exact .inr r
theorem Sub.sqT {K : Frag} {F F' : Hp} (h : Sub F F') {a : Addr} {xs : List V} (r : SqT K F a xs) : SqT K F' a xs := by
  rcases r with r | r
  · exact .inl (h.rd r)
  · exact .inr r
/-- a list: tracked, or of the written part -/
def LK (K : Frag) (H : Hp) (a : Addr) (xs : List V) : Prop := Rd H a (.lst xs) ∨ ∃ (its : Array Value) (n : Nat), K.lookup a = some { cls := .type "list", data := .seq its n } ∧ its.size ≤ sizeLine ∧ Vals xs its.toList
theorem LK.sqL {K : Frag} {H : Hp} {a : Addr} {xs : List V} (h : LK K H a xs) : SqL K H a xs := by
  rcases h with h | ⟨its, n, h1, h2, h3⟩
  · exact .inl h
  · exact .inr ⟨_, its, n, h1, rfl, rfl, rfl, h2, h3⟩
theorem LK.of {K : Frag} {H : Hp} {a : Addr} {xs : List V} (h : H a = some (.lst xs)) : LK K H a xs := .inl (.inl h)
theorem Sub.lk {K : Frag} {F F' : Hp} (h : Sub F F') {a : Addr} {xs : List V} (r : LK K F a xs) : LK K F' a xs := by
  rcases r with r | r
  · exact .inl (h.rd r)
  · exact .inr r
/-! what a value stands for: a tree -/
mutual
inductive Rp (K : Frag) (H : Hp) : V → D → Prop
  | non : Rp K H .non .none
  | bl (b : Bool) : Rp K H (.bl b) (.bool b)
  | int (i : Int) : Rp K H (.int i) (.int i)
  | str (x : Str) : Rp K H (.str x) (.str x)
  | lst {a : Addr} {xs : List V} {ds : List D} : LK K H a xs → RpAll K H xs ds → Rp K H (.ref a) (.list ds)
  | tup {a : Addr} {xs : List V} {ds : List D} : SqT K H a xs → RpAll K H xs ds → Rp K H (.ref a) (.tuple ds)
inductive RpAll (K : Frag) (H : Hp) : List V → List D → Prop
  | nil : RpAll K H [] []
  | cons {v : V} {vs : List V} {d : D} {ds : List D} : Rp K H v d → RpAll K H vs ds → RpAll K H (v :: vs) (d :: ds)
end
mutual
theorem Rp.dp {K : Frag} {H : Hp} : ∀ {d : D} {v : V}, Rp K H v d → Dp K H v d
  | .none, _, .non => .non
  | .bool _, _, .bl b => .bl b
  | .int _, _, .int i => .int i
  | .str _, _, .str x => .str x
  | .list _, _, .lst s a => .lst s.sqL (RpAll.dp a)
  | .tuple _, _, .tup s a => .tup s (RpAll.dp a)
theorem RpAll.dp {K : Frag} {H : Hp} : ∀ {ds : List D} {vs : List V}, RpAll K H vs ds → DpAll K H vs ds
  | [], _, .nil => .nil
  | _ :: _, _, .cons a r => .cons (Rp.dp a) (RpAll.dp r)
end
mutual
theorem Rp.mono {K : Frag} {F F' : Hp} (h : Sub F F') : ∀ {d : D} {v : V}, Rp K F v d → Rp K F' v d
  | .none, _, .non => .non
  | .bool _, _, .bl b => .bl b
  | .int _, _, .int i => .int i
  | .str _, _, .str x => .str x
  | .list _, _, .lst s a => .lst (h.lk s) (RpAll.mono h a)
  | .tuple _, _, .tup s a => .tup (h.sqT s) (RpAll.mono h a)
theorem RpAll.mono {K : Frag} {F F' : Hp} (h : Sub F F') : ∀ {ds : List D} {vs : List V}, RpAll K F vs ds → RpAll K F' vs ds
  | [], _, .nil => .nil
  | _ :: _, _, .cons a r => .cons (Rp.mono h a) (RpAll.mono h r)
end
theorem RpAll.length {K : PySem.W.Frag} {F : Hp} : ∀ {ds : List PyData} {vs : List V}, RpAll K F vs ds → vs.length = ds.length
  | [], _, .nil => rfl
  | _ :: _, _, .cons _ r => by simp [RpAll.length r]
theorem RpAll.get {K : PySem.W.Frag} {F : Hp} : ∀ {ds : List PyData} {vs : List V} {i : Nat} {v : V}, RpAll K F vs ds → vs[i]? = some v → ∃ d, ds[i]? = some d ∧ Rp K F v d
  | [], _, _, _, .nil, e => by simp at e
  | d :: _, _, 0, _, .cons a r, e => by simp at e; subst e; exact ⟨d, rfl, a⟩
  | _ :: _, _, i + 1, _, .cons a r, e => by
    obtain ⟨d, h1, h2⟩ := RpAll.get (i := i) r (by simpa using e)
    exact ⟨d, by simpa using h1, h2⟩
theorem RpAll.get' {K : PySem.W.Frag} {F : Hp} {ds : List PyData} {vs : List V} {i : Nat} {d : PyData} (h : RpAll K F vs ds) (e : ds[i]? = some d) : ∃ v, vs[i]? = some v ∧ Rp K F v d := by
  have hl := h.length
  have hi : i < vs.length := by rw [hl]; exact (List.getElem?_eq_some_iff.mp e).1
  obtain ⟨d', h1, h2⟩ := h.get (v := vs[i]) (List.getElem?_eq_getElem hi)
  rw [e] at h1
  cases h1
  exact ⟨vs[i], List.getElem?_eq_getElem hi, h2⟩
theorem RpAll.append {K : PySem.W.Frag} {F : Hp} : ∀ {ds es : List PyData} {vs ws : List V}, RpAll K F vs ds → RpAll K F ws es → RpAll K F (vs ++ ws) (ds ++ es)
  | [], _, _, _, .nil, h => h
  | _ :: _, _, _, _, .cons a r, h => .cons a (RpAll.append r h)
/-- the heap grows: what stood stands; what is frozen anew was not there -/
structure Gr (H F H' F' : Hp) : Prop where
  hh : Sub H H'
  ff : Sub F F'
  fn : ∀ a, F' a ≠ none → F a ≠ none ∨ H a = none
  fh' : Sub F' H'
theorem Gr.refl {H F : Hp} (h : Sub F H) : Gr H F H F := ⟨Sub.refl _, Sub.refl _, fun _ h => .inl h, h⟩
theorem Sub.none {F F' : Hp} (h : Sub F F') {a : Addr} (e : F' a = none) : F a = none := by
  cases q : F a with
  | none => rfl
  | some o => rw [h a o q] at e; cases e
theorem Gr.trans {H F H1 F1 H2 F2 : Hp} (a : Gr H F H1 F1) (b : Gr H1 F1 H2 F2) : Gr H F H2 F2 :=
  ⟨a.hh.trans b.hh, a.ff.trans b.ff, fun x h => by
    rcases b.fn x h with q | q
    · exact a.fn x q
    · exact .inr (a.hh.none q), b.fh'⟩
theorem Gr.stay {H F H' F' : Hp} (g : Gr H F H' F') {a : Addr} (h1 : H a ≠ none) (h2 : F a = none) : F' a = none := by
  cases q : F' a with
  | none => rfl
  | some o =>
    rcases g.fn a (by rw [q]; simp) with z | z
    · exact absurd h2 z
    · exact absurd z h1

/-! ### what a value stands for -/
mutual
inductive OR (K : Frag) (H F : Hp) : V → Ow → List Addr → Prop
  | fz {v : V} {d : D} : Rp K F v d → OR K H F v (.fz d) []
  | ls {a : Addr} {vs : List V} {xs : List Ow} {A : List Addr} : H a = some (.lst vs) → F a = none → a ∉ A → ORs K H F vs xs A → OR K H F (.ref a) (.ls xs) (a :: A)
  | tp {a : Addr} {vs : List V} {xs : List Ow} {A : List Addr} : H a = some (.tup vs) → F a = none → a ∉ A → ORs K H F vs xs A → OR K H F (.ref a) (.tp xs) (a :: A)
inductive ORs (K : Frag) (H F : Hp) : List V → List Ow → List Addr → Prop
  | nil : ORs K H F [] [] []
  | cons {v : V} {x : Ow} {vs : List V} {xs : List Ow} {A B : List Addr} : OR K H F v x A → ORs K H F vs xs B → (∀ a ∈ A, a ∉ B) → ORs K H F (v :: vs) (x :: xs) (A ++ B)
end
mutual
theorem OR.keep {K : Frag} {H F H' F' : Hp} (hf : Sub F F') : ∀ {ow : Ow} {v : V} {A : List Addr}, OR K H F v ow A → (∀ a ∈ A, H' a = H a ∧ F' a = none) → OR K H' F' v ow A
  | .fz _, _, _, .fz h, _ => .fz (Rp.mono hf h)
  | .ls _, _, _, .ls h1 h2 h3 h4, k => .ls (by rw [(k _ List.mem_cons_self).1]; exact h1) (k _ List.mem_cons_self).2 h3 (ORs.keep hf h4 fun a h => k a (List.mem_cons_of_mem _ h))
  | .tp _, _, _, .tp h1 h2 h3 h4, k => .tp (by rw [(k _ List.mem_cons_self).1]; exact h1) (k _ List.mem_cons_self).2 h3 (ORs.keep hf h4 fun a h => k a (List.mem_cons_of_mem _ h))
theorem ORs.keep {K : Frag} {H F H' F' : Hp} (hf : Sub F F') : ∀ {xs : List Ow} {vs : List V} {A : List Addr}, ORs K H F vs xs A → (∀ a ∈ A, H' a = H a ∧ F' a = none) → ORs K H' F' vs xs A
  | [], _, _, .nil, _ => .nil
  | _ :: _, _, _, .cons h1 h2 h3, k => .cons (OR.keep hf h1 fun a h => k a (List.mem_append_left _ h)) (ORs.keep hf h2 fun a h => k a (List.mem_append_right _ h)) h3
end
mutual
theorem OR.there {K : Frag} {H F : Hp} : ∀ {ow : Ow} {v : V} {A : List Addr}, OR K H F v ow A → ∀ a ∈ A, H a ≠ none ∧ F a = none
  | .fz _, _, _, .fz _, a, h => by cases h
  | .ls _, _, _, .ls h1 h2 _ h4, a, h => by
    rcases List.mem_cons.mp h with rfl | h
    · exact ⟨by rw [h1]; simp, h2⟩
    · exact ORs.there h4 a h
  | .tp _, _, _, .tp h1 h2 _ h4, a, h => by
    rcases List.mem_cons.mp h with rfl | h
    · exact ⟨by rw [h1]; simp, h2⟩
    · exact ORs.there h4 a h
theorem ORs.there {K : Frag} {H F : Hp} : ∀ {xs : List Ow} {vs : List V} {A : List Addr}, ORs K H F vs xs A → ∀ a ∈ A, H a ≠ none ∧ F a = none
  | [], _, _, .nil, a, h => by cases h
  | _ :: _, _, _, .cons h1 h2 _, a, h => by
    rcases List.mem_append.mp h with h | h
    · exact OR.there h1 a h
    · exact ORs.there h2 a h
end
theorem OR.gr {K : Frag} {H F H' F' : Hp} {ow : Ow} {v : V} {A : List Addr} (h : OR K H F v ow A) (g : Gr H F H' F') : OR K H' F' v ow A :=
  h.keep g.ff fun a ha => by
    obtain ⟨h1, h2⟩ := h.there a ha
    refine ⟨?_, g.stay h1 h2⟩
    cases q : H a with
    | none => exact absurd q h1
    | some o => exact g.hh a o q
theorem ORs.gr {K : Frag} {H F H' F' : Hp} {xs : List Ow} {vs : List V} {A : List Addr} (h : ORs K H F vs xs A) (g : Gr H F H' F') : ORs K H' F' vs xs A :=
  h.keep g.ff fun a ha => by
    obtain ⟨h1, h2⟩ := h.there a ha
    refine ⟨?_, g.stay h1 h2⟩
    cases q : H a with
    | none => exact absurd q h1
    | some o => exact g.hh a o q
/-! read as data, in a heap that holds both -/
mutual
theorem OR.dpIn {K : Frag} {H F G : Hp} (hf : Sub F G) : ∀ {ow : Ow} {v : V} {A : List Addr}, OR K H F v ow A → (∀ a ∈ A, G a = H a) → Rp K G v ow.toD
  | .fz _, _, _, .fz h, _ => Rp.mono hf h
  | .ls _, _, _, .ls h1 _ _ h4, k => .lst (.of (by rw [k _ List.mem_cons_self]; exact h1)) (ORs.dpIn hf h4 fun a h => k a (List.mem_cons_of_mem _ h))
  | .tp _, _, _, .tp h1 _ _ h4, k => .tup (.of (by rw [k _ List.mem_cons_self]; exact h1)) (ORs.dpIn hf h4 fun a h => k a (List.mem_cons_of_mem _ h))
theorem ORs.dpIn {K : Frag} {H F G : Hp} (hf : Sub F G) : ∀ {xs : List Ow} {vs : List V} {A : List Addr}, ORs K H F vs xs A → (∀ a ∈ A, G a = H a) → RpAll K G vs (toDs xs)
  | [], _, _, .nil, _ => .nil
  | _ :: _, _, _, .cons h1 h2 _, k => .cons (OR.dpIn hf h1 fun a h => k a (List.mem_append_left _ h)) (ORs.dpIn hf h2 fun a h => k a (List.mem_append_right _ h))
end
theorem OR.dp {K : Frag} {H F : Hp} {ow : Ow} {v : V} {A : List Addr} (h : OR K H F v ow A) (hf : Sub F H) : Rp K H v ow.toD := h.dpIn hf fun _ _ => rfl
theorem ORs.dp {K : Frag} {H F : Hp} {xs : List Ow} {vs : List V} {A : List Addr} (h : ORs K H F vs xs A) (hf : Sub F H) : RpAll K H vs (toDs xs) := h.dpIn hf fun _ _ => rfl
theorem ORs.length {K : Frag} {H F : Hp} : ∀ {xs : List Ow} {vs : List V} {A : List Addr}, ORs K H F vs xs A → vs.length = xs.length
  | [], _, _, .nil => rfl
  | _ :: _, _, _, .cons _ r _ => by simp [ORs.length r]
theorem ORs.ofDp {K : Frag} {H F : Hp} : ∀ {ds : List D} {vs : List V}, RpAll K F vs ds → ORs K H F vs (ds.map Ow.fz) []
  | [], _, .nil => .nil
  | _ :: _, _, .cons a r => .cons (A := []) (B := []) (.fz a) (ORs.ofDp r) (fun _ h => by cases h)
theorem ORs.append {K : Frag} {H F : Hp} : ∀ {xs ys : List Ow} {vs ws : List V} {A B : List Addr}, ORs K H F vs xs A → ORs K H F ws ys B → (∀ a ∈ A, a ∉ B) → ORs K H F (vs ++ ws) (xs ++ ys) (A ++ B)
  | [], _, _, _, _, _, .nil, h, _ => h
  | x :: xs, ys, _, ws, _, B, @ORs.cons _ _ _ v _ vs _ A1 A2 a r k, h, n => by
    have ih := ORs.append r h (fun a ha => n a (List.mem_append_right _ ha))
    have : (A1 ++ A2) ++ B = A1 ++ (A2 ++ B) := List.append_assoc ..
    rw [this]
    refine .cons a ih fun b hb hm => ?_
    rcases List.mem_append.mp hm with z | z
    · exact k b hb z
    · exact n b (List.mem_append_left _ hb) z
/-- some addresses frozen -/
def frz (F H : Hp) (A : List Addr) : Hp := fun a => if a ∈ A then H a else F a
theorem frz_in {F H : Hp} {A : List Addr} {a : Addr} (h : a ∈ A) : frz F H A a = H a := by unfold frz; rw [if_pos h]
theorem frz_out {F H : Hp} {A : List Addr} {a : Addr} (h : a ∉ A) : frz F H A a = F a := by unfold frz; rw [if_neg h]
theorem frz_sub {F H : Hp} {A : List Addr} (h : ∀ a ∈ A, F a = none) : Sub F (frz F H A) := fun a o e => by
  by_cases q : a ∈ A
  · rw [h a q] at e; cases e
  · rw [frz_out q]; exact e
theorem frz_subH {F H : Hp} {A : List Addr} (h : Sub F H) : Sub (frz F H A) H := fun a o e => by
  by_cases q : a ∈ A
  · rw [frz_in q] at e; exact e
  · rw [frz_out q] at e; exact h a o e
theorem OR.freeze {K : Frag} {H F : Hp} {ow : Ow} {v : V} {A : List Addr} (h : OR K H F v ow A) : Rp K (frz F H A) v ow.toD :=
  h.dpIn (frz_sub fun a ha => (h.there a ha).2) fun a ha => frz_in ha
theorem ORs.freeze {K : Frag} {H F : Hp} {xs : List Ow} {vs : List V} {A : List Addr} (h : ORs K H F vs xs A) : RpAll K (frz F H A) vs (toDs xs) :=
  h.dpIn (frz_sub fun a ha => (h.there a ha).2) fun a ha => frz_in ha

/-! ### the state -/
def SlOk (K : Frag) (H0 H F : Hp) (σ : S) (i : Nat) (A : List Addr) : Option (Option Sl) → Prop
  | some (some (.own ow)) => ∃ v, σ[i]? = some (some v) ∧ OR K H F v ow A ∧ ∀ a ∈ A, H0 a = none
  | some (some (.bor d)) => A = [] ∧ ∃ v, σ[i]? = some (some v) ∧ Rp K H0 v d
  | _ => A = []
/-- .. with the owned addresses of each slot -/
structure SRA (K : Frag) (H0 F0 : Hp) (A : Nat → List Addr) (σ : S) (H F : Hp) (ρ : Rho) : Prop where
  len : ρ.length = σ.length
  gr : Gr H0 F0 H F
  sl : ∀ i, SlOk K H0 H F σ i (A i) ρ[i]?
  ap : ∀ i j, i ≠ j → ∀ a ∈ A i, a ∉ A j
structure SR (K : Frag) (H0 F0 : Hp) (σ : S) (H F : Hp) (ρ : Rho) : Prop where
  len : ρ.length = σ.length
  gr : Gr H0 F0 H F
  sl : ∃ A : Nat → List Addr, (∀ i, SlOk K H0 H F σ i (A i) ρ[i]?) ∧ ∀ i j, i ≠ j → ∀ a ∈ A i, a ∉ A j
theorem SRA.sr {K : Frag} {H0 F0 : Hp} {A : Nat → List Addr} {σ : S} {H F : Hp} {ρ : Rho} (h : SRA K H0 F0 A σ H F ρ) : SR K H0 F0 σ H F ρ := ⟨h.len, h.gr, A, h.sl, h.ap⟩
theorem SR.sra {K : Frag} {H0 F0 : Hp} {σ : S} {H F : Hp} {ρ : Rho} (h : SR K H0 F0 σ H F ρ) : ∃ A, SRA K H0 F0 A σ H F ρ := let ⟨A, a, b⟩ := h.sl; ⟨A, h.len, h.gr, a, b⟩
theorem SlOk.there {K : Frag} {H0 H F : Hp} {σ : S} {i : Nat} {A : List Addr} {o : Option (Option Sl)} (h : SlOk K H0 H F σ i A o) : ∀ a ∈ A, H a ≠ none ∧ F a = none ∧ H0 a = none := by
  intro a ha
  match o, h with
  | some (some (.own ow)), ⟨v, _, h, k⟩ => exact ⟨(h.there a ha).1, (h.there a ha).2, k a ha⟩
  | some (some (.bor d)), ⟨e, _⟩ => rw [e] at ha; cases ha
  | some none, e => rw [show A = [] from e] at ha; cases ha
  | none, e => rw [show A = [] from e] at ha; cases ha
theorem SlOk.gr {K : Frag} {H0 H F H' F' : Hp} {σ : S} {i : Nat} {A : List Addr} {o : Option (Option Sl)} (h : SlOk K H0 H F σ i A o) (g : Gr H F H' F') : SlOk K H0 H' F' σ i A o := by
  match o, h with
  | some (some (.own ow)), ⟨v, e, h, k⟩ => exact ⟨v, e, h.gr g, k⟩
  | some (some (.bor d)), h => exact h
  | some none, e => exact e
  | none, e => exact e
theorem SR.step {K : Frag} {H0 F0 H F H' F' : Hp} {σ : S} {ρ : Rho} (h : SR K H0 F0 σ H F ρ) (g : Gr H F H' F') : SR K H0 F0 σ H' F' ρ :=
  ⟨h.len, h.gr.trans g, let ⟨A, h1, h2⟩ := h.sl; ⟨A, fun i => (h1 i).gr g, h2⟩⟩
theorem SRA.step {K : Frag} {H0 F0 H F H' F' : Hp} {A : Nat → List Addr} {σ : S} {ρ : Rho} (h : SRA K H0 F0 A σ H F ρ) (g : Gr H F H' F') : SRA K H0 F0 A σ H' F' ρ :=
  ⟨h.len, h.gr.trans g, fun i => (h.sl i).gr g, h.ap⟩
theorem SR.sub {K : Frag} {H0 F0 H F : Hp} {σ : S} {ρ : Rho} (h : SR K H0 F0 σ H F ρ) : Sub F H := h.gr.fh'
/-- v is what lies at the path p of v0 (lists alone) -/
def At (H : Hp) : V → List Nat → V → Prop
  | v0, [], v => v = v0
  | v0, k :: p, v => ∃ a vs w, v0 = .ref a ∧ (H a = some (.lst vs) ∨ H a = some (.tup vs)) ∧ vs[k]? = some w ∧ At H w p v
def Ow.at : Ow → List Nat → Option Ow
  | ow, [] => some ow
  | .ls xs, k :: p => match xs[k]? with
    | some x => Ow.at x p
    | none => none
  | .tp xs, k :: p => match xs[k]? with
    | some x => Ow.at x p
    | none => none
  | .fz _, _ :: _ => none
theorem At.gr {H H' : Hp} (h : Sub H H') : ∀ {p : List Nat} {v0 v : V}, At H v0 p v → At H' v0 p v
  | [], _, _, e => e
  | _ :: _, _, _, ⟨a, vs, w, e, o, k, r⟩ => ⟨a, vs, w, e, o.imp (h a _) (h a _), k, At.gr h r⟩
/-- what an expression's value is -/
def RVOk (K : Frag) (H0 H F : Hp) (σ : S) (ρ : Rho) (v : V) (A : List Addr) : RV → Prop
  | .val ow => OR K H F v ow A
  | .ref i p ow => A = [] ∧ (∃ v0, σ[i]? = some (some v0) ∧ At H v0 p v) ∧ (∃ ow0, ρ[i]? = some (some (.own ow0)) ∧ ow0.at p = some ow) ∧ ∃ B, OR K H F v ow B
  | .bor d => A = [] ∧ Rp K H0 v d
theorem RVOk.gr {K : Frag} {H0 H F H' F' : Hp} {σ : S} {ρ : Rho} {v : V} {A : List Addr} {rv : RV} (h : RVOk K H0 H F σ ρ v A rv) (g : Gr H F H' F') : RVOk K H0 H' F' σ ρ v A rv := by
  match rv, h with
  | .val ow, h => exact OR.gr h g
  | .ref i p ow, ⟨e, ⟨v0, e0, r⟩, q, B, h⟩ => exact ⟨e, ⟨v0, e0, r.gr g.hh⟩, q, B, h.gr g⟩
  | .bor d, h => exact h
theorem RVOk.there {K : Frag} {H0 H F : Hp} {σ : S} {ρ : Rho} {v : V} {A : List Addr} {rv : RV} (h : RVOk K H0 H F σ ρ v A rv) : ∀ a ∈ A, H a ≠ none ∧ F a = none := by
  intro a ha
  match rv, h with
  | .val ow, h => exact OR.there h a ha
  | .ref i p ow, ⟨e, _⟩ => rw [e] at ha; cases ha
  | .bor d, ⟨e, _⟩ => rw [e] at ha; cases ha
theorem RVOk.dp {K : Frag} {H0 F0 H F : Hp} {σ : S} {ρ : Rho} {v : V} {A : List Addr} {rv : RV} (h : RVOk K H0 H F σ ρ v A rv) (s : SR K H0 F0 σ H F ρ) : Rp K H v rv.d := by
  match rv, h with
  | .val ow, h => exact OR.dp h s.sub
  | .ref i p ow, ⟨_, _, _, B, h⟩ => exact h.dp s.sub
  | .bor d, ⟨_, h⟩ => exact Rp.mono s.gr.hh h
/-- a new thing laid: the heap has grown -/
theorem Gr.laid {H F : Hp} {p : Addr} {o : HO} (h : Sub F H) (hp : H p = none) : Gr H F (upd H p o) F :=
  ⟨fun a u e => by rw [upd_ne (ne_of_none e hp)]; exact e, Sub.refl _, fun _ h => .inl h, fun a u e => by rw [upd_ne (ne_of_none (h a u e) hp)]; exact h a u e⟩
/-- .. and what it holds is frozen with it -/
theorem Gr.frozen {H F : Hp} {A : List Addr} {Hs Fs : Hp} (g : Gr Hs Fs H F) (hA : ∀ a ∈ A, Hs a = none) (hF : ∀ a ∈ A, F a = none) : Gr Hs Fs H (frz F H A) :=
  ⟨g.hh, g.ff.trans (frz_sub hF), fun a h => by
    by_cases q : a ∈ A
    · exact .inr (hA a q)
    · rw [frz_out q] at h; exact g.fn a h, frz_subH g.fh'⟩
end VL

set_option Elab.async false
set_option linter.all false
set_option maxRecDepth 100000
set_option maxHeartbeats 2000000
/-! VL2: what expressions and statements compute, over plain values (no heap). -/
namespace VL
open PySem PySem.Spec PyProof.Rows L2

def scal : D → Bool
  | .none => true
  | .bool _ => true
  | .int _ => true
  | .str _ => true
  | _ => false
def isFz : Ow → Bool
  | .fz _ => true
  | _ => false
def vOf : D → V
  | .none => .non
  | .bool b => .bl b
  | .int i => .int i
  | .str x => .str x
  | _ => .non
def Sl.rv (i : Nat) : Sl → RV
  | .own (.fz d) => .val (.fz d)
  | .own (.ls xs) => .ref i [] (.ls xs)
  | .own (.tp xs) => .ref i [] (.tp xs)
  | .bor d => if scal d = true then .val (.fz d) else .bor d
def rD (d : D) : Res RV := .ok (.val (.fz d))
def eVar (i : Nat) : EC := fun ρ => match ρ[i]? with
  | some (some s) => .ok (s.rv i)
  | _ => .stuck
def eK (d : D) : EC := fun _ => rD d
def eUn (f : RV → Res RV) (a : EC) : EC := fun ρ => (a ρ).bind f
def eBin (f : RV → RV → Res RV) (a b : EC) : EC := fun ρ => (a ρ).bind fun x => (b ρ).bind fun y => f x y

/-! ### the items of a row, to be stored elsewhere -/
def RV.items : RV → Option (List Ow)
  | .val (.fz (.list ds)) => some (ds.map Ow.fz)
  | .val (.fz (.tuple ds)) => some (ds.map Ow.fz)
  | .val (.fz _) => none
  | .val (.ls xs) => some xs
  | .val (.tp xs) => some xs
  | .ref _ _ (.ls xs) => if xs.all isFz = true then some xs else none
  | .ref _ _ (.tp xs) => if xs.all isFz = true then some xs else none
  | .ref _ _ (.fz _) => none
  | .bor (.list ds) => if ds.all scal = true then some (ds.map Ow.fz) else none
  | .bor (.tuple ds) => if ds.all scal = true then some (ds.map Ow.fz) else none
  | .bor _ => none
def isL : D → Bool
  | .list _ => true
  | _ => false
def isT : D → Bool
  | .tuple _ => true
  | _ => false
/-- a thing to be stored -/
def RV.ow : RV → Option Ow
  | .val ow => some ow
  | _ => none

/-! ### operators -/
def catL (x y : RV) : Res RV := match x.items, y.items with
  | some xs, some ys => if xs.length + ys.length ≤ 16777216 then .ok (.val (.ls (xs ++ ys))) else .stuck
  | _, _ => .stuck
def fAdd (x y : RV) : Res RV := match x.d, y.d with
  | .int i, .int j => rD (.int (i + j))
  | .list _, .list _ => catL x y
  | .str a, .str b => if a.length + b.length ≤ 16777216 then rD (.str (a ++ b)) else .stuck
  | _, _ => .stuck
def fSub (x y : RV) : Res RV := match x.d, y.d with
  | .int i, .int j => rD (.int (i - j))
  | _, _ => .stuck
def mulOk (i j : Int) : Bool := (decide (-(2 ^ 64) < i) && decide (i < 2 ^ 64)) || (decide (-(2 ^ 64) < j) && decide (j < 2 ^ 64))
def fMul (x y : RV) : Res RV := match x.d, y.d with
  | .int i, .int j => if mulOk i j = true then rD (.int (i * j)) else .stuck
  | _, _ => .stuck
def fDiv (x y : RV) : Res RV := match x.d, y.d with
  | .int i, .int j => if 0 < j ∧ j < 1073741824 then rD (.int (i / j)) else .stuck
  | _, _ => .stuck
def fMod (x y : RV) : Res RV := match x.d, y.d with
  | .int i, .int j => if 0 < j then rD (.int (i % j)) else .stuck
  | _, _ => .stuck
def fPow (x y : RV) : Res RV := match x.d, y.d with
  | .int i, .int j => if 0 ≤ j ∧ j ≤ 1000000 ∧ i.natAbs < 2 ^ 64 then rD (.int (i ^ j.toNat)) else .stuck
  | _, _ => .stuck
def fShl (x y : RV) : Res RV := match x.d, y.d with
  | .int i, .int j => if 0 ≤ j ∧ j ≤ 1000000 ∧ i.natAbs < 2 ^ 64 then rD (.int (i * 2 ^ j.toNat)) else .stuck
  | _, _ => .stuck
def fBitOr (x y : RV) : Res RV := match x.d, y.d with
  | .int i, .int j => rD (.int (Builtin.bitOr i j))
  | _, _ => .stuck
def fBitAnd (x y : RV) : Res RV := match x.d, y.d with
  | .int i, .int j => rD (.int (Builtin.bitAnd i j))
  | _, _ => .stuck
def fNeg (x : RV) : Res RV := match x.d with
  | .int i => rD (.int (-i))
  | _ => .stuck
def fLt (x y : RV) : Res RV := match x.d, y.d with
  | .int i, .int j => rD (.bool (decide (i < j)))
  | _, _ => .stuck
def fLe (x y : RV) : Res RV := match x.d, y.d with
  | .int i, .int j => rD (.bool (decide (i ≤ j)))
  | _, _ => .stuck
def fGt (x y : RV) : Res RV := match x.d, y.d with
  | .int i, .int j => rD (.bool (decide (j < i)))
  | _, _ => .stuck
def fGe (x y : RV) : Res RV := match x.d, y.d with
  | .int i, .int j => rD (.bool (decide (j ≤ i)))
  | _, _ => .stuck
def fEq (x y : RV) : Res RV := if SeqAt.shaped x.d = true ∧ SeqAt.shaped y.d = true then rD (.bool (PyData.eqv x.d y.d)) else .stuck
def fNe (x y : RV) : Res RV := if SeqAt.shaped x.d = true ∧ SeqAt.shaped y.d = true then rD (.bool (!PyData.eqv x.d y.d)) else .stuck
def rowOf : D → Option (List D)
  | .list ds => some ds
  | .tuple ds => some ds
  | _ => none
def eqF (a b : D) : Bool := eqV (vOf a) (vOf b)
def fIn (x y : RV) : Res RV := match rowOf y.d with
  | some ds => if scal x.d = true ∧ ds.all scal = true then rD (.bool (ds.any fun d => eqF d x.d)) else .stuck
  | none => .stuck
def fNotIn (x y : RV) : Res RV := match rowOf y.d with
  | some ds => if scal x.d = true ∧ ds.all scal = true then rD (.bool (!(ds.any fun d => eqF d x.d))) else .stuck
  | none => .stuck
def isN : D → Bool
  | .none => true
  | _ => false
def fIsN (x : RV) : Res RV := rD (.bool (isN x.d))
def fNotN (x : RV) : Res RV := rD (.bool (!isN x.d))

/-! ### tests -/
def truthD : D → Bool
  | .none => false
  | .bool b => b
  | .int i => i != 0
  | .str x => x.length != 0
  | .list ds => !ds.isEmpty
  | .tuple ds => !ds.isEmpty
  | .dict ds => !ds.isEmpty
def tB (a : EC) : TC := fun ρ => (a ρ).bind fun x => match x.d with
  | .bool b => .ok b
  | _ => .stuck
def tTr (a : EC) : TC := fun ρ => (a ρ).bind fun x => .ok (truthD x.d)
def tAnd (a b : TC) : TC := fun ρ => (a ρ).bind fun x => if x = true then b ρ else .ok false
def tOr (a b : TC) : TC := fun ρ => (a ρ).bind fun x => if x = true then .ok true else b ρ
def tNot (a : TC) : TC := fun ρ => (a ρ).bind fun x => .ok (!x)
def tYes : TC := fun _ => .ok true
def eAnd (a b : EC) : EC := fun ρ => (a ρ).bind fun x => match x.d with
  | .bool true => b ρ
  | .bool false => rD (.bool false)
  | _ => .stuck
def eOr (a b : EC) : EC := fun ρ => (a ρ).bind fun x => match x.d with
  | .bool true => rD (.bool true)
  | .bool false => b ρ
  | _ => .stuck
def fNot (x : RV) : Res RV := match x.d with
  | .bool b => rD (.bool (!b))
  | _ => .stuck
def eIf (t : TC) (a b : EC) : EC := fun ρ => (t ρ).bind fun c => if c = true then a ρ else b ρ
/-- a op b op' c -/
def eChain (f g : RV → RV → Res RV) (a b c : EC) : EC := fun ρ => (a ρ).bind fun x => (b ρ).bind fun y => (f x y).bind fun z => match z.d with
  | .bool true => (c ρ).bind fun w => g y w
  | .bool false => rD (.bool false)
  | _ => .stuck

/-! ### built-in functions -/
/-- the built-in classes that are asked for -/
inductive Ty where
  | int | bool | str | list | tuple
def Ty.name : Ty → String
  | .int => "int"
  | .bool => "bool"
  | .str => "str"
  | .list => "list"
  | .tuple => "tuple"
def tyName : D → String
  | .none => "NoneType"
  | .bool _ => "bool"
  | .int _ => "int"
  | .str _ => "str"
  | .list _ => "list"
  | .tuple _ => "tuple"
  | .dict _ => "dict"
def inst : D → Ty → Bool
  | .bool _, .int => true
  | .bool _, .bool => true
  | .int _, .int => true
  | .str _, .str => true
  | .list _, .list => true
  | .tuple _, .tuple => true
  | _, _ => false
def fIsI (c : Ty) (x : RV) : Res RV := rD (.bool (inst x.d c))
def fIsIs (cs : List Ty) (x : RV) : Res RV := rD (.bool (cs.any fun c => inst x.d c))
def fLen (x : RV) : Res RV := match x.d with
  | .list ds => rD (.int ds.length)
  | .tuple ds => rD (.int ds.length)
  | .str x => if x.length ≤ 16777216 then rD (.int x.length) else .stuck
  | _ => .stuck
def fList (x : RV) : Res RV := match x.items with
  | some xs => .ok (.val (.ls xs))
  | none => .stuck
/-- a tuple of things: frozen if they are -/
def mkTup (xs : List Ow) : Ow := if xs.all isFz = true then .fz (.tuple (toDs xs)) else .tp xs
def fTuple (x : RV) : Res RV := match x.d with
  | .list _ => match x.items with
    | some xs => .ok (.val (mkTup xs))
    | none => .stuck
  | .tuple _ => match x with
    | .val ow => .ok (.val ow)
    | _ => .stuck
  | _ => .stuck
def intsOf : List D → Option (List Int)
  | [] => some []
  | .int i :: r => match intsOf r with
    | some is => some (i :: is)
    | none => none
  | _ :: _ => none
def insI (a : Int) : List Int → List Int
  | [] => [a]
  | b :: r => if a ≤ b then a :: b :: r else b :: insI a r
def sortI : List Int → List Int
  | [] => []
  | a :: r => insI a (sortI r)
def fSorted (x : RV) : Res RV := match x.d with
  | .list ds => match intsOf ds with
    | some ns => .ok (.val (.ls ((sortI ns).map fun i => .fz (.int i))))
    | none => .stuck
  | _ => .stuck
def fSum (x : RV) : Res RV := match x.d with
  | .list ds => match intsOf ds with
    | some ns => rD (.int ns.sum)
    | none => .stuck
  | _ => .stuck
def fInt (x : RV) : Res RV := match x.d with
  | .int i => rD (.int i)
  | .bool b => rD (.int (if b then 1 else 0))
  | _ => .stuck
/-! ### subscripts -/
def ixOw (i : Nat) (p : List Nat) (k : Nat) : Ow → RV
  | .fz d => .val (.fz d)
  | ow => .ref i (p ++ [k]) ow
def fIx (x y : RV) : Res RV := match y.d with
  | .int k => match x with
    | .val (.fz (.list ds)) => match atI ds k with
      | some d => rD d
      | none => .stuck
    | .val (.fz (.tuple ds)) => match atI ds k with
      | some d => rD d
      | none => .stuck
    | .val (.ls xs) => match atI xs k with
      | some ow => .ok (.val ow)
      | none => .stuck
    | .val (.tp xs) => match atI xs k with
      | some ow => .ok (.val ow)
      | none => .stuck
    | .ref i p (.ls xs) => match ixN xs.length k with
      | some j => match xs[j]? with
        | some ow => .ok (ixOw i p j ow)
        | none => .stuck
      | none => .stuck
    | .ref i p (.tp xs) => match ixN xs.length k with
      | some j => match xs[j]? with
        | some ow => .ok (ixOw i p j ow)
        | none => .stuck
      | none => .stuck
    | .bor (.list ds) => match atI ds k with
      | some d => .ok (if scal d = true then .val (.fz d) else .bor d)
      | none => .stuck
    | .bor (.tuple ds) => match atI ds k with
      | some d => .ok (if scal d = true then .val (.fz d) else .bor d)
      | none => .stuck
    | _ => .stuck
  | _ => .stuck
def cutL {α : Type} (xs : List α) (lo hi : Option Int) : List α := (xs.drop (HT.sIx xs.length 0 lo)).take (HT.sIx xs.length xs.length hi - HT.sIx xs.length 0 lo)
/-- an end of a slice -/
def ePart (c : Option EC) (ρ : Rho) : Res (Option Int) := match c with
  | none => .ok none
  | some c => (c ρ).bind fun x => match x.d with
    | .int i => .ok (some i)
    | _ => .stuck
def fCut (x : RV) (lo hi : Option Int) : Res RV := match x.d with
  | .list _ => match x.items with
    | some xs => .ok (.val (.ls (cutL xs lo hi)))
    | none => .stuck
  | .tuple _ => match x with
    | .val (.fz (.tuple ds)) => rD (.tuple (cutL ds lo hi))
    | _ => .stuck
  | _ => .stuck
def eSlice (a : EC) (lo hi : Option EC) : EC := fun ρ => (a ρ).bind fun x => (ePart lo ρ).bind fun l => (ePart hi ρ).bind fun h => fCut x l h
def fRev (x : RV) : Res RV := match x.d with
  | .list _ => match x.items with
    | some xs => .ok (.val (.ls xs.reverse))
    | none => .stuck
  | _ => .stuck

/-! ### several values -/
def evalAll : List EC → Rho → Res (List RV)
  | [], _ => .ok []
  | c :: cs, ρ => (c ρ).bind fun x => (evalAll cs ρ).bind fun xs => .ok (x :: xs)
def owsOf : List RV → Option (List Ow)
  | [] => some []
  | x :: xs => match x.ow, owsOf xs with
    | some o, some os => some (o :: os)
    | _, _ => none
def eLst (cs : List EC) : EC := fun ρ => (evalAll cs ρ).bind fun xs => match owsOf xs with
  | some os => if os.length ≤ 1000 then .ok (.val (.ls os)) else .stuck
  | none => .stuck
def eTup (cs : List EC) : EC := fun ρ => (evalAll cs ρ).bind fun xs => match owsOf xs with
  | some os => if os.length ≤ 1000 then .ok (.val (mkTup os)) else .stuck
  | none => .stuck
/-- an argument, as a callee's slot -/
def RV.arg : RV → Sl
  | .val ow => .own (.fz ow.toD)
  | .ref _ _ ow => .bor ow.toD
  | .bor d => .bor d
abbrev Fn := List Sl → Res Ow
def eCall (φ : Fn) (cs : List EC) : EC := fun ρ => (evalAll cs ρ).bind fun xs => (φ (xs.map RV.arg)).bind fun ow => .ok (.val ow)

/-! ### what a loop walks: at each turn the values of the targets -/
abbrev IC := Rho → Res (List (List Sl))
def slOf (d : D) : Sl := .own (.fz d)
def slBor (d : D) : Sl := if scal d = true then .own (.fz d) else .bor d
def RV.iter : RV → Option (List Sl)
  | .val ow => match rowOf ow.toD with
    | some ds => some (ds.map slOf)
    | none => none
  | .ref _ _ _ => none
  | .bor d => match rowOf d with
    | some ds => some (ds.map slBor)
    | none => none
def iRow (a : EC) : IC := fun ρ => (a ρ).bind fun x => match x.iter with
  | some ss => .ok (ss.map fun s => [s])
  | none => .stuck
def rangeS (lo hi : Int) : List (List Sl) := (List.range (hi - lo).toNat).map fun (k : Nat) => [slOf (.int (lo + k))]
def rngOk (i : Int) : Bool := decide (-(2 ^ 62) ≤ i) && decide (i < 2 ^ 62)
def iRng1 (a : EC) : IC := fun ρ => (a ρ).bind fun x => match x.d with
  | .int i => if rngOk i = true then .ok (rangeS 0 i) else .stuck
  | _ => .stuck
def iRng2 (a b : EC) : IC := fun ρ => (a ρ).bind fun x => (b ρ).bind fun y => match x.d, y.d with
  | .int i, .int j => if rngOk i = true ∧ rngOk j = true then .ok (rangeS i j) else .stuck
  | _, _ => .stuck
def enumS : Nat → List Sl → List (List Sl)
  | _, [] => []
  | k, s :: r => [slOf (.int (k : Nat)), s] :: enumS (k + 1) r
def iEnum (a : EC) : IC := fun ρ => (a ρ).bind fun x => match x.iter with
  | some ss => .ok (enumS 0 ss)
  | none => .stuck
def setAll : List Nat → List Sl → Rho → Rho
  | i :: is, s :: ss, ρ => setAll is ss (ρ.set i (some s))
  | _, _, ρ => ρ
def compL (tg : List Nat) (t : TC) (e : EC) : List (List Sl) → Rho → Res (List Ow)
  | [], _ => .ok []
  | v :: vs, ρ => match t (setAll tg v ρ) with
    | .ok true => match e (setAll tg v ρ) with
      | .ok x => match x.ow with
        | some o => (compL tg t e vs ρ).bind fun os => .ok (o :: os)
        | none => .stuck
      | _ => .stuck
    | .ok false => compL tg t e vs ρ
    | _ => .stuck
def wipeR : List Nat → Rho → Rho
  | [], ρ => ρ
  | v :: vs, ρ => (wipeR vs ρ).set v none
def eComp (tg : List Nat) (it : IC) (t : TC) (e : EC) : EC := fun ρ => (it ρ).bind fun vs => if vs.length ≤ 16777216 then
    match compL tg t e vs (wipeR tg ρ) with
    | .ok os => .ok (.val (.ls os))
    | _ => .stuck
  else .stuck

/-! ### statements -/
def sPass : SC := fun ρ => .next ρ
def sStuck : SC := fun _ => .stuck
def sSeq (a b : SC) : SC := fun ρ => match a ρ with
  | .next ρ' => b ρ'
  | r => r
def sIf (t : TC) (a b : SC) : SC := fun ρ => match t ρ with
  | .ok true => a ρ
  | .ok false => b ρ
  | .err x => .err x ρ
  | .stuck => .stuck
def sRet (a : EC) : SC := fun ρ => match a ρ with
  | .ok (.val ow) => .ret ow
  | .ok (.ref _ [] ow) => .ret ow
  | .ok _ => .stuck
  | .err x => .err x ρ
  | .stuck => .stuck
def sSet (i : Nat) (a : EC) : SC := fun ρ => match a ρ with
  | .ok (.val ow) => .next (ρ.set i (some (.own ow)))
  | .ok (.bor d) => .next (ρ.set i (some (.bor d)))
  | .ok _ => .stuck
  | .err x => .err x ρ
  | .stuck => .stuck
/-- a frozen slot -/
def frzSl : Option (Option Sl) → Option Sl
  | some (some (.own ow)) => some (.own (.fz ow.toD))
  | some (some (.bor d)) => some (.bor d)
  | _ => none
def sFrz (i : Nat) (a : SC) : SC := fun ρ => a (ρ.set i (frzSl ρ[i]?))
/-- a, b, .. = a row -/
def RV.parts : RV → Option (List Sl)
  | .val (.fz (.tuple ds)) => some (ds.map slOf)
  | .val (.fz (.list ds)) => some (ds.map slOf)
  | .val (.ls xs) => some (xs.map Sl.own)
  | .val (.tp xs) => some (xs.map Sl.own)
  | .bor (.tuple ds) => some (ds.map slBor)
  | .bor (.list ds) => some (ds.map slBor)
  | _ => none
def sUnp (tg : List Nat) (a : EC) : SC := fun ρ => match a ρ with
  | .ok x => match x.parts with
    | some ss => if ss.length = tg.length then .next (setAll tg ss ρ) else .stuck
    | none => .stuck
  | .err x => .err x ρ
  | .stuck => .stuck
def forL (tg : List Nat) (b : SC) : List (List Sl) → SC
  | [], ρ => .next ρ
  | v :: vs, ρ => match b (setAll tg v ρ) with
    | .next ρ' => forL tg b vs ρ'
    | .cont ρ' => forL tg b vs ρ'
    | .brk ρ' => .next ρ'
    | .ret ow => .ret ow
    | .err x ρ' => .err x ρ'
    | .stuck => .stuck
def sFor (tg : List Nat) (it : IC) (b : SC) : SC := fun ρ => match it ρ with
  | .ok vs => forL tg b vs ρ
  | .err x => .err x ρ
  | .stuck => .stuck
def whileN (t : TC) (b : SC) : Nat → SC
  | 0, _ => .stuck
  | n + 1, ρ => match t ρ with
    | .ok true => match b ρ with
      | .next ρ' => whileN t b n ρ'
      | .cont ρ' => whileN t b n ρ'
      | .brk ρ' => .next ρ'
      | .ret ow => .ret ow
      | .err x ρ' => .err x ρ'
      | .stuck => .stuck
    | .ok false => .next ρ
    | .err x => .err x ρ
    | .stuck => .stuck
def fuel : Nat := 18446744073709551616
def sWhile (t : TC) (b : SC) : SC := fun ρ => whileN t b fuel ρ
/-- slot[p..].append(e) -/
def Ow.put : Ow → List Nat → (List Ow → List Ow) → Option Ow
  | .ls xs, [], f => some (.ls (f xs))
  | .ls xs, k :: p, f => match xs[k]? with
    | some x => match Ow.put x p f with
      | some y => some (.ls (xs.set k y))
      | none => none
    | none => none
  | .tp xs, k :: p, f => match xs[k]? with
    | some x => match Ow.put x p f with
      | some y => some (.tp (xs.set k y))
      | none => none
    | none => none
  | _, _, _ => none
/-- the list at i, p is changed -/
def putAt (i : Nat) (p : List Nat) (f : List Ow → List Ow) (ρ : Rho) : SRes := match ρ[i]? with
  | some (some (.own ow)) => match ow.put p f with
    | some ow' => .next (ρ.set i (some (.own ow')))
    | none => .stuck
  | _ => .stuck
def sApp (o a : EC) : SC := fun ρ => match o ρ with
  | .ok (.ref i p (.ls xs)) => match a ρ with
    | .ok (.val ow) => if xs.length < 16777216 then putAt i p (fun xs => xs ++ [ow]) ρ else .stuck
    | .err x => .err x ρ
    | _ => .stuck
  | .err x => .err x ρ
  | _ => .stuck

/-! ### a def -/
def runBody (b : SC) (n : Nat) : Fn := fun as => match b (as.map some ++ List.replicate (n - as.length) none) with
  | .next _ => .ok (.fz .none)
  | .ret ow => .ok ow
  | .err x _ => .err x
  | _ => .stuck
end VL

set_option Elab.async false
set_option linter.all false
set_option maxRecDepth 100000
set_option maxHeartbeats 4000000
/-! VL3: what the machine does for an expression is what VL2 computes. -/
namespace VL
open PySem PySem.Spec PyProof.Rows L2

theorem Rp.scal_eq {K : Frag} {H : Hp} {v : V} {d : D} (h : Rp K H v d) (s : scal d = true) : v = vOf d := by
  cases h with
  | non => rfl
  | bl b => rfl
  | int i => rfl
  | str x => rfl
  | lst _ _ => cases s
  | tup _ _ => cases s
theorem Rp.scal {K : Frag} (H : Hp) {d : D} (s : scal d = true) : Rp K H (vOf d) d := by
  cases d with
  | none => exact .non
  | bool b => exact .bl b
  | int i => exact .int i
  | str x => exact .str x
  | list ds => cases s
  | tuple ds => cases s
  | dict ds => cases s
theorem RpAll.scal_eq {K : Frag} {H : Hp} : ∀ {ds : List D} {vs : List V}, RpAll K H vs ds → ds.all VL.scal = true → vs = ds.map vOf
  | [], _, .nil, _ => rfl
  | d :: ds, _, .cons a r, s => by
    simp only [List.all_cons, Bool.and_eq_true] at s
    rw [a.scal_eq s.1, RpAll.scal_eq r s.2]; rfl
theorem RpAll.scal {K : Frag} (H : Hp) : ∀ {ds : List D}, ds.all VL.scal = true → RpAll K H (ds.map vOf) ds
  | [], _ => .nil
  | d :: ds, s => by
    simp only [List.all_cons, Bool.and_eq_true] at s
    exact .cons (Rp.scal H s.1) (RpAll.scal H s.2)
theorem Rp.flat {K : Frag} {H : Hp} {v : V} {d : D} (h : Rp K H v d) (s : VL.scal d = true) : flatV v = true := by
  rw [h.scal_eq s]
  cases d <;> first | rfl | cases s
theorem RpAll.flat {K : Frag} {H : Hp} {vs : List V} {ds : List D} (h : RpAll K H vs ds) (s : ds.all VL.scal = true) : vs.all flatV = true := by
  rw [h.scal_eq s, List.all_eq_true]
  intro v hv
  obtain ⟨d, hd, rfl⟩ := List.mem_map.mp hv
  exact (Rp.scal (K := K) H (List.all_eq_true.mp s d hd)).flat (List.all_eq_true.mp s d hd)

theorem OR.fz_inv {K : Frag} {H F : Hp} {v : V} {d : D} {A : List Addr} (h : OR K H F v (.fz d) A) : A = [] ∧ Rp K F v d := by
  generalize e : Ow.fz d = ow at h
  cases h with
  | fz r => cases e; exact ⟨rfl, r⟩
  | ls _ _ _ _ => cases e
  | tp _ _ _ _ => cases e
theorem OR.ls_inv {K : Frag} {H F : Hp} {v : V} {xs : List Ow} {A : List Addr} (h : OR K H F v (.ls xs) A) : ∃ a vs B, v = .ref a ∧ A = a :: B ∧ H a = some (.lst vs) ∧ F a = none ∧ a ∉ B ∧ ORs K H F vs xs B := by
  generalize e : Ow.ls xs = ow at h
  cases h with
  | fz r => cases e
  | ls h1 h2 h3 h4 => cases e; exact ⟨_, _, _, rfl, rfl, h1, h2, h3, h4⟩
  | tp _ _ _ _ => cases e
theorem OR.tp_inv {K : Frag} {H F : Hp} {v : V} {xs : List Ow} {A : List Addr} (h : OR K H F v (.tp xs) A) : ∃ a vs B, v = .ref a ∧ A = a :: B ∧ H a = some (.tup vs) ∧ F a = none ∧ a ∉ B ∧ ORs K H F vs xs B := by
  generalize e : Ow.tp xs = ow at h
  cases h with
  | fz r => cases e
  | tp h1 h2 h3 h4 => cases e; exact ⟨_, _, _, rfl, rfl, h1, h2, h3, h4⟩
  | ls _ _ _ _ => cases e
/-! ### exceptions, readings -/
def FsOk (K : Frag) (F : Hp) (fs : List (Str × V)) (gs : List (Str × D)) : Prop := Paired (fun p q => p.1 = q.1 ∧ Rp K F p.2 q.2) fs gs
def XOk (K : Frag) (mg : Str → Option Value) (F H : Hp) (cls : Value) (d : Option Addr) (x : Exn) : Prop :=
  ∃ C, mg x.cls = some (.ref C) ∧ cls = .ref C ∧ (x.fs = [] ∨ ∃ dx fs, d = some dx ∧ H dx = some (.xd fs) ∧ FsOk K F fs x.fs)
def rdE (K : Frag) (mg : Str → Option Value) (c : EC) (W : WX) : TE := fun σ H Q => ∃ H0 F0 F ρ, SR K H0 F0 σ H F ρ ∧ match c ρ with
  | .ok rv => ∀ v H' F' A, Gr H F H' F' → RVOk K H0 H' F' σ ρ v A rv → (∀ a ∈ A, H a = none) → Q v H'
  | .err x => ∀ cls d H' F', Gr H F H' F' → XOk K mg F' H' cls d x → W cls d σ H'
  | .stuck => False
def rdT (K : Frag) (mg : Str → Option Value) (c : TC) (W : WX) : TT := fun σ H Q => ∃ H0 F0 F ρ, SR K H0 F0 σ H F ρ ∧ match c ρ with
  | .ok b => ∀ H' F', Gr H F H' F' → Q b H'
  | .err x => ∀ cls d H' F', Gr H F H' F' → XOk K mg F' H' cls d x → W cls d σ H'
  | .stuck => False
def RVs (K : Frag) (H0 H F : Hp) (σ : S) (ρ : Rho) : List V → List Addr → List RV → Prop
  | [], A, [] => A = []
  | v :: vs, A, x :: xs => ∃ A1 A2, A = A1 ++ A2 ∧ RVOk K H0 H F σ ρ v A1 x ∧ RVs K H0 H F σ ρ vs A2 xs ∧ ∀ a ∈ A1, a ∉ A2
  | _, _, _ => False
def rdA (K : Frag) (mg : Str → Option Value) (cs : List EC) (W : WX) : TA := fun σ H Q => ∃ H0 F0 F ρ, SR K H0 F0 σ H F ρ ∧ match evalAll cs ρ with
  | .ok rvs => ∀ vs H' F' A, Gr H F H' F' → RVs K H0 H' F' σ ρ vs A rvs → (∀ a ∈ A, H a = none) → Q vs H'
  | .err x => ∀ cls d H' F', Gr H F H' F' → XOk K mg F' H' cls d x → W cls d σ H'
  | .stuck => False
def EOk (X : Cx) (e : Expr) (c : EC) : Prop := ∀ W, Takes X W → PE X e (rdE X.K X.mg c W)
def TOk (X : Cx) (e : Expr) (c : TC) : Prop := ∀ W, Takes X W → PT X e (rdT X.K X.mg c W)
def WOk (X : Cx) (e : Expr) (c : TC) : Prop := ∀ W, Takes X W → PW X e (rdT X.K X.mg c W)
def AOk (X : Cx) (es : List Expr) (cs : List EC) : Prop := ∀ W, Takes X W → PA X es (rdA X.K X.mg cs W)
theorem pe_mono {X : Cx} {e : Expr} {t t' : TE} (h : PE X e t) (k : ∀ σ H Q, t' σ H Q → t σ H Q) : PE X e t' := ⟨fun pins s σ H Q I q => h.run pins s σ H Q I (k σ H Q q)⟩
theorem pt_mono {X : Cx} {e : Expr} {t t' : TT} (h : PT X e t) (k : ∀ σ H Q, t' σ H Q → t σ H Q) : PT X e t' := ⟨fun pins s σ H Q I q => h.run pins s σ H Q I (k σ H Q q)⟩
theorem pw_mono {X : Cx} {e : Expr} {t t' : TT} (h : PW X e t) (k : ∀ σ H Q, t' σ H Q → t σ H Q) : PW X e t' := ⟨fun wh pins s σ H Q I q => h.run wh pins s σ H Q I (k σ H Q q)⟩
theorem pa_mono {X : Cx} {e : List Expr} {t t' : TA} (h : PA X e t) (k : ∀ σ H Q, t' σ H Q → t σ H Q) : PA X e t' := ⟨fun pos pins s σ H Q I q => h.run pos pins s σ H Q I (k σ H Q q)⟩

section
variable {K : Frag} {mg : Str → Option Value} {W : WX} {σ : S} {H H0 F0 F : Hp} {ρ : Rho}
/-- one value is asked; then what is wanted of it -/
theorem rdE_ok {c : EC} {rv : RV} {Q : VK} (s : SR K H0 F0 σ H F ρ) (h : c ρ = .ok rv) (k : ∀ v H' F' A, Gr H F H' F' → RVOk K H0 H' F' σ ρ v A rv → (∀ a ∈ A, H a = none) → Q v H') : rdE K mg c W σ H Q :=
  ⟨H0, F0, F, ρ, s, by rw [h]; exact k⟩
theorem rdE_err {c : EC} {x : Exn} {Q : VK} (s : SR K H0 F0 σ H F ρ) (h : c ρ = .err x) (k : ∀ cls d H' F', Gr H F H' F' → XOk K mg F' H' cls d x → W cls d σ H') : rdE K mg c W σ H Q :=
  ⟨H0, F0, F, ρ, s, by rw [h]; exact k⟩
theorem rdT_ok {c : TC} {b : Bool} {Q : Bool → Hp → Prop} (s : SR K H0 F0 σ H F ρ) (h : c ρ = .ok b) (k : ∀ H' F', Gr H F H' F' → Q b H') : rdT K mg c W σ H Q :=
  ⟨H0, F0, F, ρ, s, by rw [h]; exact k⟩
theorem rdT_err {c : TC} {x : Exn} {Q : Bool → Hp → Prop} (s : SR K H0 F0 σ H F ρ) (h : c ρ = .err x) (k : ∀ cls d H' F', Gr H F H' F' → XOk K mg F' H' cls d x → W cls d σ H') : rdT K mg c W σ H Q :=
  ⟨H0, F0, F, ρ, s, by rw [h]; exact k⟩
theorem rdA_ok {c : List EC} {rvs : List RV} {Q : List V → Hp → Prop} (s : SR K H0 F0 σ H F ρ) (h : evalAll c ρ = .ok rvs) (k : ∀ vs H' F' A, Gr H F H' F' → RVs K H0 H' F' σ ρ vs A rvs → (∀ a ∈ A, H a = none) → Q vs H') : rdA K mg c W σ H Q :=
  ⟨H0, F0, F, ρ, s, by rw [h]; exact k⟩
theorem rdA_err {c : List EC} {x : Exn} {Q : List V → Hp → Prop} (s : SR K H0 F0 σ H F ρ) (h : evalAll c ρ = .err x) (k : ∀ cls d H' F', Gr H F H' F' → XOk K mg F' H' cls d x → W cls d σ H') : rdA K mg c W σ H Q :=
  ⟨H0, F0, F, ρ, s, by rw [h]; exact k⟩
theorem SR.refl (s : SR K H0 F0 σ H F ρ) : Gr H F H F := Gr.refl s.sub
/-- the continuation of a scalar -/
theorem fin_d {d : D} {Q : VK} (s : SR K H0 F0 σ H F ρ) (hd : scal d = true)
    (k : ∀ v H' F' A, Gr H F H' F' → RVOk K H0 H' F' σ ρ v A (.val (.fz d)) → (∀ a ∈ A, H a = none) → Q v H') : Q (vOf d) H :=
  k _ _ _ [] s.refl (OR.fz (Rp.scal F hd)) fun _ h => by cases h
end

/-! ### names, constants -/
section
variable {X : Cx}
theorem eok_var {i : Nat} {x : Str} {pos : Pos} (hN : X.N[i]? = some x) (hv : Vis X.env.scope x) (hd : (x == ("__debug__" : Str)) = false := by decide) (hcd : (x == ("__classdict__" : Str)) = false := by decide) : EOk X (.Name x pos) (eVar i) := fun W tk =>
  pe_mono (pe_var hN hv hd hcd) fun σ H Q h => by
    obtain ⟨H0, F0, F, ρ, s, h⟩ := h
    obtain ⟨A, hA, _⟩ := s.sl
    have hi := hA i
    unfold eVar at h
    cases e : ρ[i]? with
    | none => rw [e] at h; exact h.elim
    | some o =>
      cases o with
      | none => rw [e] at h; exact h.elim
      | some sl =>
        rw [e] at h hi
        cases sl with
        | own ow =>
          obtain ⟨v, e1, o, _⟩ := hi
          cases ow with
          | fz d => exact ⟨v, e1, h v H F [] s.refl (OR.fz o.fz_inv.2) fun _ z => by cases z⟩
          | ls xs => exact ⟨v, e1, h v H F [] s.refl ⟨rfl, ⟨v, e1, rfl⟩, ⟨_, e, rfl⟩, _, o⟩ fun _ z => by cases z⟩
          | tp xs => exact ⟨v, e1, h v H F [] s.refl ⟨rfl, ⟨v, e1, rfl⟩, ⟨_, e, rfl⟩, _, o⟩ fun _ z => by cases z⟩
        | bor d =>
          obtain ⟨_, v, e1, o⟩ := hi
          refine ⟨v, e1, ?_⟩
          by_cases hs : scal d = true
          · simp only [Sl.rv, hs, if_true] at h
            have ev := o.scal_eq hs
            subst ev
            exact h _ H F [] s.refl (OR.fz (Rp.scal F hs)) fun _ z => by cases z
          · simp only [Sl.rv, hs] at h
            exact h v H F [] s.refl ⟨rfl, o⟩ fun _ z => by cases z
theorem eok_k {e : Expr} {d : D} (hd : scal d = true) (h : PE X e (tC (vOf d))) : EOk X e (eK d) := fun W tk => pe_mono h fun σ H Q q => by
  obtain ⟨H0, F0, F, ρ, s, q⟩ := q
  exact fin_d s hd q
theorem eok_int {i j pos} : EOk X (.Constant (.int i) j pos) (eK (.int i)) := eok_k rfl pe_int
theorem eok_bool {b j pos} : EOk X (.Constant (.bool b) j pos) (eK (.bool b)) := eok_k rfl pe_bl
theorem eok_none {j pos} : EOk X (.Constant .none j pos) (eK .none) := eok_k rfl pe_non
theorem eok_str {x j pos} : EOk X (.Constant (.str x) j pos) (eK (.str x)) := eok_k rfl pe_str
/-- a module's number -/
theorem eok_glob {x : Str} {d : D} {u : Value} {pos : Pos} (hd : scal d = true) (hm : X.mg x = some u) (r : RelV (vOf d) u) (hg : Gl X x := by rfl) (hdb : (x == ("__debug__" : Str)) = false := by decide) : EOk X (.Name x pos) (eK d) := eok_k hd (pe_glob hg hm r hdb)

/-! ### two values, one value -/
/-- by values: what the rule R asks is answered by f -/
def Op2 (X : Cx) (R : R2) (f : RV → RV → Res RV) : Prop := ∀ {H0 F0 F H : Hp} {σ : S} {ρ : Rho} {x y : V} {A B : List Addr} {rx ry : RV} {Q : VK}, SR X.K H0 F0 σ H F ρ → RVOk X.K H0 H F σ ρ x A rx → RVOk X.K H0 H F σ ρ y B ry → (∀ a ∈ A, a ∉ B) →
  match f rx ry with
  | .ok rv => (∀ v H' F' C, Gr H F H' F' → RVOk X.K H0 H' F' σ ρ v C rv → (∀ c ∈ C, c ∈ A ∨ c ∈ B ∨ H c = none) → Q v H') → R x y H Q
  | .err _ => False
  | .stuck => True
def Op1 (X : Cx) (R : V → Hp → VK → Prop) (f : RV → Res RV) : Prop := ∀ {H0 F0 F H : Hp} {σ : S} {ρ : Rho} {x : V} {A : List Addr} {rx : RV} {Q : VK}, SR X.K H0 F0 σ H F ρ → RVOk X.K H0 H F σ ρ x A rx →
  match f rx with
  | .ok rv => (∀ v H' F' C, Gr H F H' F' → RVOk X.K H0 H' F' σ ρ v C rv → (∀ c ∈ C, c ∈ A ∨ H c = none) → Q v H') → R x H Q
  | .err _ => False
  | .stuck => True
theorem eok_bin {e a b : Expr} {ca cb : EC} {R : R2} {f : RV → RV → Res RV} (he : ∀ ta tb, PE X a ta → PE X b tb → PE X e (tOp R ta tb)) (ho : Op2 X R f) (ha : EOk X a ca) (hb : EOk X b cb) : EOk X e (eBin f ca cb) := fun W tk =>
  pe_mono (he _ _ (ha W tk) (hb W tk)) fun σ H Q h => by
    obtain ⟨H0, F0, F, ρ, s, h⟩ := h
    show rdE X.K X.mg ca W σ H fun x H1 => rdE X.K X.mg cb W σ H1 fun y H2 => R x y H2 Q
    unfold eBin at h
    cases e1 : ca ρ with
    | stuck => rw [e1] at h; exact h.elim
    | err x => rw [e1] at h; exact rdE_err s e1 h
    | ok rx =>
      rw [e1] at h
      refine rdE_ok s e1 fun x H1 F1 A g1 o1 n1 => ?_
      have s1 := s.step g1
      cases e2 : cb ρ with
      | stuck => simp only [Res.bind, e2] at h
      | err z =>
        simp only [Res.bind, e2] at h
        exact rdE_err s1 e2 fun cls d H' F' g => h cls d H' F' (g1.trans g)
      | ok ry =>
        simp only [Res.bind, e2] at h
        refine rdE_ok s1 e2 fun y H2 F2 B g2 o2 n2 => ?_
        have s2 := s1.step g2
        have o1' := o1.gr g2
        have dis : ∀ a ∈ A, a ∉ B := fun a ha hb => (o1.there a ha).1 (n2 a hb)
        have op := ho (Q := Q) s2 o1' o2 dis
        cases e3 : f rx ry with
        | stuck => rw [e3] at h; exact h.elim
        | err z => rw [e3] at op; exact op.elim
        | ok rv =>
          rw [e3] at h op
          refine op fun v H' F' C g o n => h v H' F' C ((g1.trans g2).trans g) o fun c hc => ?_
          rcases n c hc with z | z | z
          · exact n1 c z
          · exact g1.hh.none (n2 c z)
          · exact (g1.trans g2).hh.none z
theorem eok_un {e a : Expr} {ca : EC} {R : V → Hp → VK → Prop} {f : RV → Res RV} (he : ∀ ta, PE X a ta → PE X e (tUn R ta)) (ho : Op1 X R f) (ha : EOk X a ca) : EOk X e (eUn f ca) := fun W tk =>
  pe_mono (he _ (ha W tk)) fun σ H Q h => by
    obtain ⟨H0, F0, F, ρ, s, h⟩ := h
    show rdE X.K X.mg ca W σ H fun x H1 => R x H1 Q
    unfold eUn at h
    cases e1 : ca ρ with
    | stuck => rw [e1] at h; exact h.elim
    | err x => rw [e1] at h; exact rdE_err s e1 h
    | ok rx =>
      rw [e1] at h
      simp only [Res.bind] at h
      refine rdE_ok s e1 fun x H1 F1 A g1 o1 n1 => ?_
      have op := ho (Q := Q) (s.step g1) o1
      cases e3 : f rx with
      | stuck => rw [e3] at h; exact h.elim
      | err z => rw [e3] at op; exact op.elim
      | ok rv =>
        rw [e3] at h op
        refine op fun v H' F' C g o n => h v H' F' C (g1.trans g) o fun c hc => ?_
        rcases n c hc with z | z
        · exact n1 c z
        · exact g1.hh.none z

/-! ### operators of ints -/
theorem rp_int {K : Frag} {H : Hp} {v : V} {i : Int} (h : Rp K H v (.int i)) : v = .int i := by cases h; rfl
section
variable {H0 F0 F H : Hp} {σ : S} {ρ : Rho}
theorem op2_i {R : R2} {f : RV → RV → Res RV} (g : Int → Int → D) (C : Int → Int → Bool) (hg : ∀ i j, scal (g i j) = true) (hf : ∀ x y, f x y = match x.d, y.d with
      | .int i, .int j => if C i j = true then rD (g i j) else .stuck
      | _, _ => .stuck) (hR : ∀ i j H Q, C i j = true → Q (vOf (g i j)) H → R (.int i) (.int j) H Q) : Op2 X R f := by
  intro H0 F0 F H σ ρ x y A B rx ry Q s hx hy dis
  rw [hf]
  have px := hx.dp s
  have py := hy.dp s
  cases ex : rx.d with
  | int i =>
    cases ey : ry.d with
    | int j =>
      rw [ex] at px
      rw [ey] at py
      have e1 := rp_int px
      have e2 := rp_int py
      subst e1; subst e2
      by_cases hc : C i j = true
      · simp only [hc, if_true, rD]
        intro k
        exact hR i j H Q hc (fin_d s (hg i j) fun v H' F' A' g o n => k v H' F' A' g o fun c hc => .inr (.inr (n c hc)))
      · simp only [hc]
        trivial
    | _ => trivial
  | _ =>
    cases ry.d <;> trivial
end
end
end VL

set_option Elab.async false
set_option linter.all false
set_option maxRecDepth 100000
set_option maxHeartbeats 4000000
/-! VL4: operators, comparisons, built-in functions, subscripts, displays, calls. -/
namespace VL
open PySem PySem.Spec PyProof.Rows L2

/-! ### items -/
theorem ORs.allfz {K : Frag} {H F : Hp} : ∀ {xs : List Ow} {vs : List V} {A : List Addr}, ORs K H F vs xs A → xs.all isFz = true → A = [] ∧ RpAll K F vs (toDs xs)
  | [], _, _, .nil, _ => ⟨rfl, .nil⟩
  | x :: xs, _, _, .cons h1 h2 h3, e => by
    simp only [List.all_cons, Bool.and_eq_true] at e
    obtain ⟨e1, e2⟩ := e
    obtain ⟨r1, r2⟩ := ORs.allfz h2 e2
    cases x with
    | fz d =>
      obtain ⟨q1, q2⟩ := h1.fz_inv
      subst q1; subst r1
      exact ⟨rfl, .cons q2 r2⟩
    | ls _ => cases e1
    | tp _ => cases e1
section
variable {K : Frag} {mg : Str → Option Value} {W : WX} {σ : S} {H H0 F0 F : Hp} {ρ : Rho}
theorem items_ok {v : V} {A : List Addr} {rv : RV} {xs : List Ow} (s : SR K H0 F0 σ H F ρ) (h : RVOk K H0 H F σ ρ v A rv) (e : rv.items = some xs) :
    ∃ a vs B, v = .ref a ∧ ((isL rv.d = true ∧ LK K H a vs) ∨ (isT rv.d = true ∧ SqT K H a vs)) ∧ ORs K H F vs xs B ∧ ∀ b ∈ B, b ∈ A := by
  match rv, h, e with
  | .val (.fz (.list ds)), h, e =>
    cases e
    obtain ⟨_, r⟩ := OR.fz_inv h
    cases r with
    | lst r ra => exact ⟨_, _, [], rfl, .inl ⟨rfl, s.sub.lk r⟩, ORs.ofDp ra, fun _ z => by cases z⟩
  | .val (.fz (.tuple ds)), h, e =>
    cases e
    obtain ⟨_, r⟩ := OR.fz_inv h
    cases r with
    | tup r ra => exact ⟨_, _, [], rfl, .inr ⟨rfl, s.sub.sqT r⟩, ORs.ofDp ra, fun _ z => by cases z⟩
  | .val (.ls ys), h, e =>
    cases e
    obtain ⟨a, vs, B, rfl, rfl, h1, h2, h3, h4⟩ := OR.ls_inv h
    exact ⟨a, vs, B, rfl, .inl ⟨rfl, .of h1⟩, h4, fun b hb => List.mem_cons_of_mem _ hb⟩
  | .val (.tp ys), h, e =>
    cases e
    obtain ⟨a, vs, B, rfl, rfl, h1, h2, h3, h4⟩ := OR.tp_inv h
    exact ⟨a, vs, B, rfl, .inr ⟨rfl, .of h1⟩, h4, fun b hb => List.mem_cons_of_mem _ hb⟩
  | .ref i p (.ls ys), ⟨_, _, _, B, h⟩, e =>
    unfold RV.items at e
    by_cases hf : ys.all isFz = true
    · simp only [hf, if_true] at e
      cases e
      obtain ⟨a, vs, B, rfl, rfl, h1, h2, h3, h4⟩ := OR.ls_inv h
      obtain ⟨e1, _⟩ := h4.allfz hf
      subst e1
      exact ⟨a, vs, [], rfl, .inl ⟨rfl, .of h1⟩, h4, fun _ z => by cases z⟩
    · simp only [hf] at e
      cases e
  | .ref i p (.tp ys), ⟨_, _, _, B, h⟩, e =>
    unfold RV.items at e
    by_cases hf : ys.all isFz = true
    · simp only [hf, if_true] at e
      cases e
      obtain ⟨a, vs, B, rfl, rfl, h1, h2, h3, h4⟩ := OR.tp_inv h
      obtain ⟨e1, _⟩ := h4.allfz hf
      subst e1
      exact ⟨a, vs, [], rfl, .inr ⟨rfl, .of h1⟩, h4, fun _ z => by cases z⟩
    · simp only [hf] at e
      cases e
  | .bor (.list ds), ⟨_, h⟩, e =>
    unfold RV.items at e
    by_cases hf : ds.all scal = true
    · simp only [hf, if_true] at e
      cases e
      cases h with
      | lst r ra =>
        have ev := ra.scal_eq hf
        subst ev
        exact ⟨_, _, [], rfl, .inl ⟨rfl, s.gr.hh.lk r⟩, ORs.ofDp (RpAll.scal F hf), fun _ z => by cases z⟩
    · simp only [hf] at e
      cases e
  | .bor (.tuple ds), ⟨_, h⟩, e =>
    unfold RV.items at e
    by_cases hf : ds.all scal = true
    · simp only [hf, if_true] at e
      cases e
      cases h with
      | tup r ra =>
        have ev := ra.scal_eq hf
        subst ev
        exact ⟨_, _, [], rfl, .inr ⟨rfl, s.gr.hh.sqT r⟩, ORs.ofDp (RpAll.scal F hf), fun _ z => by cases z⟩
    · simp only [hf] at e
      cases e
/-- a new list, a new tuple -/
theorem fin_ls {p : Addr} {vs : List V} {xs : List Ow} {B : List Addr} (s : SR K H0 F0 σ H F ρ) (o : ORs K H F vs xs B) (hp : H p = none) :
    Gr H F (upd H p (.lst vs)) F ∧ RVOk K H0 (upd H p (.lst vs)) F σ ρ (.ref p) (p :: B) (.val (.ls xs)) := by
  have g : Gr H F (upd H p (.lst vs)) F := Gr.laid s.sub hp
  refine ⟨g, OR.ls upd_same (s.sub.none hp) (fun hb => ?_) (o.gr g)⟩
  exact (o.there p hb).1 hp
theorem fin_tup {p : Addr} {vs : List V} {xs : List Ow} {B : List Addr} (s : SR K H0 F0 σ H F ρ) (o : ORs K H F vs xs B) (hp : H p = none) :
    ∃ F' C, Gr H F (upd H p (.tup vs)) F' ∧ RVOk K H0 (upd H p (.tup vs)) F' σ ρ (.ref p) C (.val (mkTup xs)) ∧ ∀ c ∈ C, c = p ∨ c ∈ B := by
  have g : Gr H F (upd H p (.tup vs)) F := Gr.laid s.sub hp
  have fp := s.sub.none hp
  unfold mkTup
  by_cases hf : xs.all isFz = true
  · obtain ⟨_, ra⟩ := o.allfz hf
    have g2 := g.frozen (A := [p]) (fun a h => by simp at h; subst h; exact hp) (fun a h => by simp at h; subst h; exact fp)
    refine ⟨_, [], g2, ?_, fun _ h => by cases h⟩
    rw [if_pos hf]
    exact OR.fz (.tup (.of (by rw [frz_in (by simp)]; exact upd_same)) (ra.mono g2.ff))
  · refine ⟨F, p :: B, g, ?_, fun c hc => List.mem_cons.mp hc⟩
    rw [if_neg hf]
    exact OR.tp upd_same fp (fun hb => (o.there p hb).1 hp) (o.gr g)
end

/-! ### operators -/
section
variable {X : Cx}
theorem rd_lstM {pins : List (Addr × Obj)} {σ : S} {H : Hp} {s : Shared} {l : Addr} {xs : List V} (I : Inv X pins σ H s) (h : LK X.K H l xs) :
    xs.length ≤ sizeLine ∧ ∃ (its : List Value) (n : Nat), Vals xs its ∧ xs.length = its.length ∧ s.heap.get? l = some { cls := .type "list", data := .seq its.toArray n } := by
  rcases h with h | ⟨its, n, hk, hz, r⟩
  · obtain ⟨z, its, n, r, e⟩ := h.ok I.hok
    exact ⟨z, its, n, r, r.length, e⟩
  · have e := r.length
    exact ⟨by rw [e]; simpa using hz, its.toList, n, r, e, by simpa using I.kIn l _ hk⟩
def rCatR (K : Frag) : R2 := fun x y H Q => ∃ l b xs zs, x = .ref l ∧ y = .ref b ∧ LK K H l xs ∧ LK K H b zs ∧ xs.length + zs.length ≤ sizeLine ∧ ∀ p, H p = none → Q (.ref p) (upd H p (.lst (xs ++ zs)))
theorem op_catR : OpR X (binaryOp .Add) (rCatR X.K) := by
  intro pins s σ H x y v u Q I rx ry h
  obtain ⟨l, b, xs, zs, rfl, rfl, hH, hB, hz, q⟩ := h
  cases rx
  cases ry
  obtain ⟨z, its, n, r, hl, e⟩ := rd_lstM I hH
  obtain ⟨z2, its2, n2, r2, hl2, e2⟩ := rd_lstM I hB
  refine PySem.P.add_list e e2 ?_ (by rw [List.size_toArray, List.size_toArray]; omega)
  have ea : its.toArray ++ its2.toArray = (its ++ its2).toArray := by simp
  rw [ea]
  exact ⟨.ref _, _, I.lnew (t' := s.toks) (r.append r2) (by rw [List.length_append]; omega), rfl, q _ I.fresh⟩
def rAddV (K : Frag) : R2 := fun x y H Q => (rI0 (fun i j => .int (i + j)) x y H Q ∨ rCatR K x y H Q) ∨ ∃ i j, x = .str i ∧ y = .str j ∧ i.length + j.length ≤ sizeLine ∧ Q (.str (i ++ j)) H
theorem rp_str {K : Frag} {H : Hp} {v : V} {x : Str} (h : Rp K H v (.str x)) : v = .str x := by cases h; rfl
theorem op2_add : Op2 X (rAddV X.K) fAdd := by
  intro H0 F0 F H σ ρ x y A B rx ry Q s hx hy dis
  unfold fAdd
  have px := hx.dp s
  have py := hy.dp s
  cases ex : rx.d with
  | int i =>
    cases ey : ry.d with
    | int j =>
      rw [ex] at px; rw [ey] at py
      obtain rfl := rp_int px
      obtain rfl := rp_int py
      intro k
      exact .inl (.inl ⟨i, j, rfl, rfl, fin_d s (d := .int (i + j)) rfl fun v H' F' A' g o n => k v H' F' A' g o fun c hc => .inr (.inr (n c hc))⟩)
    | _ => trivial
  | str i =>
    cases ey : ry.d with
    | str j =>
      rw [ex] at px; rw [ey] at py
      obtain rfl := rp_str px
      obtain rfl := rp_str py
      by_cases hc : i.length + j.length ≤ 16777216
      · simp only [hc, if_true, rD]
        intro k
        exact .inr ⟨i, j, rfl, rfl, by rw [sizeLine_eq]; exact hc, fin_d s (d := .str (i ++ j)) rfl fun v H' F' A' g o n => k v H' F' A' g o fun c hc => .inr (.inr (n c hc))⟩
      · simp only [hc]
        trivial
    | _ => trivial
  | list ds =>
    cases ey : ry.d with
    | list es =>
      simp only [catL]
      cases e1 : rx.items with
      | none => trivial
      | some xs =>
        cases e2 : ry.items with
        | none => trivial
        | some ys =>
          by_cases hc : xs.length + ys.length ≤ 16777216
          · simp only [hc, if_true]
            intro k
            obtain ⟨a, vs, A', rfl, ha, oa, na⟩ := items_ok s hx e1
            obtain ⟨b, ws, B', rfl, hb, ob, nb⟩ := items_ok s hy e2
            rw [ex] at ha; rw [ey] at hb
            rcases ha with ⟨_, ha⟩ | ⟨z, _⟩
            · rcases hb with ⟨_, hb⟩ | ⟨z, _⟩
              · refine .inl (.inr ⟨a, b, vs, ws, rfl, rfl, ha, hb, by rw [oa.length, ob.length, sizeLine_eq]; exact hc, fun p hp => ?_⟩)
                have o2 := oa.append ob fun z h1 h2 => dis z (na z h1) (nb z h2)
                obtain ⟨g, o⟩ := fin_ls s o2 hp
                refine k _ _ _ _ g o fun c hc => ?_
                rcases List.mem_cons.mp hc with rfl | hc
                · exact .inr (.inr hp)
                · rcases List.mem_append.mp hc with q | q
                  · exact .inl (na c q)
                  · exact .inr (.inl (nb c q))
              · cases z
            · cases z
          · simp only [hc]
            trivial
    | _ => trivial
  | _ =>
    cases ry.d <;> trivial
theorem opR_add : OpR X (binaryOp .Add) (rAddV X.K) := (op_add.or op_catR).or op_add_str
variable {a b : Expr} {ca cb : EC} {pos : Pos}
theorem eok_add (ha : EOk X a ca) (hb : EOk X b cb) : EOk X (.BinOp a .Add b pos) (eBin fAdd ca cb) := eok_bin (fun _ _ h1 h2 => pe_op opR_add h1 h2) op2_add ha hb
theorem op2_sub : Op2 X (rI0 fun i j => .int (i - j)) fSub := op2_i (fun i j => .int (i - j)) (fun _ _ => true) (fun _ _ => rfl) (fun x y => by unfold fSub; split <;> simp_all) fun i j H Q _ q => ⟨i, j, rfl, rfl, q⟩
theorem eok_sub (ha : EOk X a ca) (hb : EOk X b cb) : EOk X (.BinOp a .Sub b pos) (eBin fSub ca cb) := eok_bin (fun _ _ h1 h2 => pe_op op_sub h1 h2) op2_sub ha hb
theorem op2_mul : Op2 X (rI CMul fun i j => .int (i * j)) fMul := op2_i (fun i j => .int (i * j)) mulOk (fun _ _ => rfl) (fun x y => by unfold fMul; split <;> simp_all) fun i j H Q h q => ⟨i, j, rfl, rfl, by
  simp only [mulOk, Bool.or_eq_true, Bool.and_eq_true, decide_eq_true_eq] at h
  exact h, q⟩
theorem eok_mul (ha : EOk X a ca) (hb : EOk X b cb) : EOk X (.BinOp a .Mult b pos) (eBin fMul ca cb) := eok_bin (fun _ _ h1 h2 => pe_op op_mul h1 h2) op2_mul ha hb
theorem op2_div : Op2 X (rI CDiv fun i j => .int (i / j)) fDiv := op2_i (fun i j => .int (i / j)) (fun _ j => decide (0 < j ∧ j < 1073741824)) (fun _ _ => rfl) (fun x y => by unfold fDiv; split <;> simp_all) fun i j H Q h q => ⟨i, j, rfl, rfl, by (first | unfold CDiv | unfold CPow); exact of_decide_eq_true h, q⟩
theorem eok_div (ha : EOk X a ca) (hb : EOk X b cb) : EOk X (.BinOp a .FloorDiv b pos) (eBin fDiv ca cb) := eok_bin (fun _ _ h1 h2 => pe_op op_fdiv h1 h2) op2_div ha hb
theorem op2_mod : Op2 X (rI (fun _ j => 0 < j) fun i j => .int (i % j)) fMod := op2_i (fun i j => .int (i % j)) (fun _ j => decide (0 < j)) (fun _ _ => rfl) (fun x y => by unfold fMod; split <;> simp_all) fun i j H Q h q => ⟨i, j, rfl, rfl, of_decide_eq_true h, q⟩
theorem eok_mod (ha : EOk X a ca) (hb : EOk X b cb) : EOk X (.BinOp a .Mod b pos) (eBin fMod ca cb) := eok_bin (fun _ _ h1 h2 => pe_op op_mod h1 h2) op2_mod ha hb
theorem op2_pow : Op2 X (rI CPow fun i j => .int (i ^ j.toNat)) fPow := op2_i (fun i j => .int (i ^ j.toNat)) (fun i j => decide (0 ≤ j ∧ j ≤ 1000000 ∧ i.natAbs < 2 ^ 64)) (fun _ _ => rfl) (fun x y => by unfold fPow; split <;> simp_all) fun i j H Q h q => ⟨i, j, rfl, rfl, by (first | unfold CDiv | unfold CPow); exact of_decide_eq_true h, q⟩
theorem eok_pow (ha : EOk X a ca) (hb : EOk X b cb) : EOk X (.BinOp a .Pow b pos) (eBin fPow ca cb) := eok_bin (fun _ _ h1 h2 => pe_op op_pow h1 h2) op2_pow ha hb
theorem op2_shl : Op2 X (rI CPow fun i j => .int (i * 2 ^ j.toNat)) fShl := op2_i (fun i j => .int (i * 2 ^ j.toNat)) (fun i j => decide (0 ≤ j ∧ j ≤ 1000000 ∧ i.natAbs < 2 ^ 64)) (fun _ _ => rfl) (fun x y => by unfold fShl; split <;> simp_all) fun i j H Q h q => ⟨i, j, rfl, rfl, by (first | unfold CDiv | unfold CPow); exact of_decide_eq_true h, q⟩
theorem eok_shl (ha : EOk X a ca) (hb : EOk X b cb) : EOk X (.BinOp a .LShift b pos) (eBin fShl ca cb) := eok_bin (fun _ _ h1 h2 => pe_op op_shl h1 h2) op2_shl ha hb
/-- comparisons of ints -/
theorem op2_lt : Op2 X (rI0 fun i j => .bl (decide (i < j))) fLt := op2_i (fun i j => .bool (decide (i < j))) (fun _ _ => true) (fun _ _ => rfl) (fun x y => by unfold fLt; split <;> simp_all) fun i j H Q _ q => ⟨i, j, rfl, rfl, q⟩
theorem op2_le : Op2 X (rI0 fun i j => .bl (decide (i ≤ j))) fLe := op2_i (fun i j => .bool (decide (i ≤ j))) (fun _ _ => true) (fun _ _ => rfl) (fun x y => by unfold fLe; split <;> simp_all) fun i j H Q _ q => ⟨i, j, rfl, rfl, q⟩
theorem op2_gt : Op2 X (rI0 fun i j => .bl (decide (j < i))) fGt := op2_i (fun i j => .bool (decide (j < i))) (fun _ _ => true) (fun _ _ => rfl) (fun x y => by unfold fGt; split <;> simp_all) fun i j H Q _ q => ⟨i, j, rfl, rfl, q⟩
theorem op2_ge : Op2 X (rI0 fun i j => .bl (decide (j ≤ i))) fGe := op2_i (fun i j => .bool (decide (j ≤ i))) (fun _ _ => true) (fun _ _ => rfl) (fun x y => by unfold fGe; split <;> simp_all) fun i j H Q _ q => ⟨i, j, rfl, rfl, q⟩
/-- == of data -/
theorem op2_eq : Op2 X (rEqD X.K) fEq := by
  intro H0 F0 F H σ ρ x y A B rx ry Q s hx hy dis
  unfold fEq
  by_cases hc : SeqAt.shaped rx.d = true ∧ SeqAt.shaped ry.d = true
  · simp only [hc, and_self, if_true, rD]
    intro k
    exact ⟨rx.d, ry.d, (hx.dp s).dp, (hy.dp s).dp, hc.1, hc.2, fin_d s (d := .bool _) rfl fun v H' F' A' g o n => k v H' F' A' g o fun c hc => .inr (.inr (n c hc))⟩
  · simp only [hc]
    trivial
theorem op2_ne : Op2 X (rNeD X.K) fNe := by
  intro H0 F0 F H σ ρ x y A B rx ry Q s hx hy dis
  unfold fNe
  by_cases hc : SeqAt.shaped rx.d = true ∧ SeqAt.shaped ry.d = true
  · simp only [hc, and_self, if_true, rD]
    intro k
    exact ⟨rx.d, ry.d, (hx.dp s).dp, (hy.dp s).dp, hc.1, hc.2, fin_d s (d := .bool _) rfl fun v H' F' A' g o n => k v H' F' A' g o fun c hc => .inr (.inr (n c hc))⟩
  · simp only [hc]
    trivial
theorem inV_eq (d : D) : ∀ ds : List D, inV (vOf d) (ds.map vOf) = ds.any fun e => eqF e d
  | [] => rfl
  | e :: es => by
    show (eqV (vOf e) (vOf d) || inV (vOf d) (es.map vOf)) = (eqF e d || es.any fun e => eqF e d)
    rw [inV_eq d es]; rfl
theorem rowOf_rp {K : Frag} {H : Hp} {v : V} {d : D} {ds : List D} (h : Rp K H v d) (e : rowOf d = some ds) : ∃ a vs, v = .ref a ∧ (SqL K H a vs ∨ SqT K H a vs) ∧ RpAll K H vs ds := by
  cases h with
  | lst r ra => cases e; exact ⟨_, _, rfl, .inl (r.sqL), ra⟩
  | tup r ra => cases e; exact ⟨_, _, rfl, .inr r, ra⟩
  | _ => cases e
theorem op2_in : Op2 X (rIn X.K false) fIn := by
  intro H0 F0 F H σ ρ x y A B rx ry Q s hx hy dis
  unfold fIn
  cases e : rowOf ry.d with
  | none => trivial
  | some ds =>
    by_cases hc : scal rx.d = true ∧ ds.all scal = true
    · simp only [hc, and_self, if_true, rD]
      intro k
      obtain ⟨a, vs, rfl, hq, ra⟩ := rowOf_rp (hy.dp s) e
      have ex := (hx.dp s).scal_eq hc.1
      refine ⟨a, vs, rfl, hq, (hx.dp s).flat hc.1, ra.flat hc.2, ?_⟩
      rw [ex, ra.scal_eq hc.2]
      show Q (.bl (inV (vOf rx.d) (ds.map vOf))) H
      rw [inV_eq]
      exact fin_d s (d := .bool _) rfl fun v H' F' A' g o n => k v H' F' A' g o fun c hc => .inr (.inr (n c hc))
    · simp only [hc]
      trivial
theorem op2_notIn : Op2 X (rIn X.K true) fNotIn := by
  intro H0 F0 F H σ ρ x y A B rx ry Q s hx hy dis
  unfold fNotIn
  cases e : rowOf ry.d with
  | none => trivial
  | some ds =>
    by_cases hc : scal rx.d = true ∧ ds.all scal = true
    · simp only [hc, and_self, if_true, rD]
      intro k
      obtain ⟨a, vs, rfl, hq, ra⟩ := rowOf_rp (hy.dp s) e
      have ex := (hx.dp s).scal_eq hc.1
      refine ⟨a, vs, rfl, hq, (hx.dp s).flat hc.1, ra.flat hc.2, ?_⟩
      rw [ex, ra.scal_eq hc.2]
      show Q (.bl (!inV (vOf rx.d) (ds.map vOf))) H
      rw [inV_eq]
      exact fin_d s (d := .bool _) rfl fun v H' F' A' g o n => k v H' F' A' g o fun c hc => .inr (.inr (n c hc))
    · simp only [hc]
      trivial
theorem Rp.isNone {K : Frag} {H : Hp} {v : V} {d : D} (h : Rp K H v d) : decide (v = .non) = isN d := by
  cases h with
  | non => rfl
  | _ => exact decide_eq_false (fun q => by cases q)
theorem pe_un_isN {a : Expr} {j pos'} (ta : TE) (ha : PE X a ta) : PE X (.Compare a [.Is] [.Constant .none j pos'] pos) (tUn (fun x H Q => Q (.bl (decide (x = .non))) H) ta) := pe_cmp (pc_isN ha)
theorem pe_un_notN {a : Expr} {j pos'} (ta : TE) (ha : PE X a ta) : PE X (.Compare a [.IsNot] [.Constant .none j pos'] pos) (tUn (fun x H Q => Q (.bl (!decide (x = .non))) H) ta) := pe_cmp (pc_notN ha)
theorem pt_un_isN {a : Expr} {j pos'} (ta : TE) (ha : PE X a ta) : PT X (.Compare a [.Is] [.Constant .none j pos'] pos) (tTest (tUn (fun x H Q => Q (.bl (decide (x = .non))) H) ta)) := pt_cmp (pc_isN ha)
theorem pt_un_notN {a : Expr} {j pos'} (ta : TE) (ha : PE X a ta) : PT X (.Compare a [.IsNot] [.Constant .none j pos'] pos) (tTest (tUn (fun x H Q => Q (.bl (!decide (x = .non))) H) ta)) := pt_cmp (pc_notN ha)
theorem op1_isN : Op1 X (fun x H Q => Q (.bl (decide (x = .non))) H) fIsN := by
  intro H0 F0 F H σ ρ x A rx Q s hx k
  show Q (.bl (decide (x = .non))) H
  rw [(hx.dp s).isNone]
  exact fin_d s (d := .bool _) rfl fun v H' F' A' g o n => k v H' F' A' g o fun c hc => .inr (n c hc)
theorem op1_notN : Op1 X (fun x H Q => Q (.bl (!decide (x = .non))) H) fNotN := by
  intro H0 F0 F H σ ρ x A rx Q s hx k
  show Q (.bl (!decide (x = .non))) H
  rw [(hx.dp s).isNone]
  exact fin_d s (d := .bool _) rfl fun v H' F' A' g o n => k v H' F' A' g o fun c hc => .inr (n c hc)
theorem eok_isN {j pos'} (ha : EOk X a ca) : EOk X (.Compare a [.Is] [.Constant .none j pos'] pos) (eUn fIsN ca) := eok_un (fun ta h => pe_un_isN ta h) op1_isN ha
theorem eok_notN {j pos'} (ha : EOk X a ca) : EOk X (.Compare a [.IsNot] [.Constant .none j pos'] pos) (eUn fNotN ca) := eok_un (fun ta h => pe_un_notN ta h) op1_notN ha
/-- a comparison, by its rule -/
theorem eok_cmp {op : CmpOp} {R : R2} {f : RV → RV → Res RV} (ho : OpR X (compareOp op) R) (o2 : Op2 X R f) (ha : EOk X a ca) (hb : EOk X b cb) (hm : behindInMarks op b = false) : EOk X (.Compare a [op] [b] pos) (eBin f ca cb) :=
  eok_bin (fun _ _ h1 h2 => pe_cmpR ho h1 h2 hm) o2 ha hb

/-! ### tests -/
theorem rdT_B {K : Frag} {mg : Str → Option Value} {c : EC} {W : WX} {σ : S} {H : Hp} {Q : Bool → Hp → Prop} (h : rdT K mg (tB c) W σ H Q) : rdE K mg c W σ H (fun x H' => ∃ k, x = .bl k ∧ Q k H') := by
  obtain ⟨H0, F0, F, ρ, s, h⟩ := h
  unfold tB at h
  cases e : c ρ with
  | stuck => rw [e] at h; exact h.elim
  | err x => rw [e] at h; exact rdE_err s e h
  | ok rv =>
    rw [e] at h
    simp only [Res.bind] at h
    refine rdE_ok s e fun v H' F' A g o n => ?_
    have p := o.dp (s.step g)
    cases ed : rv.d with
    | bool b =>
      rw [ed] at p h
      cases p
      exact ⟨b, rfl, h H' F' g⟩
    | _ => rw [ed] at h; exact h.elim
theorem tok_of {e : Expr} {c : EC} (he : ∀ t, PE X e t → PT X e (tTest t)) (h : EOk X e c) : TOk X e (tB c) := fun W tk => pt_mono (he _ (h W tk)) fun σ H Q q => rdT_B q
theorem tok_val {e : Expr} {c : EC} (h : EOk X e c) (he : ∀ whole, isTrue e X.env whole = (do let v ← whole; standAt e.pos; holding [v] (truthy v)) := by intro _; rfl) : TOk X e (tB c) := tok_of (fun t ht => pt_val ht he) h
theorem bin_rd {K : Frag} {ca cb : EC} {R : R2} {f : RV → RV → Res RV} {W : WX} {σ : S} {H : Hp} {Q : VK} {mg : Str → Option Value} (hK : X.K = K) (o2 : Op2 X R f) (h : rdE K mg (eBin f ca cb) W σ H Q) : tOp R (rdE K mg ca W) (rdE K mg cb W) σ H Q := by
  subst hK
  obtain ⟨H0, F0, F, ρ, s, h⟩ := h
  show rdE X.K mg ca W σ H fun x H1 => rdE X.K mg cb W σ H1 fun y H2 => R x y H2 Q
  unfold eBin at h
  cases e1 : ca ρ with
  | stuck => rw [e1] at h; exact h.elim
  | err x => rw [e1] at h; exact rdE_err s e1 h
  | ok rx =>
    rw [e1] at h
    refine rdE_ok s e1 fun x H1 F1 A g1 o1 n1 => ?_
    have s1 := s.step g1
    cases e2 : cb ρ with
    | stuck => simp only [Res.bind, e2] at h
    | err z =>
      simp only [Res.bind, e2] at h
      exact rdE_err s1 e2 fun cls d H' F' g => h cls d H' F' (g1.trans g)
    | ok ry =>
      simp only [Res.bind, e2] at h
      refine rdE_ok s1 e2 fun y H2 F2 B g2 o2' n2 => ?_
      have s2 := s1.step g2
      have o1' := o1.gr g2
      have dis : ∀ a ∈ A, a ∉ B := fun a ha hb => (o1.there a ha).1 (n2 a hb)
      have op := o2 (Q := Q) s2 o1' o2' dis
      cases e3 : f rx ry with
      | stuck => rw [e3] at h; exact h.elim
      | err z => rw [e3] at op; exact op.elim
      | ok rv =>
        rw [e3] at h op
        refine op fun v H' F' C g o n => h v H' F' C ((g1.trans g2).trans g) o fun c hc => ?_
        rcases n c hc with z | z | z
        · exact n1 c z
        · exact g1.hh.none (n2 c z)
        · exact (g1.trans g2).hh.none z
theorem tok_cmp {op : CmpOp} {R : R2} {f : RV → RV → Res RV} (ho : OpR X (compareOp op) R) (o2 : Op2 X R f) (ha : EOk X a ca) (hb : EOk X b cb) (hm : behindInMarks op b = false) : TOk X (.Compare a [op] [b] pos) (tB (eBin f ca cb)) := fun W tk =>
  pt_mono (pt_cmpR ho (ha W tk) (hb W tk) hm) fun σ H Q q => bin_rd (X := X) rfl o2 (rdT_B q)
theorem un_rd {K : Frag} {ca : EC} {R : V → Hp → VK → Prop} {f : RV → Res RV} {W : WX} {σ : S} {H : Hp} {Q : VK} {mg : Str → Option Value} (hK : X.K = K) (o1 : Op1 X R f) (h : rdE K mg (eUn f ca) W σ H Q) : tUn R (rdE K mg ca W) σ H Q := by
  subst hK
  obtain ⟨H0, F0, F, ρ, s, h⟩ := h
  show rdE X.K mg ca W σ H fun x H1 => R x H1 Q
  unfold eUn at h
  cases e1 : ca ρ with
  | stuck => rw [e1] at h; exact h.elim
  | err x => rw [e1] at h; exact rdE_err s e1 h
  | ok rx =>
    rw [e1] at h
    simp only [Res.bind] at h
    refine rdE_ok s e1 fun x H1 F1 A g1 ox n1 => ?_
    have op := o1 (Q := Q) (s.step g1) ox
    cases e3 : f rx with
    | stuck => rw [e3] at h; exact h.elim
    | err z => rw [e3] at op; exact op.elim
    | ok rv =>
      rw [e3] at h op
      refine op fun v H' F' C g o n => h v H' F' C (g1.trans g) o fun c hc => ?_
      rcases n c hc with z | z
      · exact n1 c z
      · exact g1.hh.none z
theorem tok_isN {j pos'} (ha : EOk X a ca) : TOk X (.Compare a [.Is] [.Constant .none j pos'] pos) (tB (eUn fIsN ca)) := fun W tk => pt_mono (pt_un_isN _ (ha W tk)) fun σ H Q q => un_rd (X := X) rfl op1_isN (rdT_B q)
theorem tok_notN {j pos'} (ha : EOk X a ca) : TOk X (.Compare a [.IsNot] [.Constant .none j pos'] pos) (tB (eUn fNotN ca)) := fun W tk => pt_mono (pt_un_notN _ (ha W tk)) fun σ H Q q => un_rd (X := X) rfl op1_notN (rdT_B q)
/-- truth -/
theorem truv_of {K : Frag} {H : Hp} {v : V} {d : D} (h : Rp K H v d) (hs : ∀ x, d = .str x → x.length ≤ sizeLine) : TruV K v H (truthD d) := by
  cases h with
  | non => rfl
  | bl b => rfl
  | int i => rfl
  | str x => exact ⟨hs x rfl, by
      show (x.length != 0) = ((x.length : Int) != 0)
      cases x.length <;> rfl⟩
  | lst r ra =>
    refine .inl ⟨_, r.sqL, ?_⟩
    cases ra <;> rfl
  | tup r ra =>
    refine .inr (.inl ⟨_, r, ?_⟩)
    cases ra <;> rfl
def notStr : D → Bool
  | .str _ => false
  | _ => true
end
end VL

set_option Elab.async false
set_option linter.all false
set_option maxRecDepth 100000
set_option maxHeartbeats 4000000
/-! VL5: and, or, not, built-in functions, subscripts, displays, calls. -/
namespace VL
open PySem PySem.Spec PyProof.Rows L2
section
variable {X : Cx} {a b c : Expr} {ta tb : TC} {ca cb cc : EC} {rest : List Expr} {pos : Pos}
theorem wok_and1 (ha : TOk X a ta) : WOk X (.BoolOp .And [a] pos) ta := fun W tk => pw_and1 (ha W tk)
theorem wok_or1 (ha : TOk X a ta) : WOk X (.BoolOp .Or [a] pos) ta := fun W tk => pw_or1 (ha W tk)
theorem wok_and (ha : TOk X a ta) (hb : WOk X (.BoolOp .And (b :: rest) pos) tb) : WOk X (.BoolOp .And (a :: b :: rest) pos) (tAnd ta tb) := fun W tk =>
  pw_mono (pw_and (ha W tk) (hb W tk)) fun σ H Q h => by
    obtain ⟨H0, F0, F, ρ, s, h⟩ := h
    show rdT X.K X.mg ta W σ H fun c H1 => if c = true then rdT X.K X.mg tb W σ H1 Q else Q false H1
    unfold tAnd at h
    cases e1 : ta ρ with
    | stuck => rw [e1] at h; exact h.elim
    | err x => rw [e1] at h; exact rdT_err s e1 h
    | ok x =>
      rw [e1] at h
      refine rdT_ok s e1 fun H1 F1 g1 => ?_
      cases x with
      | false => exact h H1 F1 g1
      | true =>
        simp only [Res.bind, if_true] at h ⊢
        cases e2 : tb ρ with
        | stuck => rw [e2] at h; exact h.elim
        | err x => rw [e2] at h; exact rdT_err (s.step g1) e2 fun cls d H' F' g => h cls d H' F' (g1.trans g)
        | ok y => rw [e2] at h; exact rdT_ok (s.step g1) e2 fun H2 F2 g2 => h H2 F2 (g1.trans g2)
theorem wok_or (ha : TOk X a ta) (hb : WOk X (.BoolOp .Or (b :: rest) pos) tb) : WOk X (.BoolOp .Or (a :: b :: rest) pos) (tOr ta tb) := fun W tk =>
  pw_mono (pw_or (ha W tk) (hb W tk)) fun σ H Q h => by
    obtain ⟨H0, F0, F, ρ, s, h⟩ := h
    show rdT X.K X.mg ta W σ H fun c H1 => if c = true then Q true H1 else rdT X.K X.mg tb W σ H1 Q
    unfold tOr at h
    cases e1 : ta ρ with
    | stuck => rw [e1] at h; exact h.elim
    | err x => rw [e1] at h; exact rdT_err s e1 h
    | ok x =>
      rw [e1] at h
      refine rdT_ok s e1 fun H1 F1 g1 => ?_
      cases x with
      | true => exact h H1 F1 g1
      | false =>
        simp only [Res.bind, Bool.false_eq_true, if_false] at h ⊢
        cases e2 : tb ρ with
        | stuck => rw [e2] at h; exact h.elim
        | err x => rw [e2] at h; exact rdT_err (s.step g1) e2 fun cls d H' F' g => h cls d H' F' (g1.trans g)
        | ok y => rw [e2] at h; exact rdT_ok (s.step g1) e2 fun H2 F2 g2 => h H2 F2 (g1.trans g2)
theorem tok_w {e : Expr} (h : WOk X e ta) : TOk X e ta := fun W tk => (h W tk).pt
theorem tok_not (ha : TOk X a ta) : TOk X (.UnaryOp .Not a pos) (tNot ta) := fun W tk => pt_mono (pt_not (ha W tk)) fun σ H Q h => by
  obtain ⟨H0, F0, F, ρ, s, h⟩ := h
  show rdT X.K X.mg ta W σ H fun c H1 => Q (!c) H1
  unfold tNot at h
  cases e1 : ta ρ with
  | stuck => rw [e1] at h; exact h.elim
  | err x => rw [e1] at h; exact rdT_err s e1 h
  | ok x => rw [e1] at h; exact rdT_ok s e1 h
theorem tok_truth (ha : EOk X a ca) (hn : ∀ ρ rv, ca ρ = .ok rv → notStr rv.d = true) (he : ∀ whole, isTrue a X.env whole = (do let v ← whole; standAt a.pos; holding [v] (truthy v)) := by intro _; rfl) : TOk X a (tTr ca) := fun W tk =>
  pt_mono (pt_truth (ha W tk) he) fun σ H Q h => by
    obtain ⟨H0, F0, F, ρ, s, h⟩ := h
    show rdE X.K X.mg ca W σ H fun x H1 => ∃ k, TruV X.K x H1 k ∧ Q k H1
    unfold tTr at h
    cases e1 : ca ρ with
    | stuck => rw [e1] at h; exact h.elim
    | err x => rw [e1] at h; exact rdE_err s e1 h
    | ok x =>
      rw [e1] at h
      refine rdE_ok s e1 fun v H' F' A g o n => ⟨truthD x.d, truv_of (o.dp (s.step g)) (fun y ey => ?_), h H' F' g⟩
      have := hn ρ x e1
      rw [ey] at this
      cases this
/-- values -/
theorem bool_of {K : Frag} {H : Hp} {v : V} {b : Bool} (h : Rp K H v (.bool b)) : v = .bl b := by cases h; rfl
theorem eok_one {op} (h : EOk X a ca) : EOk X (.BoolOp op [a] pos) ca := fun W tk => pe_one (h W tk)
theorem eok_and (ha : EOk X a ca) (hb : EOk X (.BoolOp .And (b :: rest) pos) cb) : EOk X (.BoolOp .And (a :: b :: rest) pos) (eAnd ca cb) := fun W tk =>
  pe_mono (pe_and (ha W tk) (hb W tk)) fun σ H Q h => by
    obtain ⟨H0, F0, F, ρ, s, h⟩ := h
    show rdE X.K X.mg ca W σ H fun x H1 => ∃ c, x = .bl c ∧ if c = true then rdE X.K X.mg cb W σ H1 Q else Q (.bl false) H1
    unfold eAnd at h
    cases e1 : ca ρ with
    | stuck => rw [e1] at h; exact h.elim
    | err x => rw [e1] at h; exact rdE_err s e1 h
    | ok x =>
      rw [e1] at h
      simp only [Res.bind] at h
      refine rdE_ok s e1 fun v H1 F1 A g1 o1 n1 => ?_
      have p := o1.dp (s.step g1)
      cases ed : x.d with
      | bool k =>
        rw [ed] at p h
        obtain rfl := bool_of p
        refine ⟨k, rfl, ?_⟩
        cases k with
        | false => exact fin_d (s.step g1) (d := .bool false) rfl fun v H' F' A g o n => h v H' F' A (g1.trans g) o fun a ha => g1.hh.none (n a ha)
        | true =>
          simp only [if_true] at h ⊢
          cases e2 : cb ρ with
          | stuck => rw [e2] at h; exact h.elim
          | err x => rw [e2] at h; exact rdE_err (s.step g1) e2 fun cls d H' F' g => h cls d H' F' (g1.trans g)
          | ok y => rw [e2] at h; exact rdE_ok (s.step g1) e2 fun v H2 F2 A g2 o n => h v H2 F2 A (g1.trans g2) o fun a ha => g1.hh.none (n a ha)
      | _ => rw [ed] at h; exact h.elim
theorem eok_or (ha : EOk X a ca) (hb : EOk X (.BoolOp .Or (b :: rest) pos) cb) : EOk X (.BoolOp .Or (a :: b :: rest) pos) (eOr ca cb) := fun W tk =>
  pe_mono (pe_or (ha W tk) (hb W tk)) fun σ H Q h => by
    obtain ⟨H0, F0, F, ρ, s, h⟩ := h
    show rdE X.K X.mg ca W σ H fun x H1 => ∃ c, x = .bl c ∧ if c = true then Q (.bl true) H1 else rdE X.K X.mg cb W σ H1 Q
    unfold eOr at h
    cases e1 : ca ρ with
    | stuck => rw [e1] at h; exact h.elim
    | err x => rw [e1] at h; exact rdE_err s e1 h
    | ok x =>
      rw [e1] at h
      simp only [Res.bind] at h
      refine rdE_ok s e1 fun v H1 F1 A g1 o1 n1 => ?_
      have p := o1.dp (s.step g1)
      cases ed : x.d with
      | bool k =>
        rw [ed] at p h
        obtain rfl := bool_of p
        refine ⟨k, rfl, ?_⟩
        cases k with
        | true => exact fin_d (s.step g1) (d := .bool true) rfl fun v H' F' A g o n => h v H' F' A (g1.trans g) o fun a ha => g1.hh.none (n a ha)
        | false =>
          simp only [Bool.false_eq_true, if_false] at h ⊢
          cases e2 : cb ρ with
          | stuck => rw [e2] at h; exact h.elim
          | err x => rw [e2] at h; exact rdE_err (s.step g1) e2 fun cls d H' F' g => h cls d H' F' (g1.trans g)
          | ok y => rw [e2] at h; exact rdE_ok (s.step g1) e2 fun v H2 F2 A g2 o n => h v H2 F2 A (g1.trans g2) o fun a ha => g1.hh.none (n a ha)
      | _ => rw [ed] at h; exact h.elim
theorem pe_notUn (te : TE) (h : PE X a te) : PE X (.UnaryOp .Not a pos) (tUn (fun x H Q => ∃ c, x = .bl c ∧ Q (.bl (!c)) H) te) := pe_not h
theorem op1_not : Op1 X (fun x H Q => ∃ c, x = .bl c ∧ Q (.bl (!c)) H) fNot := by
  intro H0 F0 F H σ ρ x A rx Q s hx
  unfold fNot
  have p := hx.dp s
  cases ed : rx.d with
  | bool k =>
    rw [ed] at p
    obtain rfl := bool_of p
    intro h
    exact ⟨k, rfl, fin_d s (d := .bool (!k)) rfl fun v H' F' A' g o n => h v H' F' A' g o fun c hc => .inr (n c hc)⟩
  | _ => trivial
theorem eok_not (ha : EOk X a ca) : EOk X (.UnaryOp .Not a pos) (eUn fNot ca) := eok_un (fun _ h => pe_notUn _ h) op1_not ha
theorem op1_neg : Op1 X (rU fun i => .int (-i)) fNeg := by
  intro H0 F0 F H σ ρ x A rx Q s hx
  unfold fNeg
  have p := hx.dp s
  cases ed : rx.d with
  | int i =>
    rw [ed] at p
    obtain rfl := rp_int p
    intro h
    exact ⟨i, rfl, fin_d s (d := .int (-i)) rfl fun v H' F' A' g o n => h v H' F' A' g o fun c hc => .inr (n c hc)⟩
  | _ => trivial
theorem eok_neg (ha : EOk X a ca) : EOk X (.UnaryOp .USub a pos) (eUn fNeg ca) := eok_un (fun _ h => pe_un un_neg h) op1_neg ha
theorem eok_if (ht : TOk X c ta) (ha : EOk X a ca) (hb : EOk X b cb) : EOk X (.IfExp c a b pos) (eIf ta ca cb) := fun W tk =>
  pe_mono (pe_ifExp (ht W tk) (ha W tk) (hb W tk)) fun σ H Q h => by
    obtain ⟨H0, F0, F, ρ, s, h⟩ := h
    show rdT X.K X.mg ta W σ H fun c H1 => if c = true then rdE X.K X.mg ca W σ H1 Q else rdE X.K X.mg cb W σ H1 Q
    unfold eIf at h
    cases e1 : ta ρ with
    | stuck => rw [e1] at h; exact h.elim
    | err x => rw [e1] at h; exact rdT_err s e1 h
    | ok x =>
      rw [e1] at h
      simp only [Res.bind] at h
      refine rdT_ok s e1 fun H1 F1 g1 => ?_
      cases x with
      | true =>
        simp only [if_true] at h ⊢
        cases e2 : ca ρ with
        | stuck => rw [e2] at h; exact h.elim
        | err x => rw [e2] at h; exact rdE_err (s.step g1) e2 fun cls d H' F' g => h cls d H' F' (g1.trans g)
        | ok y => rw [e2] at h; exact rdE_ok (s.step g1) e2 fun v H2 F2 A g2 o n => h v H2 F2 A (g1.trans g2) o fun a ha => g1.hh.none (n a ha)
      | false =>
        simp only [Bool.false_eq_true, if_false] at h ⊢
        cases e2 : cb ρ with
        | stuck => rw [e2] at h; exact h.elim
        | err x => rw [e2] at h; exact rdE_err (s.step g1) e2 fun cls d H' F' g => h cls d H' F' (g1.trans g)
        | ok y => rw [e2] at h; exact rdE_ok (s.step g1) e2 fun v H2 F2 A g2 o n => h v H2 F2 A (g1.trans g2) o fun a ha => g1.hh.none (n a ha)
/-- a op b op' c -/
theorem chain_rd {K : Frag} {mg : Str → Option Value} {R R' : R2} {f g : RV → RV → Res RV} (hK : X.K = K) (o1 : Op2 X R f) (o2 : Op2 X R' g) {W : WX} {σ : S} {H : Hp} {Q : VK} (h : rdE K mg (eChain f g ca cb cc) W σ H Q) :
    tChain R R' (rdE K mg ca W) (rdE K mg cb W) (rdE K mg cc W) σ H Q := by
  subst hK
  obtain ⟨H0, F0, F, ρ, s, h⟩ := h
  show rdE X.K mg ca W σ H fun x H1 => rdE X.K mg cb W σ H1 fun y H2 => R x y H2 fun z H3 => ∃ k, z = .bl k ∧ (if k = true then rdE X.K mg cc W σ H3 fun w' H4 => R' y w' H4 Q else Q (.bl false) H3)
  unfold eChain at h
  cases e1 : ca ρ with
  | stuck => rw [e1] at h; exact h.elim
  | err x => rw [e1] at h; exact rdE_err s e1 h
  | ok rx =>
    rw [e1] at h
    refine rdE_ok s e1 fun x H1 F1 A g1 ox n1 => ?_
    have s1 := s.step g1
    simp only [Res.bind] at h
    cases e2 : cb ρ with
    | stuck => rw [e2] at h; exact h.elim
    | err z => rw [e2] at h; exact rdE_err s1 e2 fun cls d H' F' g => h cls d H' F' (g1.trans g)
    | ok ry =>
      rw [e2] at h
      simp only at h
      refine rdE_ok s1 e2 fun y H2 F2 B g2 oy n2 => ?_
      have s2 := s1.step g2
      have dis : ∀ a ∈ A, a ∉ B := fun a ha hb => (ox.there a ha).1 (n2 a hb)
      have op := fun Q => o1 (Q := Q) s2 (ox.gr g2) oy dis
      cases e3 : f rx ry with
      | stuck => rw [e3] at h; exact h.elim
      | err z => exact absurd (op Q) (by rw [e3]; exact id)
      | ok rz =>
        rw [e3] at h op
        simp only at h
        refine op _ fun v H3 F3 C g3 oz n3 => ?_
        have s3 := s2.step g3
        have p := oz.dp s3
        have g123 := (g1.trans g2).trans g3
        cases ed : rz.d with
        | bool k =>
          rw [ed] at p h
          obtain rfl := bool_of p
          refine ⟨k, rfl, ?_⟩
          cases k with
          | false => exact fin_d s3 (d := .bool false) rfl fun v H' F' A g o n => h v H' F' A (g123.trans g) o fun a ha => g123.hh.none (n a ha)
          | true =>
            simp only [if_true] at h ⊢
            cases e4 : cc ρ with
            | stuck => rw [e4] at h; exact h.elim
            | err z => rw [e4] at h; exact rdE_err s3 e4 fun cls d H' F' g => h cls d H' F' (g123.trans g)
            | ok rw' =>
              rw [e4] at h
              simp only at h
              refine rdE_ok s3 e4 fun w H4 F4 E g4 ow n4 => ?_
              have oy4 := oy.gr (g3.trans g4)
              have dis2 : ∀ a ∈ B, a ∉ E := fun a ha he => by
                have := (oy.gr g3).there a ha
                exact this.1 (n4 a he)
              have op2 := o2 (Q := Q) (s3.step g4) oy4 ow dis2
              cases e5 : g ry rw' with
              | stuck => rw [e5] at h; exact h.elim
              | err z => rw [e5] at op2; exact op2.elim
              | ok rv =>
                rw [e5] at h op2
                refine op2 fun v H' F' C g o n => h v H' F' C ((g123.trans g4).trans g) o fun c hc => ?_
                rcases n c hc with z | z | z
                · exact g1.hh.none (n2 c z)
                · exact g123.hh.none (n4 c z)
                · exact (g123.trans g4).hh.none z
        | _ => rw [ed] at h; exact h.elim
theorem eok_chain {op op' : CmpOp} {R R' : R2} {f g : RV → RV → Res RV} (ho : OpR X (compareOp op) R) (ho' : OpR X (compareOp op') R') (o1 : Op2 X R f) (o2 : Op2 X R' g) (ha : EOk X a ca) (hb : EOk X b cb) (hc : EOk X c cc)
    (hm : lastMarks [op, op'] [b, c] = false := by with_unfolding_all rfl) : EOk X (.Compare a [op, op'] [b, c] pos) (eChain f g ca cb cc) := fun W tk =>
  pe_mono (pe_chain ho ho' (ha W tk) (hb W tk) (hc W tk) hm) fun σ H Q h => chain_rd (X := X) rfl o1 o2 h
theorem tok_chain {op op' : CmpOp} {R R' : R2} {f g : RV → RV → Res RV} (ho : OpR X (compareOp op) R) (ho' : OpR X (compareOp op') R') (o1 : Op2 X R f) (o2 : Op2 X R' g) (ha : EOk X a ca) (hb : EOk X b cb) (hc : EOk X c cc)
    (hm : lastMarks [op, op'] [b, c] = false := by with_unfolding_all rfl) : TOk X (.Compare a [op, op'] [b, c] pos) (tB (eChain f g ca cb cc)) := fun W tk =>
  pt_mono (pt_chain ho ho' (ha W tk) (hb W tk) (hc W tk) hm) fun σ H Q h => chain_rd (X := X) rfl o1 o2 (rdT_B h)

/-! ### several values -/
theorem aok_nil : AOk X [] [] := fun W tk => pa_mono pa_nil fun σ H Q h => by
  obtain ⟨H0, F0, F, ρ, s, h⟩ := h
  exact h [] H F [] s.refl rfl fun _ z => by cases z
theorem RVs.gr {K : Frag} {H0 H F H' F' : Hp} {σ : S} {ρ : Rho} (g : Gr H F H' F') : ∀ {vs : List V} {A : List Addr} {xs : List RV}, RVs K H0 H F σ ρ vs A xs → RVs K H0 H' F' σ ρ vs A xs
  | [], _, [], h => h
  | v :: vs, _, x :: xs, ⟨A1, A2, e, o, r, n⟩ => ⟨A1, A2, e, o.gr g, RVs.gr g r, n⟩
  | [], _, _ :: _, h => h.elim
  | _ :: _, _, [], h => h.elim
theorem aok_cons {e : Expr} {es : List Expr} {cs : List EC} (he : EOk X e ca) (hr : AOk X es cs) (hs : starEach (e :: es) X.env = (false, eval e X.env) :: starEach es X.env := by rfl) : AOk X (e :: es) (ca :: cs) := fun W tk =>
  pa_mono (pa_cons (he W tk) (hr W tk) hs) fun σ H Q h => by
    obtain ⟨H0, F0, F, ρ, s, h⟩ := h
    show rdE X.K X.mg ca W σ H fun x H1 => rdA X.K X.mg cs W σ H1 fun xs H2 => Q (x :: xs) H2
    unfold evalAll at h
    cases e1 : ca ρ with
    | stuck => rw [e1] at h; exact h.elim
    | err x => rw [e1] at h; exact rdE_err s e1 h
    | ok rx =>
      rw [e1] at h
      simp only [Res.bind] at h
      refine rdE_ok s e1 fun x H1 F1 A g1 o1 n1 => ?_
      have s1 := s.step g1
      cases e2 : evalAll cs ρ with
      | stuck => rw [e2] at h; exact h.elim
      | err z => rw [e2] at h; exact rdA_err s1 e2 fun cls d H' F' g => h cls d H' F' (g1.trans g)
      | ok rs =>
        rw [e2] at h
        refine rdA_ok s1 e2 fun xs H2 F2 B g2 o2 n2 => h (x :: xs) H2 F2 (A ++ B) (g1.trans g2) ⟨A, B, rfl, o1.gr g2, o2, fun a ha hb => (o1.there a ha).1 (n2 a hb)⟩ fun a ha => ?_
        rcases List.mem_append.mp ha with z | z
        · exact n1 a z
        · exact g1.hh.none (n2 a z)
theorem RVs.ows {K : Frag} {H0 H F : Hp} {σ : S} {ρ : Rho} : ∀ {vs : List V} {A : List Addr} {xs : List RV} {os : List Ow}, RVs K H0 H F σ ρ vs A xs → owsOf xs = some os → ORs K H F vs os A
  | [], _, [], _, h, e => by cases e; cases (show _ = [] from h); exact .nil
  | v :: vs, _, x :: xs, os, ⟨A1, A2, ea, o, r, n⟩, e => by
    subst ea
    unfold owsOf at e
    cases e1 : x.ow with
    | none => rw [e1] at e; cases e
    | some ow =>
      cases e2 : owsOf xs with
      | none => rw [e1, e2] at e; cases e
      | some os' =>
        rw [e1, e2] at e
        cases e
        cases x with
        | val w => cases e1; exact .cons o (RVs.ows r e2) n
        | ref _ _ _ => cases e1
        | bor _ => cases e1
  | [], _, _ :: _, _, h, _ => h.elim
  | _ :: _, _, [], _, h, _ => h.elim
theorem eok_lst {es : List Expr} {cs : List EC} (h : AOk X es cs) : EOk X (.List es pos) (eLst cs) := fun W tk => pe_mono (pe_lst (h W tk)) fun σ H Q h => by
  obtain ⟨H0, F0, F, ρ, s, h⟩ := h
  show rdA X.K X.mg cs W σ H fun xs H1 => xs.length ≤ sizeLine ∧ ∀ p, H1 p = none → Q (.ref p) (upd H1 p (.lst xs))
  unfold eLst at h
  cases e1 : evalAll cs ρ with
  | stuck => rw [e1] at h; exact h.elim
  | err x => rw [e1] at h; exact rdA_err s e1 h
  | ok rs =>
    rw [e1] at h
    simp only [Res.bind] at h
    refine rdA_ok s e1 fun vs H1 F1 A g1 o1 n1 => ?_
    cases e2 : owsOf rs with
    | none => rw [e2] at h; exact h.elim
    | some os =>
      rw [e2] at h
      by_cases hc : os.length ≤ 1000
      · simp only [hc, if_true] at h
        have oo := o1.ows e2
        refine ⟨by rw [oo.length, sizeLine_eq]; omega, fun p hp => ?_⟩
        obtain ⟨g, o⟩ := fin_ls (s.step g1) oo hp
        refine h _ _ _ _ (g1.trans g) o fun c hc => ?_
        rcases List.mem_cons.mp hc with rfl | hc
        · exact g1.hh.none hp
        · exact n1 c hc
      · simp only [hc] at h
        exact h.elim
theorem eok_tup {es : List Expr} {cs : List EC} {x1} (h : AOk X es cs) : EOk X (.Tuple es x1 pos) (eTup cs) := fun W tk => pe_mono (pe_tup (h W tk)) fun σ H Q h => by
  obtain ⟨H0, F0, F, ρ, s, h⟩ := h
  show rdA X.K X.mg cs W σ H fun xs H1 => xs.length ≤ sizeLine ∧ ∀ p, H1 p = none → Q (.ref p) (upd H1 p (.tup xs))
  unfold eTup at h
  cases e1 : evalAll cs ρ with
  | stuck => rw [e1] at h; exact h.elim
  | err x => rw [e1] at h; exact rdA_err s e1 h
  | ok rs =>
    rw [e1] at h
    simp only [Res.bind] at h
    refine rdA_ok s e1 fun vs H1 F1 A g1 o1 n1 => ?_
    cases e2 : owsOf rs with
    | none => rw [e2] at h; exact h.elim
    | some os =>
      rw [e2] at h
      by_cases hc : os.length ≤ 1000
      · simp only [hc, if_true] at h
        have oo := o1.ows e2
        refine ⟨by rw [oo.length, sizeLine_eq]; omega, fun p hp => ?_⟩
        obtain ⟨F', C, g, o, n⟩ := fin_tup (s.step g1) oo hp
        refine h _ _ _ _ (g1.trans g) o fun c hc => ?_
        rcases n c hc with rfl | z
        · exact g1.hh.none hp
        · exact n1 c z
      · simp only [hc] at h
        exact h.elim

/-! ### calls of defs -/
def ArgOk (K : Frag) (H F : Hp) (v : V) : Sl → Prop
  | .own (.fz d) => Rp K F v d
  | .bor d => Rp K H v d
  | _ => False
def spV (K : Frag) (mg : Str → Option Value) (n : Nat) (φ : Fn) : Sp := fun vs H Q E => ∃ (F : Hp) (as : List Sl), Sub F H ∧ as.length = n ∧ Paired (ArgOk K H F) vs as ∧ match φ as with
  | .ok ow => ∀ v H' F' A, Gr H F H' F' → OR K H' F' v ow A → (∀ a ∈ A, H a = none) → Q v H'
  | .err x => ∀ cls d H' F', Gr H F H' F' → XOk K mg F' H' cls d x → E cls d H'
  | .stuck => False
abbrev FOk (P : Program) (w : World) (K : Frag) (mg : Str → Option Value) (base : Heap) (k : Nat) (f : Addr) (fd : FuncData) (ps : List Str) (φ : Fn) : Prop := FnOk P w K mg base (L2.CX P w) k f fd ps (spV K mg ps.length φ)
theorem RVs.args {K : Frag} {H0 F0 H F G : Hp} {σ : S} {ρ : Rho} (s : SR K H0 F0 σ H F ρ) (hG : Sub F G) : ∀ {vs : List V} {A : List Addr} {xs : List RV}, RVs K H0 H F σ ρ vs A xs → (∀ a ∈ A, G a = H a) → Paired (ArgOk K H G) vs (xs.map RV.arg)
  | [], _, [], h, _ => .nil
  | v :: vs, _, x :: xs, ⟨A1, A2, e, o, r, n⟩, k => by
    subst e
    refine .cons ?_ (RVs.args s hG r fun a ha => k a (List.mem_append_right _ ha))
    cases x with
    | val ow => exact OR.dpIn hG o fun a ha => k a (List.mem_append_left _ ha)
    | ref i p ow =>
      obtain ⟨_, _, _, B, o⟩ := o
      exact o.dp s.sub
    | bor d => exact Rp.mono s.gr.hh o.2
  | [], _, _ :: _, h, _ => h.elim
  | _ :: _, _, [], h, _ => h.elim
theorem RVs.there {K : Frag} {H0 H F : Hp} {σ : S} {ρ : Rho} : ∀ {vs : List V} {A : List Addr} {xs : List RV}, RVs K H0 H F σ ρ vs A xs → ∀ a ∈ A, H a ≠ none ∧ F a = none
  | [], _, [], h, a, ha => by rw [show _ = [] from h] at ha; cases ha
  | v :: vs, _, x :: xs, ⟨A1, A2, e, o, r, n⟩, a, ha => by
    subst e
    rcases List.mem_append.mp ha with z | z
    · exact o.there a z
    · exact RVs.there r a z
  | [], _, _ :: _, h, _, _ => h.elim
  | _ :: _, _, [], h, _, _ => h.elim
theorem RVs.len {K : Frag} {H0 H F : Hp} {σ : S} {ρ : Rho} : ∀ {vs : List V} {A : List Addr} {xs : List RV}, RVs K H0 H F σ ρ vs A xs → vs.length = xs.length
  | [], _, [], _ => rfl
  | _ :: _, _, _ :: _, ⟨_, _, _, _, r, _⟩ => by simp [RVs.len r]
  | [], _, _ :: _, h => h.elim
  | _ :: _, _, [], h => h.elim
theorem eok_call {k : Nat} {f : Addr} {fd : FuncData} {ps : List Str} {φ : Fn} {x : Str} {p : Pos} {e : Expr} {es : List Expr} {cs : List EC} (F : FOk X.prog X.w X.K X.mg X.base k f fd ps φ) (hr : Room k X.A) (hm : X.mg x = some (.ref f)) (hk : PySem.W.keepIn X.K (.ref f) = true) (hb : Binds X.K fd ps [])
    (hl : cs.length = ps.length) (ha : AOk X (e :: es) cs) (hg : Gl X x := by rfl) (hdb : (x == ("__debug__" : Str)) = false := by decide) (he : starEach (e :: es) X.env = (false, eval e X.env) :: starEach es X.env := by rfl) (hpl : (backTo pos (starEach es X.env)).any (·.1) = false := by rfl) :
    EOk X (.Call (.Name x p) (e :: es) [] pos) (eCall φ cs) := fun W tk => pe_mono (pe_callS F hr hg hm hk hb (fun σ => passAt tk σ) (ha W tk) hdb he hpl) fun σ H Q h => by
  obtain ⟨H0, F0, F, ρ, s, h⟩ := h
  show rdA X.K X.mg cs W σ H fun vs H1 => spV X.K X.mg ps.length φ vs H1 Q (WE W σ)
  unfold eCall at h
  cases e1 : evalAll cs ρ with
  | stuck => rw [e1] at h; exact h.elim
  | err x => rw [e1] at h; exact rdA_err s e1 h
  | ok rs =>
    rw [e1] at h
    simp only [Res.bind] at h
    have el : rs.length = cs.length := by
      clear h hl ha he
      induction cs generalizing rs with
      | nil => cases e1; rfl
      | cons c cs ih =>
        unfold evalAll at e1
        cases q1 : c ρ with
        | stuck => rw [q1] at e1; cases e1
        | err x => rw [q1] at e1; cases e1
        | ok r =>
          rw [q1] at e1
          simp only [Res.bind] at e1
          cases q2 : evalAll cs ρ with
          | stuck => rw [q2] at e1; cases e1
          | err x => rw [q2] at e1; cases e1
          | ok rr =>
            rw [q2] at e1
            cases e1
            simp [ih _ q2]
    refine rdA_ok s e1 fun vs H1 F1 A g1 o1 n1 => ?_
    have s1 := s.step g1
    have fA : ∀ a ∈ A, F1 a = none := fun a ha => (o1.there a ha).2
    have gA : Gr H F H1 (frz F1 H1 A) := g1.frozen n1 fA
    refine ⟨frz F1 H1 A, rs.map RV.arg, frz_subH s1.sub, by rw [List.length_map, el, hl], o1.args s1 (frz_sub fA) fun a ha => frz_in ha, ?_⟩
    cases e2 : φ (rs.map RV.arg) with
    | stuck => rw [e2] at h; exact h.elim
    | err z =>
      rw [e2] at h
      exact fun cls d H' F' g xo => h cls d H' F' (gA.trans g) xo
    | ok ow =>
      rw [e2] at h
      exact fun v H' F' B g o n => h v H' F' B (gA.trans g) o fun b hb => g1.hh.none (n b hb)
end
end VL

set_option Elab.async false
set_option linter.all false
set_option maxRecDepth 100000
set_option maxHeartbeats 4000000
/-! VL6: built-in functions, subscripts, slices. -/
namespace VL
open PySem PySem.Spec PyProof.Rows L2
theorem bt_len : bootBuiltins "len" = some (.builtin "len") := by decide +kernel
theorem bt_sum : bootBuiltins "sum" = some (.builtin "sum") := by decide +kernel
theorem bt_sorted : bootBuiltins "sorted" = some (.builtin "sorted") := by decide +kernel
theorem bt_isinstance : bootBuiltins "isinstance" = some (.builtin "isinstance") := by decide +kernel
theorem bt_int : bootBuiltins "int" = some (.type "int") := by decide +kernel
theorem bt_bool : bootBuiltins "bool" = some (.type "bool") := by decide +kernel
theorem bt_str : bootBuiltins "str" = some (.type "str") := by decide +kernel
theorem bt_list : bootBuiltins "list" = some (.type "list") := by decide +kernel
theorem bt_tuple : bootBuiltins "tuple" = some (.type "tuple") := by decide +kernel

/-! ### what is an instance of what -/
section
variable {K : Frag} {H : Hp}
theorem tyx_of {v : V} {d : D} (h : Rp K H v d) : TyX K H v (.type (tyName d)) := by
  cases h with
  | non => exact .base .non
  | bl b => exact .base (.bl b)
  | int i => exact .base (.int i)
  | str x => exact .base (.str x)
  | lst r ra =>
    rcases r with (r | ⟨o, r⟩) | ⟨its, n, r, _⟩
    · exact .base (.lst r)
    · exact .base (.frz r)
    · exact .kList r rfl
  | tup r ra =>
    rcases r with (r | ⟨o, r⟩) | ⟨o, its, n, r, c, _⟩
    · exact .base (.tup r)
    · exact .fTuple r
    · exact .kTuple r c
theorem kitB_all : ∀ t ∈ ["NoneType", "bool", "int", "str", "list", "tuple"], ∀ c ∈ [Ty.int, .bool, .str, .list, .tuple], kitB t c.name = some (match t, c with
  | "bool", .int => true | "bool", .bool => true | "int", .int => true | "str", .str => true | "list", .list => true | "tuple", .tuple => true | _, _ => false) := by
  intro t ht c hc
  simp only [List.mem_cons, List.not_mem_nil, or_false] at ht hc
  rcases ht with rfl | rfl | rfl | rfl | rfl | rfl <;> rcases hc with rfl | rfl | rfl | rfl | rfl <;> decide +kernel
theorem kit_inst {v : V} {d : D} (h : Rp K H v d) (c : Ty) : PySem.W.kitOne K (.type (tyName d)) (.type c.name) = some (inst d c) := by
  refine kit_ty ?_
  have hc : c ∈ [Ty.int, .bool, .str, .list, .tuple] := by cases c <;> simp
  cases h with
  | non => rw [kitB_all _ (by simp [tyName]) c hc]; cases c <;> rfl
  | bl b => rw [kitB_all _ (by simp [tyName]) c hc]; cases c <;> rfl
  | int i => rw [kitB_all _ (by simp [tyName]) c hc]; cases c <;> rfl
  | str x => rw [kitB_all _ (by simp [tyName]) c hc]; cases c <;> rfl
  | lst r ra => rw [kitB_all _ (by simp [tyName]) c hc]; cases c <;> rfl
  | tup r ra => rw [kitB_all _ (by simp [tyName]) c hc]; cases c <;> rfl
theorem kit_any {v : V} {d : D} (h : Rp K H v d) : ∀ cs : List Ty, PySem.W.kitAny K (.type (tyName d)) (cs.map fun c => .type c.name) = some (cs.any fun c => inst d c)
  | [] => rfl
  | c :: cs => by
    show (match PySem.W.kitOne K (.type (tyName d)) (.type c.name) with
      | some true => some true
      | some false => PySem.W.kitAny K (.type (tyName d)) (cs.map fun c => .type c.name)
      | none => none) = some (inst d c || cs.any fun c => inst d c)
    rw [kit_inst h c]
    cases inst d c with
    | true => rfl
    | false => exact kit_any h cs
end
section
variable {X : Cx} {a b : Expr} {ca cb : EC} {pos p : Pos}
theorem ty_name {x : Str} {c : Ty} (hm : X.mg x = none) (hv : bootBuiltins x = some (.type c.name)) (hg : Gl X x := by rfl) (hn : x ≠ "__name__" := by decide) (hd : (x == ("__debug__" : Str)) = false := by decide) : PE X (.Name x p) (tC (.ty c.name)) :=
  pe_bltn hg hm hv rfl hn hd
def TysOk (X : Cx) (es : List Expr) (cs : List Ty) : Prop := PA X es fun _ H Q => Q (cs.map fun c => V.ty c.name) H
theorem tys_nil : TysOk X [] [] := pa_nil
theorem tys_cons {e : Expr} {es : List Expr} {c : Ty} {cs : List Ty} (h : PE X e (tC (.ty c.name))) (r : TysOk X es cs) (hs : starEach (e :: es) X.env = (false, eval e X.env) :: starEach es X.env := by rfl) : TysOk X (e :: es) (c :: cs) :=
  pa_mono (pa_cons h r hs) fun _ _ _ q => q
theorem pe_isI {c : Ty} (ta : TE) (hm : X.mg "isinstance" = none) (hb : PE X b (tC (.ty c.name))) (ha : PE X a ta) (hg : Gl X "isinstance" := by rfl)
    (he : starEach [a, b] X.env = (false, eval a X.env) :: starEach [b] X.env := by rfl) (he2 : starEach [b] X.env = (false, eval b X.env) :: starEach [] X.env := by rfl) (hpl : (backTo pos (starEach [b] X.env)).any (·.1) = false := by rfl) :
    PE X (.Call (.Name "isinstance" p) [a, b] [] pos) (tUn (fun x H Q => rIsi X.K [x, .ty c.name] H Q) ta) :=
  pe_mono (pe_callB call_isi hg hm bt_isinstance (pa_cons ha (pa_cons hb pa_nil he2) he) (he := he) (hpl := hpl)) fun _ _ _ q => q
theorem op1_isI {c : Ty} : Op1 X (fun x H Q => rIsi X.K [x, .ty c.name] H Q) (fIsI c) := by
  intro H0 F0 F H σ ρ x A rx Q s hx k
  have pp := hx.dp s
  exact ⟨x, .ty c.name, _, _, _, rfl, .ty _, tyx_of pp, kit_inst pp c, fin_d s (d := .bool _) rfl fun v H' F' A' g o n => k v H' F' A' g o fun c hc => .inr (n c hc)⟩
theorem eok_isI {c : Ty} (hm : X.mg "isinstance" = none) (ha : EOk X a ca) (hb : PE X b (tC (.ty c.name))) (hg : Gl X "isinstance" := by rfl)
    (he : starEach [a, b] X.env = (false, eval a X.env) :: starEach [b] X.env := by rfl) (he2 : starEach [b] X.env = (false, eval b X.env) :: starEach [] X.env := by rfl) (hpl : (backTo pos (starEach [b] X.env)).any (·.1) = false := by rfl) :
    EOk X (.Call (.Name "isinstance" p) [a, b] [] pos) (eUn (fIsI c) ca) := eok_un (fun ta h => pe_isI ta hm hb h hg he he2 hpl) op1_isI ha
def rIsV (K : Frag) (cs : List Ty) : V → Hp → VK → Prop := fun x H Q => (cs.map fun c => V.ty c.name).length ≤ sizeLine ∧ ∀ tp, H tp = none → rIsiT K [x, .ref tp] (upd H tp (.tup (cs.map fun c => V.ty c.name))) Q
theorem pe_isIs {cs : List Ty} {es : List Expr} {k1 : Nat} {p2 : Pos} (ta : TE) (hm : X.mg "isinstance" = none) (hb : TysOk X es cs) (ha : PE X a ta) (hg : Gl X "isinstance" := by rfl)
    (he : starEach [a, .Tuple es k1 p2] X.env = (false, eval a X.env) :: starEach [.Tuple es k1 p2] X.env := by rfl) (he2 : starEach [.Tuple es k1 p2] X.env = (false, eval (.Tuple es k1 p2) X.env) :: starEach [] X.env := by rfl) (hpl : (backTo pos (starEach [.Tuple es k1 p2] X.env)).any (·.1) = false := by rfl) :
    PE X (.Call (.Name "isinstance" p) [a, .Tuple es k1 p2] [] pos) (tUn (rIsV X.K cs) ta) :=
  pe_mono (pe_callB call_isiT hg hm bt_isinstance (pa_cons ha (pa_cons (pe_tup hb) pa_nil he2) he) (he := he) (hpl := hpl)) fun σ H Q q => q
theorem paired_tys : ∀ cs : List Ty, Paired ClsV (cs.map fun c => V.ty c.name) (cs.map fun c => Value.type c.name)
  | [] => .nil
  | c :: cs => .cons (.ty _) (paired_tys cs)
theorem op1_isIs {cs : List Ty} (hl : cs.length ≤ 1000) : Op1 X (rIsV X.K cs) (fIsIs cs) := by
  intro H0 F0 F H σ ρ x A rx Q s hx k
  have pp := hx.dp s
  refine ⟨by rw [List.length_map, sizeLine_eq]; omega, fun tp hp => ?_⟩
  have g := Gr.laid (o := .tup (cs.map fun c => V.ty c.name)) s.sub hp
  refine ⟨x, tp, _, _, _, _, rfl, upd_same, paired_tys cs, tyx_of (pp.mono g.hh), kit_any pp cs, ?_⟩
  exact fin_d (s.step g) (d := .bool _) rfl fun v H' F' A' g' o n => k v H' F' A' (g.trans g') o fun c hc => .inr (g.hh.none (n c hc))
theorem eok_isIs {cs : List Ty} {es : List Expr} {k1 : Nat} {p2 : Pos} (hm : X.mg "isinstance" = none) (ha : EOk X a ca) (hb : TysOk X es cs) (hl : cs.length ≤ 1000 := by decide) (hg : Gl X "isinstance" := by rfl)
    (he : starEach [a, .Tuple es k1 p2] X.env = (false, eval a X.env) :: starEach [.Tuple es k1 p2] X.env := by rfl) (he2 : starEach [.Tuple es k1 p2] X.env = (false, eval (.Tuple es k1 p2) X.env) :: starEach [] X.env := by rfl) (hpl : (backTo pos (starEach [.Tuple es k1 p2] X.env)).any (·.1) = false := by rfl) :
    EOk X (.Call (.Name "isinstance" p) [a, .Tuple es k1 p2] [] pos) (eUn (fIsIs cs) ca) := eok_un (fun ta h => pe_isIs ta hm hb h hg he he2 hpl) (op1_isIs hl) ha

/-! ### one argument -/
theorem eok_b1 {x : Str} {id : String} {r : List V → Hp → VK → Prop} {f : RV → Res RV} (hc : CallR X (.builtin id) r) (o : Op1 X (fun x H Q => r [x] H Q) f) (hm : X.mg x = none) (hv : bootBuiltins x = some (.builtin id)) (ha : EOk X a ca) (hg : Gl X x := by rfl)
    (hn : x ≠ "__name__" := by decide) (hd : (x == ("__debug__" : Str)) = false := by decide) (he : starEach [a] X.env = (false, eval a X.env) :: starEach [] X.env := by rfl) (hpl : (backTo pos (starEach [] X.env)).any (·.1) = false := by rfl) :
    EOk X (.Call (.Name x p) [a] [] pos) (eUn f ca) := eok_un (fun ta h => pe_mono (pe_callB hc hg hm hv (pa_cons h pa_nil he) hn hd he hpl) fun _ _ _ q => q) o ha
theorem eok_t1 {x : Str} {id : String} {r : List V → Hp → VK → Prop} {f : RV → Res RV} (hc : CallR X (.type id) r) (o : Op1 X (fun x H Q => r [x] H Q) f) (hm : X.mg x = none) (hv : bootBuiltins x = some (.type id)) (ha : EOk X a ca) (hg : Gl X x := by rfl)
    (hn : x ≠ "__name__" := by decide) (hd : (x == ("__debug__" : Str)) = false := by decide) (he : starEach [a] X.env = (false, eval a X.env) :: starEach [] X.env := by rfl) (hpl : (backTo pos (starEach [] X.env)).any (·.1) = false := by rfl) :
    EOk X (.Call (.Name x p) [a] [] pos) (eUn f ca) := eok_un (fun ta h => pe_mono (pe_callTy hc hg hm hv (pa_cons h pa_nil he) hn hd he hpl) fun _ _ _ q => q) o ha
theorem op1_len : Op1 X (fun x H Q => ∃ y n, [x] = [y] ∧ LenV X.K y H n ∧ Q (.int n) H) fLen := by
  intro H0 F0 F H σ ρ x A rx Q s hx
  have pp := hx.dp s
  unfold fLen
  cases ed : rx.d with
  | list ds =>
    rw [ed] at pp
    cases pp with
    | lst r ra =>
      intro k
      exact ⟨_, ds.length, rfl, .inl ⟨_, r.sqL, ra.length.symm⟩, fin_d s (d := .int _) rfl fun v H' F' A' g o n => k v H' F' A' g o fun c hc => .inr (n c hc)⟩
  | tuple ds =>
    rw [ed] at pp
    cases pp with
    | tup r ra =>
      intro k
      exact ⟨_, ds.length, rfl, .inr ⟨_, r, ra.length.symm⟩, fin_d s (d := .int _) rfl fun v H' F' A' g o n => k v H' F' A' g o fun c hc => .inr (n c hc)⟩
  | str y =>
    rw [ed] at pp
    obtain rfl := rp_str pp
    by_cases hc : y.length ≤ 16777216
    · simp only [hc, if_true, rD]
      intro k
      exact ⟨_, y.length, rfl, ⟨by rw [sizeLine_eq]; exact hc, rfl⟩, fin_d s (d := .int _) rfl fun v H' F' A' g o n => k v H' F' A' g o fun c hc => .inr (n c hc)⟩
    · simp only [hc]
      trivial
  | _ => trivial
theorem eok_len (hm : X.mg "len" = none) (ha : EOk X a ca) (hg : Gl X "len" := by rfl) (he : starEach [a] X.env = (false, eval a X.env) :: starEach [] X.env := by rfl) (hpl : (backTo pos (starEach [] X.env)).any (·.1) = false := by rfl) :
    EOk X (.Call (.Name "len" p) [a] [] pos) (eUn fLen ca) := eok_b1 call_len op1_len hm bt_len ha hg (he := he) (hpl := hpl)
theorem op1_list : Op1 X (fun x H Q => ∃ p ys, [x] = [V.ref p] ∧ (SqL X.K H p ys ∨ SqT X.K H p ys) ∧ ∀ l, H l = none → Q (.ref l) (upd H l (.lst ys))) fList := by
  intro H0 F0 F H σ ρ x A rx Q s hx
  unfold fList
  cases e : rx.items with
  | none => trivial
  | some xs =>
    intro k
    obtain ⟨a, vs, B, rfl, hq, o, n⟩ := items_ok s hx e
    refine ⟨a, vs, rfl, hq.imp (fun h => h.2.sqL) (fun h => h.2), fun l hl => ?_⟩
    obtain ⟨g, oo⟩ := fin_ls s o hl
    refine k _ _ _ _ g oo fun c hc => ?_
    rcases List.mem_cons.mp hc with rfl | hc
    · exact .inr hl
    · exact .inl (n c hc)
theorem eok_list (hm : X.mg "list" = none) (ha : EOk X a ca) (hg : Gl X "list" := by rfl) (he : starEach [a] X.env = (false, eval a X.env) :: starEach [] X.env := by rfl) (hpl : (backTo pos (starEach [] X.env)).any (·.1) = false := by rfl) :
    EOk X (.Call (.Name "list" p) [a] [] pos) (eUn fList ca) := eok_t1 call_list_of op1_list hm bt_list ha hg (he := he) (hpl := hpl)
theorem op1_tuple : Op1 X (fun x H Q => ∃ p ys, [x] = [V.ref p] ∧ ((SqL X.K H p ys ∧ ∀ l, H l = none → Q (.ref l) (upd H l (.tup ys))) ∨ (SqT X.K H p ys ∧ Q (.ref p) H))) fTuple := by
  intro H0 F0 F H σ ρ x A rx Q s hx
  unfold fTuple
  have pp := hx.dp s
  have rest : isT rx.d = true → match (match rx with
      | .val ow => (.ok (.val ow) : Res RV)
      | _ => .stuck) with
    | .ok rv => (∀ v H' F' C, Gr H F H' F' → RVOk X.K H0 H' F' σ ρ v C rv → (∀ c ∈ C, c ∈ A ∨ H c = none) → Q v H') → ∃ p ys, [x] = [V.ref p] ∧ ((SqL X.K H p ys ∧ ∀ l, H l = none → Q (.ref l) (upd H l (.tup ys))) ∨ (SqT X.K H p ys ∧ Q (.ref p) H))
    | .err _ => False
    | .stuck => True := by
    intro ht
    match rx, hx, pp, ht with
    | .val ow, hx, pp, ht =>
      intro k
      have ed : ∃ ds, RV.d (.val ow) = .tuple ds := by
        cases e : RV.d (.val ow) with
        | tuple ds => exact ⟨ds, rfl⟩
        | _ => rw [e] at ht; cases ht
      obtain ⟨ds, ed⟩ := ed
      rw [ed] at pp
      cases pp with
      | tup r ra => exact ⟨_, _, rfl, .inr ⟨r, k _ H F A s.refl hx fun c hc => .inl hc⟩⟩
    | .ref _ _ _, _, _, _ => trivial
    | .bor _, _, _, _ => trivial
  cases ed : rx.d with
  | list ds =>
    simp only
    cases e : rx.items with
    | none => trivial
    | some xs =>
      intro k
      obtain ⟨a, vs, B, rfl, hq, o, n⟩ := items_ok s hx e
      rw [ed] at hq
      rcases hq with ⟨_, hq⟩ | ⟨z, _⟩
      · refine ⟨a, vs, rfl, .inl ⟨hq.sqL, fun l hl => ?_⟩⟩
        obtain ⟨F', C, g, oo, nn⟩ := fin_tup s o hl
        refine k _ _ _ _ g oo fun c hc => ?_
        rcases nn c hc with rfl | hc
        · exact .inr hl
        · exact .inl (n c hc)
      · cases z
  | tuple ds => exact rest (by rw [ed]; rfl)
  | _ => trivial
theorem eok_tuple (hm : X.mg "tuple" = none) (ha : EOk X a ca) (hg : Gl X "tuple" := by rfl) (he : starEach [a] X.env = (false, eval a X.env) :: starEach [] X.env := by rfl) (hpl : (backTo pos (starEach [] X.env)).any (·.1) = false := by rfl) :
    EOk X (.Call (.Name "tuple" p) [a] [] pos) (eUn fTuple ca) := eok_t1 call_tuple_of op1_tuple hm bt_tuple ha hg (he := he) (hpl := hpl)
theorem ints_rp {K : Frag} {H : Hp} : ∀ {ds : List D} {vs : List V} {ns : List Int}, RpAll K H vs ds → intsOf ds = some ns → vs = ns.map V.int
  | [], _, _, .nil, e => by cases e; rfl
  | d :: ds, _, _, .cons h r, e => by
    cases d with
    | int i =>
      simp only [intsOf] at e
      cases e2 : intsOf ds with
      | none => rw [e2] at e; cases e
      | some is =>
        rw [e2] at e
        cases e
        rw [rp_int h, ints_rp r e2]; rfl
    | _ => simp only [intsOf] at e; cases e
theorem rpInts {K : Frag} (H : Hp) : ∀ ns : List Int, RpAll K H (ns.map V.int) (ns.map PyData.int)
  | [] => .nil
  | n :: ns => .cons (.int n) (rpInts H ns)
theorem op1_sum : Op1 X (fun x H Q => rSum X.K [x] H Q) fSum := by
  intro H0 F0 F H σ ρ x A rx Q s hx
  unfold fSum
  have pp := hx.dp s
  cases ed : rx.d with
  | list ds =>
    simp only
    cases e : intsOf ds with
    | none => trivial
    | some ns =>
      intro k
      rw [ed] at pp
      cases pp with
      | lst r ra =>
        have ev := ints_rp ra e
        subst ev
        exact ⟨_, ns, rfl, r.sqL, fin_d s (d := .int _) rfl fun v H' F' A' g o n => k v H' F' A' g o fun c hc => .inr (n c hc)⟩
  | _ => trivial
theorem eok_sum (hc : X.calm = true) (hm : X.mg "sum" = none) (ha : EOk X a ca) (hg : Gl X "sum" := by rfl) (he : starEach [a] X.env = (false, eval a X.env) :: starEach [] X.env := by rfl) (hpl : (backTo pos (starEach [] X.env)).any (·.1) = false := by rfl) :
    EOk X (.Call (.Name "sum" p) [a] [] pos) (eUn fSum ca) := eok_b1 (cr_sum hc) op1_sum hm bt_sum ha hg (he := he) (hpl := hpl)
theorem insI_perm (a : Int) : ∀ l : List Int, (insI a l).Perm (a :: l)
  | [] => .refl _
  | b :: r => by
    unfold insI
    by_cases h : a ≤ b
    · rw [if_pos h]
    · rw [if_neg h]
      exact ((insI_perm a r).cons b).trans (.swap a b r)
theorem sortI_perm : ∀ l : List Int, (sortI l).Perm l
  | [] => .refl _
  | a :: r => (insI_perm a (sortI r)).trans ((sortI_perm r).cons a)
theorem insI_sorted (a : Int) : ∀ l : List Int, l.Pairwise (· ≤ ·) → (insI a l).Pairwise (· ≤ ·)
  | [], _ => List.pairwise_singleton _ _
  | b :: r, h => by
    unfold insI
    have h' := List.pairwise_cons.mp h
    by_cases e : a ≤ b
    · rw [if_pos e]
      refine List.pairwise_cons.mpr ⟨fun c hc => ?_, h⟩
      rcases List.mem_cons.mp hc with rfl | hc
      · exact e
      · exact Int.le_trans e (h'.1 c hc)
    · rw [if_neg e]
      refine List.pairwise_cons.mpr ⟨fun c hc => ?_, insI_sorted a r h'.2⟩
      rcases List.mem_cons.mp ((insI_perm a r).mem_iff.mp hc) with rfl | hc
      · omega
      · exact h'.1 c hc
theorem sortI_sorted : ∀ l : List Int, (sortI l).Pairwise (· ≤ ·)
  | [] => .nil
  | a :: r => insI_sorted a _ (sortI_sorted r)
theorem sortI_is {ns ns' : List Int} (h : ns'.Perm ns) (hs : ns'.Pairwise (· ≤ ·)) : ns' = sortI ns :=
  PySem.W.ksm_same (h.trans (sortI_perm ns).symm) hs (sortI_sorted ns)
theorem op1_sorted : Op1 X (fun x H Q => rSortedI X.K [x] H Q) fSorted := by
  intro H0 F0 F H σ ρ x A rx Q s hx
  unfold fSorted
  have pp := hx.dp s
  cases ed : rx.d with
  | list ds =>
    simp only
    cases e : intsOf ds with
    | none => trivial
    | some ns =>
      intro k
      rw [ed] at pp
      cases pp with
      | lst r ra =>
        have ev := ints_rp ra e
        subst ev
        refine ⟨_, ns, rfl, r.sqL, fun ns' p h1 h2 hp => ?_⟩
        have e2 := sortI_is h1 h2
        subst e2
        have o : ORs X.K H F ((sortI ns).map V.int) (((sortI ns).map PyData.int).map Ow.fz) [] := ORs.ofDp (rpInts F _)
        obtain ⟨g, oo⟩ := fin_ls s o hp
        rw [List.map_map] at oo
        refine k _ _ _ _ g oo fun c hc => ?_
        rcases List.mem_cons.mp hc with rfl | hc
        · exact .inr hp
        · cases hc
  | _ => trivial
theorem eok_sorted (hm : X.mg "sorted" = none) (ha : EOk X a ca) (hg : Gl X "sorted" := by rfl) (he : starEach [a] X.env = (false, eval a X.env) :: starEach [] X.env := by rfl) (hpl : (backTo pos (starEach [] X.env)).any (·.1) = false := by rfl) :
    EOk X (.Call (.Name "sorted" p) [a] [] pos) (eUn fSorted ca) := eok_b1 cr_sortedI op1_sorted hm bt_sorted ha hg (he := he) (hpl := hpl)
theorem op1_int : Op1 X (fun x H Q => (∃ i, [x] = [V.int i] ∧ Q (.int i) H) ∨ ∃ k, [x] = [V.bl k] ∧ Q (.int (if k then 1 else 0)) H) fInt := by
  intro H0 F0 F H σ ρ x A rx Q s hx
  unfold fInt
  have pp := hx.dp s
  cases ed : rx.d with
  | int i =>
    rw [ed] at pp
    obtain rfl := rp_int pp
    intro k
    exact .inl ⟨i, rfl, fin_d s (d := .int _) rfl fun v H' F' A' g o n => k v H' F' A' g o fun c hc => .inr (n c hc)⟩
  | bool b =>
    rw [ed] at pp
    obtain rfl := bool_of pp
    intro k
    exact .inr ⟨b, rfl, fin_d s (d := .int _) rfl fun v H' F' A' g o n => k v H' F' A' g o fun c hc => .inr (n c hc)⟩
  | _ => trivial
theorem eok_intc (hm : X.mg "int" = none) (ha : EOk X a ca) (hg : Gl X "int" := by rfl) (he : starEach [a] X.env = (false, eval a X.env) :: starEach [] X.env := by rfl) (hpl : (backTo pos (starEach [] X.env)).any (·.1) = false := by rfl) :
    EOk X (.Call (.Name "int" p) [a] [] pos) (eUn fInt ca) := eok_t1 call_int1 op1_int hm bt_int ha hg (he := he) (hpl := hpl)

/-! ### subscripts -/
theorem atI_rp {K : Frag} {F : Hp} {ds : List D} {vs : List V} {k : Int} {d : D} (h : RpAll K F vs ds) (e : atI ds k = some d) : ∃ v, atI vs k = some v ∧ Rp K F v d := by
  unfold atI at e ⊢
  rw [h.length]
  cases e1 : ixN ds.length k with
  | none => rw [e1] at e; cases e
  | some j =>
    rw [e1] at e
    exact h.get' e
theorem ORs.get {K : Frag} {H F : Hp} : ∀ {xs : List Ow} {vs : List V} {A : List Addr} {j : Nat} {x : Ow}, ORs K H F vs xs A → xs[j]? = some x → ∃ v B, vs[j]? = some v ∧ OR K H F v x B ∧ ∀ b ∈ B, b ∈ A
  | [], _, _, _, _, .nil, e => by simp at e
  | x :: _, _, _, 0, _, .cons h r n, e => by
    simp at e
    subst e
    exact ⟨_, _, rfl, h, fun b hb => List.mem_append_left _ hb⟩
  | _ :: _, _, _, j + 1, _, .cons h r n, e => by
    obtain ⟨v, B, h1, h2, h3⟩ := ORs.get (j := j) r (by simpa using e)
    exact ⟨v, B, by simpa using h1, h2, fun b hb => List.mem_append_right _ (h3 b hb)⟩
theorem atI_or {K : Frag} {H F : Hp} {xs : List Ow} {vs : List V} {A : List Addr} {k : Int} {x : Ow} (h : ORs K H F vs xs A) (e : atI xs k = some x) : ∃ v B, atI vs k = some v ∧ OR K H F v x B ∧ ∀ b ∈ B, b ∈ A := by
  unfold atI at e ⊢
  rw [h.length]
  cases e1 : ixN xs.length k with
  | none => rw [e1] at e; cases e
  | some j =>
    rw [e1] at e
    exact h.get e
theorem At.snoc {H : Hp} {k : Nat} {a : Addr} {vs : List V} {w : V} (ho : H a = some (.lst vs) ∨ H a = some (.tup vs)) (hk : vs[k]? = some w) : ∀ {p : List Nat} {v0 : V}, At H v0 p (.ref a) → At H v0 (p ++ [k]) w
  | [], _, e => ⟨a, vs, w, e.symm, ho, hk, rfl⟩
  | _ :: _, _, ⟨b, us, u, e, o, q, r⟩ => ⟨b, us, u, e, o, q, At.snoc ho hk r⟩
theorem Ow.at_snoc {xs : List Ow} {k : Nat} {x : Ow} (hk : xs[k]? = some x) : ∀ {p : List Nat} {ow0 ow : Ow}, ow0.at p = some ow → (ow = .ls xs ∨ ow = .tp xs) → ow0.at (p ++ [k]) = some x
  | [], ow0, ow, e, h => by
    have e' : ow0 = ow := by cases ow0 <;> (simp only [Ow.at] at e; cases e; rfl)
    subst e'
    rcases h with rfl | rfl
    · simp [Ow.at, hk]
    · simp [Ow.at, hk]
  | q :: p, ow0, ow, e, h => by
    cases ow0 with
    | fz d => simp [Ow.at] at e
    | ls ys =>
      simp only [Ow.at, List.cons_append] at e ⊢
      cases e1 : ys[q]? with
      | none => rw [e1] at e; cases e
      | some y => rw [e1] at e; exact Ow.at_snoc hk e h
    | tp ys =>
      simp only [Ow.at, List.cons_append] at e ⊢
      cases e1 : ys[q]? with
      | none => rw [e1] at e; cases e
      | some y => rw [e1] at e; exact Ow.at_snoc hk e h
theorem ixOw_ok {K : Frag} {H0 H F : Hp} {σ : S} {ρ : Rho} {i : Nat} {p : List Nat} {k : Nat} {v : V} {x : Ow} {B : List Addr} (h : OR K H F v x B) (h1 : ∃ v0, σ[i]? = some (some v0) ∧ At H v0 (p ++ [k]) v) (h2 : ∃ ow0, ρ[i]? = some (some (.own ow0)) ∧ ow0.at (p ++ [k]) = some x) :
    RVOk K H0 H F σ ρ v [] (ixOw i p k x) := by
  cases x with
  | fz d => exact OR.fz h.fz_inv.2
  | ls xs => exact ⟨rfl, h1, h2, B, h⟩
  | tp xs => exact ⟨rfl, h1, h2, B, h⟩
theorem op2_ix : Op2 X (rIx X.K) fIx := by
  intro H0 F0 F H σ ρ x y A B rx ry Q s hx hy dis
  unfold fIx
  have py := hy.dp s
  cases ey : ry.d with
  | int k =>
    rw [ey] at py
    obtain rfl := rp_int py
    have none_ : ∀ c ∈ ([] : List Addr), c ∈ A ∨ c ∈ B ∨ H c = none := fun _ z => by cases z
    match rx, hx with
    | .val (.fz (.list ds)), hx =>
      simp only
      cases e : atI ds k with
      | none => trivial
      | some d =>
        intro kk
        have p := (OR.fz_inv hx).2
        cases p with
        | lst r ra =>
          obtain ⟨v, h1, h2⟩ := atI_rp ra e
          exact .inl ⟨_, _, k, v, rfl, rfl, (s.sub.lk r).sqL, h1, kk v H F [] s.refl (OR.fz h2) none_⟩
    | .val (.fz (.tuple ds)), hx =>
      simp only
      cases e : atI ds k with
      | none => trivial
      | some d =>
        intro kk
        have p := (OR.fz_inv hx).2
        cases p with
        | tup r ra =>
          obtain ⟨v, h1, h2⟩ := atI_rp ra e
          exact .inr (.inl ⟨_, _, k, v, rfl, rfl, s.sub.sqT r, h1, kk v H F [] s.refl (OR.fz h2) none_⟩)
    | .val (.ls xs), hx =>
      simp only
      cases e : atI xs k with
      | none => trivial
      | some d =>
        intro kk
        obtain ⟨a, vs, C, rfl, rfl, h1, _, _, o⟩ := OR.ls_inv hx
        obtain ⟨v, E, h2, h3, h4⟩ := atI_or o e
        exact .inl ⟨_, _, k, v, rfl, rfl, .of h1, h2, kk v H F E s.refl h3 fun c hc => .inl (List.mem_cons_of_mem _ (h4 c hc))⟩
    | .val (.tp xs), hx =>
      simp only
      cases e : atI xs k with
      | none => trivial
      | some d =>
        intro kk
        obtain ⟨a, vs, C, rfl, rfl, h1, _, _, o⟩ := OR.tp_inv hx
        obtain ⟨v, E, h2, h3, h4⟩ := atI_or o e
        exact .inr (.inl ⟨_, _, k, v, rfl, rfl, .of h1, h2, kk v H F E s.refl h3 fun c hc => .inl (List.mem_cons_of_mem _ (h4 c hc))⟩)
    | .ref i p (.ls xs), ⟨_, ⟨v0, e0, hat⟩, ⟨ow0, e1, e2⟩, C, hx⟩ =>
      simp only
      cases e : ixN xs.length k with
      | none => trivial
      | some j =>
        simp only
        cases e3 : xs[j]? with
        | none => trivial
        | some ow =>
          intro kk
          obtain ⟨a, vs, C', rfl, rfl, h1, _, _, o⟩ := OR.ls_inv hx
          obtain ⟨v, E, h2, h3, h4⟩ := o.get e3
          refine .inl ⟨_, _, k, v, rfl, rfl, .of h1, by unfold atI; rw [o.length, e]; exact h2, ?_⟩
          exact kk v H F [] s.refl (ixOw_ok h3 ⟨v0, e0, hat.snoc (.inl h1) h2⟩ ⟨ow0, e1, Ow.at_snoc e3 e2 (.inl rfl)⟩) none_
    | .ref i p (.tp xs), ⟨_, ⟨v0, e0, hat⟩, ⟨ow0, e1, e2⟩, C, hx⟩ =>
      simp only
      cases e : ixN xs.length k with
      | none => trivial
      | some j =>
        simp only
        cases e3 : xs[j]? with
        | none => trivial
        | some ow =>
          intro kk
          obtain ⟨a, vs, C', rfl, rfl, h1, _, _, o⟩ := OR.tp_inv hx
          obtain ⟨v, E, h2, h3, h4⟩ := o.get e3
          refine .inr (.inl ⟨_, _, k, v, rfl, rfl, .of h1, by unfold atI; rw [o.length, e]; exact h2, ?_⟩)
          exact kk v H F [] s.refl (ixOw_ok h3 ⟨v0, e0, hat.snoc (.inr h1) h2⟩ ⟨ow0, e1, Ow.at_snoc e3 e2 (.inr rfl)⟩) none_
    | .bor (.list ds), ⟨_, p⟩ =>
      simp only
      cases e : atI ds k with
      | none => trivial
      | some d =>
        intro kk
        cases p with
        | lst r ra =>
          obtain ⟨v, h1, h2⟩ := atI_rp ra e
          refine .inl ⟨_, _, k, v, rfl, rfl, (s.gr.hh.lk r).sqL, h1, kk v H F [] s.refl ?_ none_⟩
          by_cases hs : scal d = true
          · rw [if_pos hs, h2.scal_eq hs]; exact OR.fz (Rp.scal F hs)
          · rw [if_neg hs]; exact ⟨rfl, h2⟩
    | .bor (.tuple ds), ⟨_, p⟩ =>
      simp only
      cases e : atI ds k with
      | none => trivial
      | some d =>
        intro kk
        cases p with
        | tup r ra =>
          obtain ⟨v, h1, h2⟩ := atI_rp ra e
          refine .inr (.inl ⟨_, _, k, v, rfl, rfl, s.gr.hh.sqT r, h1, kk v H F [] s.refl ?_ none_⟩)
          by_cases hs : scal d = true
          · rw [if_pos hs, h2.scal_eq hs]; exact OR.fz (Rp.scal F hs)
          · rw [if_neg hs]; exact ⟨rfl, h2⟩
    | .val (.fz .none), _ => trivial
    | .val (.fz (.bool _)), _ => trivial
    | .val (.fz (.int _)), _ => trivial
    | .val (.fz (.str _)), _ => trivial
    | .val (.fz (.dict _)), _ => trivial
    | .ref _ _ (.fz _), _ => trivial
    | .bor .none, _ => trivial
    | .bor (.bool _), _ => trivial
    | .bor (.int _), _ => trivial
    | .bor (.str _), _ => trivial
    | .bor (.dict _), _ => trivial
  | _ => trivial
theorem eok_ix (ha : EOk X a ca) (hb : EOk X b cb) (hs : PlainIx b := by exact fun _ _ => rfl) : EOk X (.Subscript a b pos) (eBin fIx ca cb) := eok_bin (fun _ _ h1 h2 => pe_ix ix_seq h1 h2 hs) op2_ix ha hb

/-! ### slices -/
def rdP (K : Frag) (mg : Str → Option Value) (c : Option EC) (W : WX) : TO := fun σ H Q => ∃ H0 F0 F ρ, SR K H0 F0 σ H F ρ ∧ match ePart c ρ with
  | .ok o => ∀ H' F', Gr H F H' F' → Q o H'
  | .err x => ∀ cls d H' F', Gr H F H' F' → XOk K mg F' H' cls d x → W cls d σ H'
  | .stuck => False
def POk (X : Cx) (e : Option Expr) (c : Option EC) : Prop := ∀ W, Takes X W → PO X e (rdP X.K X.mg c W)
theorem po_mono {e : Option Expr} {t t' : TO} (h : PO X e t) (k : ∀ σ H Q, t' σ H Q → t σ H Q) : PO X e t' := ⟨fun pins s σ H Q I q => h.run pins s σ H Q I (k σ H Q q)⟩
theorem pok_none : POk X none none := fun W tk => po_mono po_none fun σ H Q h => by
  obtain ⟨H0, F0, F, ρ, s, h⟩ := h
  exact h H F s.refl
theorem pok_some (ha : EOk X a ca) : POk X (some a) (some ca) := fun W tk => po_mono (po_some (ha W tk)) fun σ H Q h => by
  obtain ⟨H0, F0, F, ρ, s, h⟩ := h
  show rdE X.K X.mg ca W σ H fun x H1 => ∃ i, x = .int i ∧ Q (some i) H1
  simp only [ePart] at h
  cases e1 : ca ρ with
  | stuck => rw [e1] at h; exact h.elim
  | err x => rw [e1] at h; exact rdE_err s e1 h
  | ok x =>
    rw [e1] at h
    simp only [Res.bind] at h
    refine rdE_ok s e1 fun v H1 F1 A g1 o1 n1 => ?_
    have p := o1.dp (s.step g1)
    cases ed : x.d with
    | int i =>
      rw [ed] at p h
      exact ⟨i, rp_int p, h H1 F1 g1⟩
    | _ => rw [ed] at h; exact h.elim
theorem cut_ORs {K : Frag} {H F : Hp} : ∀ {xs : List Ow} {vs : List V} {A : List Addr} (m n : Nat), ORs K H F vs xs A → ∃ B, ORs K H F ((vs.drop m).take n) ((xs.drop m).take n) B ∧ ∀ b ∈ B, b ∈ A
  | [], _, _, m, n, .nil => ⟨[], by simpa using ORs.nil, fun _ h => by cases h⟩
  | x :: xs, _, _, 0, 0, .cons h r k => ⟨[], by simpa using ORs.nil, fun _ h => by cases h⟩
  | x :: xs, _, _, 0, n + 1, @ORs.cons _ _ _ v _ vs _ A1 A2 h r k => by
    obtain ⟨B, o, hB⟩ := cut_ORs 0 n r
    simp only [List.drop_zero] at o
    refine ⟨A1 ++ B, ?_, ?_⟩
    · simp only [List.drop_zero, List.take_succ_cons]
      exact .cons h o fun a ha hb => k a ha (hB a hb)
    · intro b hb
      rcases List.mem_append.mp hb with z | z
      · exact List.mem_append_left _ z
      · exact List.mem_append_right _ (hB b z)
  | x :: xs, _, _, m + 1, n, .cons h r k => by
    obtain ⟨B, o, hB⟩ := cut_ORs m n r
    exact ⟨B, by simpa using o, fun b hb => List.mem_append_right _ (hB b hb)⟩
theorem allfz_map : ∀ ds : List D, (ds.map Ow.fz).all isFz = true
  | [] => rfl
  | _ :: ds => allfz_map ds
theorem mkTup_fz (ds : List D) : mkTup (ds.map Ow.fz) = .fz (.tuple ds) := by
  unfold mkTup
  rw [if_pos (allfz_map ds), toDs_fz]
theorem cut_rp {K : Frag} {F : Hp} : ∀ {ds : List D} {vs : List V} (m n : Nat), RpAll K F vs ds → RpAll K F ((vs.drop m).take n) ((ds.drop m).take n)
  | [], _, m, n, .nil => by simpa using RpAll.nil
  | _ :: _, _, 0, 0, .cons _ _ => by simpa using RpAll.nil
  | _ :: _, _, 0, n + 1, .cons h r => by
    have := cut_rp 0 n r
    simp only [List.drop_zero, List.take_succ_cons] at this ⊢
    exact .cons h this
  | _ :: _, _, m + 1, n, .cons h r => by simpa using cut_rp m n r
def rSl (K : Frag) : V → Option Int → Option Int → Hp → VK → Prop := fun x lo hi H Q => rSlL K x lo hi H Q ∨ rSlA K x lo hi H Q
theorem sl_row : SlR X (rSl X.K) := sl_list.or sl_tupA
theorem whole_cut {α : Type} {xs : List α} {lo hi : Option Int} (h : HT.sIx xs.length 0 lo = 0 ∧ HT.sIx xs.length xs.length hi = xs.length) : cutL xs lo hi = xs := by
  unfold cutL
  rw [h.1, h.2]
  simp
theorem eok_slice {lo hi : Option Expr} {cl ch : Option EC} {p2 : Pos} (ha : EOk X a ca) (hl : POk X lo cl) (hh : POk X hi ch) : EOk X (.Subscript a (.Slice lo hi none p2) pos) (eSlice ca cl ch) := fun W tk =>
  pe_mono (pe_slice sl_row (ha W tk) (hl W tk) (hh W tk)) fun σ H Q h => by
    obtain ⟨H0, F0, F, ρ, s, h⟩ := h
    show rdE X.K X.mg ca W σ H fun x H1 => rdP X.K X.mg cl W σ H1 fun l H2 => rdP X.K X.mg ch W σ H2 fun u H3 => rSl X.K x l u H3 Q
    unfold eSlice at h
    cases e1 : ca ρ with
    | stuck => rw [e1] at h; exact h.elim
    | err x => rw [e1] at h; exact rdE_err s e1 h
    | ok rx =>
      rw [e1] at h
      simp only [Res.bind] at h
      refine rdE_ok s e1 fun x H1 F1 A g1 o1 n1 => ?_
      refine ⟨H0, F0, F1, ρ, s.step g1, ?_⟩
      cases e2 : ePart cl ρ with
      | stuck => rw [e2] at h; exact h.elim
      | err z => rw [e2] at h; exact fun cls d H' F' g => h cls d H' F' (g1.trans g)
      | ok l =>
        rw [e2] at h
        simp only at h
        intro H2 F2 g2
        refine ⟨H0, F0, F2, ρ, (s.step g1).step g2, ?_⟩
        cases e3 : ePart ch ρ with
        | stuck => rw [e3] at h; exact h.elim
        | err z => rw [e3] at h; exact fun cls d H' F' g => h cls d H' F' ((g1.trans g2).trans g)
        | ok u =>
          rw [e3] at h
          simp only at h
          intro H3 F3 g3
          have s3 := ((s.step g1).step g2).step g3
          have o3 := (o1.gr g2).gr g3
          have g := (g1.trans g2).trans g3
          have pp := o3.dp s3
          unfold fCut at h
          cases ed : rx.d with
          | list ds =>
            rw [ed] at h
            simp only at h
            cases e4 : rx.items with
            | none => rw [e4] at h; exact h.elim
            | some xs =>
              rw [e4] at h
              simp only at h
              obtain ⟨a, vs, B, rfl, hq, o, n⟩ := items_ok s3 o3 e4
              rw [ed] at hq
              rcases hq with ⟨_, hq⟩ | ⟨z, _⟩
              · refine .inl ⟨a, vs, rfl, hq.sqL, fun p hp => ?_⟩
                obtain ⟨C, oc, nc⟩ := cut_ORs (HT.sIx vs.length 0 l) (HT.sIx vs.length vs.length u - HT.sIx vs.length 0 l) o
                obtain ⟨gl, oo⟩ := fin_ls s3 oc hp
                have el : (xs.drop (HT.sIx vs.length 0 l)).take (HT.sIx vs.length vs.length u - HT.sIx vs.length 0 l) = cutL xs l u := by unfold cutL; rw [o.length]
                rw [el] at oo
                refine h _ _ _ _ (g.trans gl) oo fun c hc => ?_
                rcases List.mem_cons.mp hc with rfl | hc
                · exact g.hh.none hp
                · exact n1 c (n c (nc c hc))
              · cases z
          | tuple ds =>
            rw [ed] at h
            simp only at h
            match rx, o3, pp, ed, h with
            | .val (.fz (.tuple ds')), o3, pp, ed, h =>
              simp only at h
              have p := (OR.fz_inv o3).2
              cases p with
              | tup r ra =>
                refine .inr ⟨_, _, rfl, s3.sub.sqT r, fun hw => ?_, fun hw p hp => ?_⟩
                · rw [ra.length] at hw
                  rw [whole_cut hw] at h
                  exact h _ H3 F3 [] g (OR.fz (.tup r ra)) fun _ z => by cases z
                · have rc := cut_rp (HT.sIx ds'.length 0 l) (HT.sIx ds'.length ds'.length u - HT.sIx ds'.length 0 l) ra
                  obtain ⟨F', C, gt, oo, nn⟩ := fin_tup s3 (ORs.ofDp rc) hp
                  have em : mkTup (((ds'.drop (HT.sIx ds'.length 0 l)).take (HT.sIx ds'.length ds'.length u - HT.sIx ds'.length 0 l)).map Ow.fz) = .fz (.tuple (cutL ds' l u)) := by
                    rw [mkTup_fz]; rfl
                  rw [em] at oo
                  have el := ra.length
                  rw [← el] at gt
                  refine h _ _ F' C (g.trans (by unfold cutV; exact gt)) (by unfold cutV; rw [el]; exact oo) fun c hc => ?_
                  rcases nn c hc with rfl | hc
                  · exact g.hh.none hp
                  · cases hc
            | .val (.fz .none), _, _, _, h => exact h.elim
            | .val (.fz (.bool _)), _, _, _, h => exact h.elim
            | .val (.fz (.int _)), _, _, _, h => exact h.elim
            | .val (.fz (.str _)), _, _, _, h => exact h.elim
            | .val (.fz (.list _)), _, _, _, h => exact h.elim
            | .val (.fz (.dict _)), _, _, _, h => exact h.elim
            | .val (.ls _), _, _, _, h => exact h.elim
            | .val (.tp _), _, _, _, h => exact h.elim
            | .ref _ _ _, _, _, _, h => exact h.elim
            | .bor _, _, _, _, h => exact h.elim
          | _ => rw [ed] at h; exact h.elim
theorem pe_revU {k : Nat} {p1 p2 p3 : Pos} (te : TE) (h : PE X a te) : PE X (.Subscript a (.Slice none none (some (.UnaryOp .USub (.Constant (.int 1) k p1) p2)) p3) pos) (tUn (fun x H Q => ∃ a xs, x = .ref a ∧ SqL X.K H a xs ∧ ∀ p, H p = none → Q (.ref p) (upd H p (.lst xs.reverse))) te) := pe_revL h
theorem rev_ORs {K : Frag} {H F : Hp} : ∀ {xs : List Ow} {vs : List V} {A : List Addr}, ORs K H F vs xs A → ∃ B, ORs K H F vs.reverse xs.reverse B ∧ ∀ b ∈ B, b ∈ A
  | [], _, _, .nil => ⟨[], .nil, fun _ h => by cases h⟩
  | x :: xs, _, _, @ORs.cons _ _ _ v _ vs _ A1 A2 h r k => by
    obtain ⟨B, o, hB⟩ := rev_ORs r
    have o1 : ORs K H F [v] [x] (A1 ++ []) := .cons h .nil fun _ _ z => by cases z
    refine ⟨B ++ (A1 ++ []), ?_, ?_⟩
    · simp only [List.reverse_cons]
      exact o.append o1 fun a ha hb => k a (by simpa using hb) (hB a ha)
    · intro b hb
      rcases List.mem_append.mp hb with z | z
      · exact List.mem_append_right _ (hB b z)
      · exact List.mem_append_left _ (by simpa using z)
theorem op1_rev : Op1 X (fun x H Q => ∃ a xs, x = .ref a ∧ SqL X.K H a xs ∧ ∀ p, H p = none → Q (.ref p) (upd H p (.lst xs.reverse))) fRev := by
  intro H0 F0 F H σ ρ x A rx Q s hx
  unfold fRev
  cases ed : rx.d with
  | list ds =>
    simp only
    cases e : rx.items with
    | none => trivial
    | some xs =>
      intro k
      obtain ⟨a, vs, B, rfl, hq, o, n⟩ := items_ok s hx e
      rw [ed] at hq
      rcases hq with ⟨_, hq⟩ | ⟨z, _⟩
      · refine ⟨a, vs, rfl, hq.sqL, fun p hp => ?_⟩
        obtain ⟨C, oc, nc⟩ := rev_ORs o
        obtain ⟨g, oo⟩ := fin_ls s oc hp
        refine k _ _ _ _ g oo fun c hc => ?_
        rcases List.mem_cons.mp hc with rfl | hc
        · exact .inr hp
        · exact .inl (n c (nc c hc))
      · cases z
  | _ => trivial
theorem eok_rev {k : Nat} {p1 p2 p3 : Pos} (ha : EOk X a ca) : EOk X (.Subscript a (.Slice none none (some (.UnaryOp .USub (.Constant (.int 1) k p1) p2)) p3) pos) (eUn fRev ca) := eok_un (fun te h => pe_revU te h) op1_rev ha
end
end VL

set_option Elab.async false
set_option linter.all false
set_option maxRecDepth 100000
set_option maxHeartbeats 4000000
/-! VL7: targets, what is walked, comprehensions, statements, loops, defs. -/
namespace VL
open PySem PySem.Spec PyProof.Rows L2

/-! ### slots are set -/
def VOk (K : Frag) (H0 H F : Hp) (x : V) (B : List Addr) : Sl → Prop
  | .own ow => OR K H F x ow B ∧ ∀ b ∈ B, H0 b = none
  | .bor d => B = [] ∧ Rp K H0 x d
section
variable {K : Frag} {mg : Str → Option Value} {W : WX} {σ : S} {H H0 F0 F : Hp} {ρ : Rho} {A : Nat → List Addr}
theorem SRA.set (s : SRA K H0 F0 A σ H F ρ) {i : Nat} {x : V} {sl : Sl} {B : List Addr} (h : VOk K H0 H F x B sl) (hd : ∀ b ∈ B, ∀ j, b ∉ A j) :
    ∃ A', SRA K H0 F0 A' (σ.set i (some x)) H F (ρ.set i (some sl)) ∧ ∀ j, ∀ a ∈ A' j, a ∈ A j ∨ a ∈ B := by
  by_cases hi : i < σ.length
  · refine ⟨fun j => if j = i then B else A j, ⟨by simp [s.len], s.gr, fun j => ?_, fun j k hjk a ha hb => ?_⟩, fun j a ha => ?_⟩
    · by_cases e : j = i
      · subst e
        have hr : j < ρ.length := by rw [s.len]; exact hi
        simp only [if_true, List.getElem?_set_self hr]
        cases sl with
        | own ow => exact ⟨x, List.getElem?_set_self hi, h.1, h.2⟩
        | bor d => exact ⟨h.1, x, List.getElem?_set_self hi, h.2⟩
      · have q := s.sl j
        simp only [e, if_false, List.getElem?_set_ne (Ne.symm e)]
        match o : ρ[j]?, q with
        | some (some (.own ow)), ⟨v, e1, q⟩ => exact ⟨v, by rw [List.getElem?_set_ne (Ne.symm e)]; exact e1, q⟩
        | some (some (.bor d)), ⟨e0, v, e1, q⟩ => exact ⟨e0, v, by rw [List.getElem?_set_ne (Ne.symm e)]; exact e1, q⟩
        | some none, q => exact q
        | none, q => exact q
    · by_cases e1 : j = i
      · have e2 : ¬ k = i := fun z => hjk (e1.trans z.symm)
        simp only [e1, e2, if_true, if_false] at ha hb
        exact hd a ha k hb
      · by_cases e2 : k = i
        · simp only [e1, e2, if_true, if_false] at ha hb
          exact hd a hb j ha
        · simp only [e1, e2, if_false] at ha hb
          exact s.ap j k hjk a ha hb
    · by_cases e : j = i
      · simp only [e, if_true] at ha; exact .inr ha
      · simp only [e, if_false] at ha; exact .inl ha
  · have hr : ¬ i < ρ.length := by rw [s.len]; exact hi
    rw [List.set_eq_of_length_le (by omega), List.set_eq_of_length_le (by omega)]
    exact ⟨A, s, fun j a ha => .inl ha⟩
theorem SRA.wipe1 (s : SRA K H0 F0 A σ H F ρ) (i : Nat) : ∃ A', SRA K H0 F0 A' (σ.set i none) H F (ρ.set i none) ∧ ∀ j, ∀ a ∈ A' j, a ∈ A j := by
  refine ⟨fun j => if j = i then [] else A j, ⟨by simp [s.len], s.gr, fun j => ?_, fun j k hjk a ha hb => ?_⟩, fun j a ha => ?_⟩
  · by_cases e : j = i
    · subst e
      simp only [if_true]
      by_cases hr : j < ρ.length
      · rw [List.getElem?_set_self hr]; rfl
      · rw [List.getElem?_eq_none (by simp; omega)]; rfl
    · have q := s.sl j
      simp only [e, if_false, List.getElem?_set_ne (Ne.symm e)]
      match o : ρ[j]?, q with
      | some (some (.own ow)), ⟨v, e1, q⟩ => exact ⟨v, by rw [List.getElem?_set_ne (Ne.symm e)]; exact e1, q⟩
      | some (some (.bor d)), ⟨e0, v, e1, q⟩ => exact ⟨e0, v, by rw [List.getElem?_set_ne (Ne.symm e)]; exact e1, q⟩
      | some none, q => exact q
      | none, q => exact q
  · by_cases e1 : j = i
    · simp only [e1, if_true] at ha; cases ha
    · by_cases e2 : k = i
      · simp only [e2, if_true] at hb; cases hb
      · simp only [e1, e2, if_false] at ha hb
        exact s.ap j k hjk a ha hb
  · by_cases e : j = i
    · simp only [e, if_true] at ha; cases ha
    · simp only [e, if_false] at ha; exact ha
theorem SRA.wipe (s : SRA K H0 F0 A σ H F ρ) : ∀ vs : List Nat, ∃ A', SRA K H0 F0 A' (wipe σ vs) H F (wipeR vs ρ) ∧ ∀ j, ∀ a ∈ A' j, a ∈ A j
  | [] => ⟨A, s, fun _ _ h => h⟩
  | v :: vs => by
    obtain ⟨A1, s1, h1⟩ := SRA.wipe s vs
    obtain ⟨A2, s2, h2⟩ := s1.wipe1 v
    exact ⟨A2, s2, fun j a h => h1 j a (h2 j a h)⟩
inductive VOks (K : Frag) (H0 H F : Hp) : List V → List Addr → List Sl → Prop
  | nil : VOks K H0 H F [] [] []
  | cons {x : V} {xs : List V} {B C : List Addr} {s : Sl} {ss : List Sl} : VOk K H0 H F x B s → VOks K H0 H F xs C ss → (∀ b ∈ B, b ∉ C) → VOks K H0 H F (x :: xs) (B ++ C) (s :: ss)
def gNames : List Nat → TGs
  | [] => gNil
  | i :: is => gCons (gName i) (gNames is)
theorem gNames_ok : ∀ {tg : List Nat} {xs : List V} {ss : List Sl} {B : List Addr} {σ : S} {ρ : Rho} {A : Nat → List Addr} {Q : S → Hp → Prop}, SRA K H0 F0 A σ H F ρ → VOks K H0 H F xs B ss → ss.length = tg.length → (∀ b ∈ B, ∀ j, b ∉ A j) →
    (∀ σ' A', SRA K H0 F0 A' σ' H F (setAll tg ss ρ) → (∀ j, j ∉ tg → σ'[j]? = σ[j]?) → (∀ j, ∀ a ∈ A' j, a ∈ A j ∨ a ∈ B) → σ'.length = σ.length → Q σ' H) → gNames tg xs σ H Q
  | [], _, _, _, σ, ρ, A, Q, s, .nil, _, _, k => ⟨rfl, k σ A s (fun _ _ => rfl) (fun _ _ h => .inl h) rfl⟩
  | [], _, _, _, _, _, _, _, _, .cons _ _ _, hl, _, _ => by simp at hl
  | _ :: _, _, _, _, _, _, _, _, _, .nil, hl, _, _ => by simp at hl
  | i :: tg, _, _, _, σ, ρ, A, Q, s, @VOks.cons _ _ _ _ x xs B C sl ss h r n, hl, hd, k => by
    obtain ⟨A1, s1, h1⟩ := s.set (i := i) h fun b hb j => hd b (List.mem_append_left _ hb) j
    refine ⟨x, xs, rfl, gNames_ok s1 r (by simpa using hl) (fun b hb j hj => ?_) fun σ' A' s' e a l => k σ' A' s' (fun j hj => ?_) (fun j x hx => ?_) (by rw [l]; simp)⟩
    · rcases h1 j b hj with z | z
      · exact hd b (List.mem_append_right _ hb) j z
      · exact n b z hb
    · simp only [List.mem_cons, not_or] at hj
      rw [e j hj.2, List.getElem?_set_ne (Ne.symm hj.1)]
    · rcases a j x hx with z | z
      · rcases h1 j x z with q | q
        · exact .inl q
        · exact .inr (List.mem_append_left _ q)
      · exact .inr (List.mem_append_right _ z)
end

/-! ### what is walked -/
/-- at turn i of J the targets get items[i] -/
structure IterOk (K : Frag) (H0 Fi : Hp) (J : It) (g : TG) (tg : List Nat) (items : List (List Sl)) : Prop where
  go : ∀ i H F, Gr H0 Fi H F → i < items.length → J.go i H
  stop : ∀ H F, Gr H0 Fi H F → J.stop items.length H
  turn : ∀ i s A σ H F ρ x H' (Q : S → Hp → Prop), items[i]? = some s → SRA K H0 Fi A σ H F ρ → J.yld i H x H' →
    (∀ A' σ' H2 F2, SRA K H0 Fi A' σ' H2 F2 (setAll tg s ρ) → Gr H F H2 F2 → (∀ j, j ∉ tg → σ'[j]? = σ[j]?) → (∀ j, ∀ a ∈ A' j, a ∈ A j) → σ'.length = σ.length → Q σ' H2) → g x σ H' Q
def rdI (K : Frag) (mg : Str → Option Value) (g : TG) (tg : List Nat) (c : IC) (W : WX) : TI := fun σ H R => ∃ H0 F0 F ρ, SR K H0 F0 σ H F ρ ∧ match c ρ with
  | .ok items => ∀ J H1 F1, Gr H F H1 F1 → IterOk K H0 F1 J g tg items → R J H1
  | .err x => ∀ cls d H' F', Gr H F H' F' → XOk K mg F' H' cls d x → W cls d σ H'
  | .stuck => False
def IOk (X : Cx) (tgE iter : Expr) (g : TG) (tg : List Nat) (c : IC) : Prop := ∀ W, Takes X W → PI X tgE iter (rdI X.K X.mg g tg c W)
theorem pi_mono {X : Cx} {tgE iter : Expr} {t t' : TI} (h : PI X tgE iter t) (k : ∀ σ H R, t' σ H R → t σ H R) : PI X tgE iter t' := ⟨fun pins s σ H R I q => h.run pins s σ H R I (k σ H R q)⟩
/-- a list or a tuple, whichever it is -/
def iRowV (K : Frag) (tl : TE) : TI := fun σ H R => tl σ H fun x H1 => ∃ a, x = .ref a ∧ ((∃ xs, SqL K H1 a xs ∧ R (Itl K a) H1) ∨ (∃ xs, SqT K H1 a xs ∧ R (Itt K a) H1))
theorem pi_rowV {X : Cx} {tg l : Expr} {tl : TE} (hl : PE X l tl) : PI X tg l (iRowV X.K tl) := by
  refine ⟨fun pins s σ H R I h => ?_⟩
  refine thn (hl.run pins s σ H _ I h) fun v s1 ⟨x, H1, I1, r1, q1⟩ => ?_
  obtain ⟨a, e, q⟩ := q1
  subst e
  cases r1
  rcases q with ⟨xs, hq, q⟩ | ⟨xs, hq, q⟩
  · obtain ⟨its, rv, p, hz⟩ := I1.list hq
    refine wpAny_pyIter_list p.isList ?_
    refine ⟨s1.heap.objs.size, [s1.heap.objs.size], _, _, H1, rfl, I1.kept (t' := s1.toks) fun b o e => Heap.get?_push_of_some _ e, turn_list a _, ⟨_, Heap.get?_push_size _ rfl, rfl, rfl⟩, fun b hb => ?_, q⟩
    have e : b = s1.heap.objs.size := by simpa using hb
    subst e
    exact I1.fpOk (Nat.le_refl _) (I1.hok.fresh (Nat.le_refl _))
  · obtain ⟨its, rv, p, hz⟩ := I1.tuple hq
    refine wpAny_pyIter_tuple (show s1.heap.IsTuple a its.toArray from p) ?_
    refine ⟨s1.heap.objs.size, [s1.heap.objs.size], _, _, H1, rfl, I1.kept (t' := s1.toks) fun b o e => Heap.get?_push_of_some _ e, turn_tuple a _, ⟨_, Heap.get?_push_size _ rfl, rfl, rfl⟩, fun b hb => ?_, q⟩
    have e : b = s1.heap.objs.size := by simpa using hb
    subst e
    exact I1.fpOk (Nat.le_refl _) (I1.hok.fresh (Nat.le_refl _))
def It1 (K : Frag) (H0 F : Hp) (v : V) : Sl → Prop
  | .own (.fz d) => Rp K F v d
  | .bor d => Rp K H0 v d
  | _ => False
theorem It1.vok {K : Frag} {H0 Fi H F : Hp} {v : V} {s : Sl} (h : It1 K H0 Fi v s) (g : Sub Fi F) : VOk K H0 H F v [] s := by
  match s, h with
  | .own (.fz d), h => exact ⟨OR.fz (Rp.mono g h), fun _ z => by cases z⟩
  | .bor d, h => exact ⟨rfl, h⟩
theorem it1_fz {K : Frag} {H0 F : Hp} : ∀ {ds : List D} {vs : List V}, RpAll K F vs ds → Paired (It1 K H0 F) vs (ds.map slOf)
  | [], _, .nil => .nil
  | _ :: _, _, .cons h r => .cons h (it1_fz r)
theorem it1_bor {K : Frag} {H0 F : Hp} : ∀ {ds : List D} {vs : List V}, RpAll K H0 vs ds → Paired (It1 K H0 F) vs (ds.map slBor)
  | [], _, .nil => .nil
  | d :: ds, _, .cons h r => .cons (by
      unfold slBor
      by_cases hs : scal d = true
      · rw [if_pos hs, h.scal_eq hs]; exact Rp.scal F hs
      · rw [if_neg hs]; exact h) (it1_bor r)
/-- a row that stands still -/
def Still (K : Frag) (H0 Fi : Hp) (a : Addr) (vs : List V) (l : Bool) : Prop :=
  if l = true then SqL K Fi a vs ∨ SqL K H0 a vs else SqT K Fi a vs ∨ SqT K H0 a vs
theorem iter_ok {K : Frag} {H0 F0 H F Hs Fs : Hp} {σ : S} {ρ : Rho} {v : V} {A : List Addr} {rv : RV} {ss : List Sl} (s : SR K H0 F0 σ H F ρ) (h : RVOk K H0 H F σ ρ v A rv) (g : Gr Hs Fs H F) (hA : ∀ a ∈ A, Hs a = none) (e : rv.iter = some ss) :
    ∃ a vs F' l, v = .ref a ∧ Gr Hs Fs H F' ∧ Still K H0 F' a vs l ∧ Paired (It1 K H0 F') vs ss := by
  match rv, h, e with
  | .val ow, h, e =>
    simp only [RV.iter] at e
    cases e1 : rowOf ow.toD with
    | none => rw [e1] at e; cases e
    | some ds =>
      rw [e1] at e
      cases e
      have p := OR.freeze h
      have g2 := g.frozen hA fun a ha => (OR.there h a ha).2
      cases ed : ow.toD with
      | list es =>
        rw [ed] at p e1
        cases e1
        cases p with
        | lst r ra => exact ⟨_, _, _, true, rfl, g2, .inl r.sqL, it1_fz ra⟩
      | tuple es =>
        rw [ed] at p e1
        cases e1
        cases p with
        | tup r ra => exact ⟨_, _, _, false, rfl, g2, .inl r, it1_fz ra⟩
      | _ => rw [ed] at e1; cases e1
  | .ref _ _ _, _, e => simp only [RV.iter] at e; cases e
  | .bor d, ⟨_, p⟩, e =>
    simp only [RV.iter] at e
    cases e1 : rowOf d with
    | none => rw [e1] at e; cases e
    | some ds =>
      rw [e1] at e
      cases e
      cases d with
      | list es =>
        cases e1
        cases p with
        | lst r ra => exact ⟨_, _, F, true, rfl, g, .inr r.sqL, it1_bor ra⟩
      | tuple es =>
        cases e1
        cases p with
        | tup r ra => exact ⟨_, _, F, false, rfl, g, .inr r, it1_bor ra⟩
      | _ => cases e1
theorem Still.lst {K : Frag} {H0 Fi H F : Hp} {a : Addr} {vs : List V} (h : Still K H0 Fi a vs true) (g : Gr H0 Fi H F) : SqL K H a vs := by
  rcases h with h | h
  · exact (g.ff.trans g.fh').sqL h
  · exact g.hh.sqL h
theorem Still.tup {K : Frag} {H0 Fi H F : Hp} {a : Addr} {vs : List V} (h : Still K H0 Fi a vs false) (g : Gr H0 Fi H F) : SqT K H a vs := by
  rcases h with h | h
  · exact (g.ff.trans g.fh').sqT h
  · exact g.hh.sqT h
theorem rd_inj {H : Hp} {a : Addr} {xs ys : List V} (h : Rd H a (.lst xs)) (h' : Rd H a (.lst ys)) : xs = ys := by
  rcases h with h | ⟨o, h⟩ <;> rcases h' with h' | ⟨o', h'⟩ <;> first | (rw [h] at h'; cases h'; rfl) | (rw [h] at h'; cases h')
theorem Paired.get2 {α β : Type} {G : α → β → Prop} : ∀ {l₁ : List α} {l₂ : List β} {i : Nat} {b : β}, Paired G l₁ l₂ → l₂[i]? = some b → ∃ a, l₁[i]? = some a ∧ G a b
  | _, _, _, _, .nil, e => by simp at e
  | _, _, 0, _, .cons h _, e => by simp at e; subst e; exact ⟨_, rfl, h⟩
  | _, _, i + 1, _, .cons _ r, e => by
    obtain ⟨a, h1, h2⟩ := Paired.get2 (i := i) r (by simpa using e)
    exact ⟨a, by simpa using h1, h2⟩
theorem itl_yld {K : Frag} {i : Nat} {a : Addr} {H H' : Hp} {vs : List V} {x : V} (r : SqL K H a vs) (y : (Itl K a).yld i H x H') : H' = H ∧ vs[i]? = some x := ⟨y.1, y.2 vs r⟩
theorem itt_yld {K : Frag} {i : Nat} {a : Addr} {H H' : Hp} {vs : List V} {x : V} (r : SqT K H a vs) (y : (Itt K a).yld i H x H') : H' = H ∧ vs[i]? = some x := ⟨y.1, y.2 vs r⟩
/-- for x in a row -/
theorem still_iter {K : Frag} {H0 Fi : Hp} {a : Addr} {vs : List V} {l : Bool} {ss : List Sl} {i : Nat} (h : Still K H0 Fi a vs l) (p : Paired (It1 K H0 Fi) vs ss) :
    IterOk K H0 Fi (if l = true then Itl K a else Itt K a) (gName i) [i] (ss.map fun s => [s]) := by
  have hlen := Paired.length p
  have key : ∀ (k : Nat) (s : List Sl) (A : Nat → List Addr) (σ : S) (H F : Hp) (ρ : Rho) (x : V) (Q : S → Hp → Prop), (ss.map fun s => [s])[k]? = some s → SRA K H0 Fi A σ H F ρ → vs[k]? = some x →
      (∀ A' σ' H2 F2, SRA K H0 Fi A' σ' H2 F2 (setAll [i] s ρ) → Gr H F H2 F2 → (∀ j, j ∉ [i] → σ'[j]? = σ[j]?) → (∀ j, ∀ a ∈ A' j, a ∈ A j) → σ'.length = σ.length → Q σ' H2) → gName i x σ H Q := by
    intro k s A σ H F ρ x Q e sr hx kk
    rw [List.getElem?_map] at e
    cases es : ss[k]? with
    | none => rw [es] at e; cases e
    | some t =>
      rw [es] at e
      cases e
      obtain ⟨y, hy, ht⟩ := Paired.get2 p es
      rw [hx] at hy
      cases hy
      obtain ⟨A', s', ha⟩ := sr.set (i := i) (ht.vok (H := H) sr.gr.ff) fun _ z => by cases z
      refine kk A' (σ.set i (some x)) H F s' (Gr.refl sr.gr.fh') (fun j hj => ?_) (fun j b hb => ?_) (by simp)
      · simp only [List.mem_singleton] at hj
        exact List.getElem?_set_ne (Ne.symm hj)
      · rcases ha j b hb with z | z
        · exact z
        · cases z
  cases l with
  | true =>
    simp only [if_true]
    refine ⟨fun k H F g hk => ?_, fun H F g => ?_, fun k s A σ H F ρ x H' Q e sr y kk => ?_⟩
    · have hk' : k < vs.length := by rw [hlen]; simpa using hk
      exact ⟨vs, vs[k], h.lst g, List.getElem?_eq_getElem hk'⟩
    · exact ⟨vs, h.lst g, by rw [hlen]; simp⟩
    · obtain ⟨e1, e2⟩ := itl_yld (h.lst sr.gr) y
      subst e1
      exact key k s A σ _ F ρ x Q e sr e2 kk
  | false =>
    simp only [Bool.false_eq_true, if_false]
    refine ⟨fun k H F g hk => ?_, fun H F g => ?_, fun k s A σ H F ρ x H' Q e sr y kk => ?_⟩
    · have hk' : k < vs.length := by rw [hlen]; simpa using hk
      exact ⟨vs, vs[k], h.tup g, List.getElem?_eq_getElem hk'⟩
    · exact ⟨vs, h.tup g, by rw [hlen]; simp⟩
    · obtain ⟨e1, e2⟩ := itt_yld (h.tup sr.gr) y
      subst e1
      exact key k s A σ _ F ρ x Q e sr e2 kk
section
variable {X : Cx} {tgE l : Expr} {i : Nat}
theorem iok_row {c : EC} (h : EOk X l c) : IOk X tgE l (gName i) [i] (iRow c) := fun W tk => pi_mono (pi_rowV (h W tk)) fun σ H R q => by
  obtain ⟨H0, F0, F, ρ, s, q⟩ := q
  show rdE X.K X.mg c W σ H fun x H1 => ∃ a, x = .ref a ∧ ((∃ xs, SqL X.K H1 a xs ∧ R (Itl X.K a) H1) ∨ (∃ xs, SqT X.K H1 a xs ∧ R (Itt X.K a) H1))
  unfold iRow at q
  cases e1 : c ρ with
  | stuck => rw [e1] at q; exact q.elim
  | err x => rw [e1] at q; exact rdE_err s e1 q
  | ok rv =>
    rw [e1] at q
    simp only [Res.bind] at q
    refine rdE_ok s e1 fun v H1 F1 A g o n => ?_
    cases e2 : rv.iter with
    | none => rw [e2] at q; exact q.elim
    | some ss =>
      rw [e2] at q
      simp only at q
      have s1 := s.step g
      obtain ⟨a, vs, F', lb, rfl, g2, st, p⟩ := iter_ok s1 o g n e2
      have it := still_iter (i := i) st p
      have g1' : Gr H0 F0 H1 F' := s.gr.trans g2
      cases lb with
      | true =>
        simp only [if_true] at it
        exact ⟨a, rfl, .inl ⟨vs, st.lst ⟨s1.gr.hh, Sub.refl _, fun _ h => .inl h, g2.fh'⟩, q _ H1 F' g2 it⟩⟩
      | false =>
        simp only [Bool.false_eq_true, if_false] at it
        exact ⟨a, rfl, .inr ⟨vs, st.tup ⟨s1.gr.hh, Sub.refl _, fun _ h => .inl h, g2.fh'⟩, q _ H1 F' g2 it⟩⟩
theorem range_iter {K : Frag} {H0 Fi : Hp} (lo hi : Int) : IterOk K H0 Fi (Itr lo (hi - lo).toNat) (gName i) [i] (rangeS lo hi) := by
  have hlen : (rangeS lo hi).length = (hi - lo).toNat := by simp [rangeS]
  refine ⟨fun k H F g hk => by rw [hlen] at hk; exact hk, fun H F g => by rw [hlen]; exact Nat.le_refl _, fun k s A σ H F ρ x H' Q e sr y kk => ?_⟩
  obtain ⟨e1, e2⟩ := y
  subst e1
  have es : s = [slOf (.int (lo + k))] := by
    unfold rangeS at e
    rw [List.getElem?_map] at e
    by_cases hk : k < (hi - lo).toNat
    · rw [List.getElem?_range hk] at e
      cases e; rfl
    · rw [List.getElem?_eq_none (by simp; omega)] at e
      cases e
  subst es
  subst e2
  obtain ⟨A', s', ha⟩ := sr.set (i := i) (x := .int (lo + k)) (sl := slOf (.int (lo + k))) (B := []) ⟨OR.fz (.int _), fun _ z => by cases z⟩ fun _ z => by cases z
  refine kk A' _ _ F s' (Gr.refl sr.gr.fh') (fun j hj => ?_) (fun j b hb => ?_) (by simp)
  · simp only [List.mem_singleton] at hj
    exact List.getElem?_set_ne (Ne.symm hj)
  · rcases ha j b hb with z | z
    · exact z
    · cases z
theorem iok_rng1 {a : Expr} {ca : EC} {p pos : Pos} (hm : X.mg "range" = none) (h : EOk X a ca) (hg : Gl X "range" := by rfl) (he : starEach [a] X.env = (false, eval a X.env) :: starEach [] X.env := by rfl) (hs : starEach [a] X.env = [(false, eval a X.env)] := by rfl) : IOk X tgE (.Call (.Name "range" p) [a] [] pos) (gName i) [i] (iRng1 ca) := fun W tk =>
  pi_mono (pi_range1 hg hm (pa_cons (h W tk) pa_nil he) hs) fun σ H R q => by
    obtain ⟨H0, F0, F, ρ, s, q⟩ := q
    show rdE X.K X.mg ca W σ H fun x H1 => ∃ j : Int, [x] = [.int j] ∧ -(2 ^ 62) ≤ j ∧ j < 2 ^ 62 ∧ R (Itr 0 j.toNat) H1
    unfold iRng1 at q
    cases e1 : ca ρ with
    | stuck => rw [e1] at q; exact q.elim
    | err x => rw [e1] at q; exact rdE_err s e1 q
    | ok rv =>
      rw [e1] at q
      simp only [Res.bind] at q
      refine rdE_ok s e1 fun v H1 F1 A g o n => ?_
      have pp := o.dp (s.step g)
      cases ed : rv.d with
      | int j =>
        rw [ed] at pp q
        obtain rfl := rp_int pp
        simp only at q
        by_cases hc : rngOk j = true
        · simp only [hc, if_true] at q
          have hc' := hc
          simp only [rngOk, Bool.and_eq_true, decide_eq_true_eq] at hc'
          have := range_iter (K := X.K) (H0 := H0) (Fi := F1) (i := i) 0 j
          rw [show (j - 0) = j by omega] at this
          exact ⟨j, rfl, hc'.1, hc'.2, q _ H1 F1 g this⟩
        · simp only [hc] at q
          exact q.elim
      | _ => rw [ed] at q; exact q.elim
theorem iok_rng2 {a b : Expr} {ca cb : EC} {p pos : Pos} (hm : X.mg "range" = none) (h : EOk X a ca) (h' : EOk X b cb) (hg : Gl X "range" := by rfl) (he : starEach [a, b] X.env = (false, eval a X.env) :: starEach [b] X.env := by rfl) (he2 : starEach [b] X.env = (false, eval b X.env) :: starEach [] X.env := by rfl)
    (hs : starEach [a, b] X.env = [(false, eval a X.env), (false, eval b X.env)] := by rfl) (hs2 : starEach [b] X.env = [(false, eval b X.env)] := by rfl) : IOk X tgE (.Call (.Name "range" p) [a, b] [] pos) (gName i) [i] (iRng2 ca cb) := fun W tk =>
  pi_mono (pi_range2 hg hm (pa_cons (h W tk) (pa_cons (h' W tk) pa_nil he2) he) hs hs2) fun σ H R q => by
    obtain ⟨H0, F0, F, ρ, s, q⟩ := q
    show rdE X.K X.mg ca W σ H fun x H1 => rdE X.K X.mg cb W σ H1 fun y H2 => ∃ i j : Int, [x, y] = [.int i, .int j] ∧ (-(2 ^ 62) ≤ i ∧ i < 2 ^ 62 ∧ -(2 ^ 62) ≤ j ∧ j < 2 ^ 62) ∧ R (Itr i (j - i).toNat) H2
    unfold iRng2 at q
    cases e1 : ca ρ with
    | stuck => rw [e1] at q; exact q.elim
    | err x => rw [e1] at q; exact rdE_err s e1 q
    | ok rv =>
      rw [e1] at q
      simp only [Res.bind] at q
      refine rdE_ok s e1 fun v H1 F1 A g o n => ?_
      cases e2 : cb ρ with
      | stuck => rw [e2] at q; exact q.elim
      | err x => rw [e2] at q; exact rdE_err (s.step g) e2 fun cls d H' F' g' => q cls d H' F' (g.trans g')
      | ok rw' =>
        rw [e2] at q
        simp only at q
        refine rdE_ok (s.step g) e2 fun w H2 F2 B g2 o2 n2 => ?_
        have pp := (o.gr g2).dp ((s.step g).step g2)
        have pq := o2.dp ((s.step g).step g2)
        cases ed : rv.d with
        | int k =>
          cases ee : rw'.d with
          | int j =>
            rw [ed] at pp
            rw [ee] at pq
            rw [ed, ee] at q
            obtain rfl := rp_int pp
            obtain rfl := rp_int pq
            simp only at q
            by_cases hc : rngOk k = true ∧ rngOk j = true
            · simp only [hc, and_self, if_true] at q
              have hc' := hc
              simp only [rngOk, Bool.and_eq_true, decide_eq_true_eq] at hc'
              exact ⟨k, j, rfl, ⟨hc'.1.1, hc'.1.2, hc'.2.1, hc'.2.2⟩, q _ H2 F2 (g.trans g2) (range_iter k j)⟩
            · simp only [hc] at q
              exact q.elim
          | _ => rw [ed, ee] at q; exact q.elim
        | _ => rw [ed] at q; exact q.elim
end
end VL

set_option Elab.async false
set_option linter.all false
set_option maxRecDepth 100000
set_option maxHeartbeats 4000000
/-! VL8: comprehensions, statements, loops, defs. -/
namespace VL
open PySem PySem.Spec PyProof.Rows L2

/-! ### comprehensions -/
theorem setAll_len : ∀ (tg : List Nat) (ss : List Sl) (ρ : Rho), (setAll tg ss ρ).length = ρ.length
  | [], _, _ => rfl
  | _ :: _, [], _ => rfl
  | i :: tg, s :: ss, ρ => by rw [setAll, setAll_len tg ss]; simp
theorem wipe_get {i : Nat} : ∀ {vs : List Nat} {σ : S}, i ∈ vs → i < σ.length → (wipe σ vs)[i]? = some none
  | [], _, h, _ => by cases h
  | v :: vs, σ, h, hl => by
    unfold wipe
    by_cases e : v = i
    · subst e
      exact List.getElem?_set_self (by rw [wipe_length]; exact hl)
    · rw [List.getElem?_set_ne e]
      exact wipe_get ((List.mem_cons.mp h).resolve_left (Ne.symm e)) hl
theorem wipe_ext {σ σ' : S} {vs : List Nat} (hl : σ'.length = σ.length) (h : ∀ j, j ∉ vs → σ'[j]? = σ[j]?) : wipe σ' vs = wipe σ vs := by
  apply List.ext_getElem?
  intro j
  by_cases hj : j ∈ vs
  · by_cases hs : j < σ.length
    · rw [wipe_get hj (by rw [hl]; exact hs), wipe_get hj hs]
    · rw [List.getElem?_eq_none (by rw [wipe_length, hl]; omega), List.getElem?_eq_none (by rw [wipe_length]; omega)]
  · rw [wipe_out hj, wipe_out hj, h j hj]
theorem wipe_wipe {σ : S} {vs : List Nat} : wipe (wipe σ vs) vs = wipe σ vs := wipe_ext (wipe_length _ _) fun j hj => wipe_out hj
def CompOk (X : Cx) (scope : Scope) (tg : Expr) (g : TG) (ifs : List Expr) (t : TC) (elt : Expr) (c : EC) : Prop :=
  ∀ (s : Shared) (H : Hp) (C : Addr) (cl : List (Str × Addr)) (fp : List Addr), PG (X.blk s H scope (compEnvC scope cl C X.env) fp) tg g ∧ PTs (X.blk s H scope (compEnvC scope cl C X.env) fp) ifs (rdT X.K X.mg t fun _ _ _ _ => False) ∧ EOk (X.blk s H scope (compEnvC scope cl C X.env) fp) elt c
theorem pts_nilV {X : Cx} : PTs X [] (rdT X.K X.mg VL.tYes fun _ _ _ _ => False) := ⟨fun pins s σ H Q I h => by
  obtain ⟨H0, F0, F, ρ, sr, h⟩ := h
  exact pts_nil.run pins s σ H Q I (h H F sr.refl)⟩
theorem pts_oneV {X : Cx} {e : Expr} {t : TC} (h : TOk X e t) : PTs X [e] (rdT X.K X.mg t fun _ _ _ _ => False) := pts_one (h _ takes0)
theorem comp_rd {K : Frag} {mg : Str → Option Value} {W : WX} {ic : IC} {g : TG} {tg : List Nat} {t : TC} {c : EC} {σ : S} {H : Hp} {Q : VK} (h : rdE K mg (eComp tg ic t c) W σ H Q) :
    tLc (rdI K mg g tg ic W) g (rdT K mg t fun _ _ _ _ => False) (rdE K mg c fun _ _ _ _ => False) tg σ H Q := by
  obtain ⟨H0, F0, F, ρ, s, h⟩ := h
  unfold eComp at h
  refine ⟨H0, F0, F, ρ, s, ?_⟩
  cases e1 : ic ρ with
  | stuck => rw [e1] at h; exact h.elim
  | err x => rw [e1] at h; exact h
  | ok items =>
    rw [e1] at h
    simp only [Res.bind] at h
    intro J H1 F1 gr it D hD
    by_cases hc : items.length ≤ 16777216
    case neg => simp only [hc, if_false] at h
    simp only [hc, if_true] at h
    cases e2 : compL tg t c items (wipeR tg ρ) with
    | stuck => rw [e2] at h; exact h.elim
    | err x => rw [e2] at h; exact h.elim
    | ok os =>
      rw [e2] at h
      simp only at h
      have s1 := s.step gr
      obtain ⟨A0, sa⟩ := s1.sra
      have rb : SRA K H0 F1 A0 σ H1 F1 ρ := ⟨sa.len, ⟨sa.gr.hh, Sub.refl _, fun _ h => .inl h, sa.gr.fh'⟩, sa.sl, sa.ap⟩
      obtain ⟨A1, sw, hw⟩ := rb.wipe tg
      have A1H : ∀ j, ∀ a ∈ A1 j, H1 a ≠ none ∧ F1 a = none := fun j a ha => let q := (sa.sl j).there a (hw j a ha); ⟨q.1, q.2.1⟩
      have F1D : F1 D = none := sa.gr.fh'.none hD
      have H0D : H0 D = none := sa.gr.hh.none hD
      -- the invariant
      refine ⟨fun i m H' => m = items.length - i ∧ i ≤ items.length ∧ ∃ F' acc done rest A B, Gr H1 F1 H' F' ∧ SRA K H0 F1 A (wipe σ tg) H' F' (wipeR tg ρ) ∧ (∀ j, ∀ a ∈ A j, H1 a ≠ none) ∧ H' D = some (.lst acc) ∧ F' D = none ∧ ORs K H' F' acc done B ∧ (∀ b ∈ B, H1 b = none ∧ b ≠ D) ∧
        acc.length ≤ i ∧ compL tg t c (items.drop i) (wipeR tg ρ) = .ok rest ∧ os = done ++ rest, ⟨items.length, by simp, Nat.zero_le _, F1, [], [], os, A1, [], Gr.laid sa.gr.fh' hD, ?_, fun j a ha => (A1H j a ha).1, upd_same, F1D, .nil, (fun _ z => by cases z), Nat.le_refl _, by simpa using e2, rfl⟩, ?_⟩
      · exact sw.step (Gr.laid sa.gr.fh' hD)
      · rintro i m H' ⟨rfl, hi, F', acc, dn, rest, A, B, g', sr, hA, hDacc, hFD, od, hB, hlen, er, eo⟩
        by_cases hlt : i < items.length
        · refine .inr ⟨it.go i H' F' sr.gr hlt, fun H'' => ∃ m', m' < items.length - i ∧ (m' = items.length - (i + 1) ∧ i + 1 ≤ items.length ∧ ∃ F' acc done rest A B, Gr H1 F1 H'' F' ∧ SRA K H0 F1 A (wipe σ tg) H'' F' (wipeR tg ρ) ∧ (∀ j, ∀ a ∈ A j, H1 a ≠ none) ∧ H'' D = some (.lst acc) ∧ F' D = none ∧ ORs K H'' F' acc done B ∧ (∀ b ∈ B, H1 b = none ∧ b ≠ D) ∧
            acc.length ≤ i + 1 ∧ compL tg t c (items.drop (i + 1)) (wipeR tg ρ) = .ok rest ∧ os = done ++ rest), fun H'' h => h, fun x H2 y => ?_⟩
          have hs : items[i]? = some items[i] := List.getElem?_eq_getElem hlt
          have ed : items.drop i = items[i] :: items.drop (i + 1) := List.drop_eq_getElem_cons hlt
          rw [ed] at er
          refine it.turn i _ A _ H' F' _ x H2 _ hs sr y fun A3 σ3 H3 F3 s3 g3 e3 a3 l3 => ⟨?_, ?_⟩
          · have : wipe σ3 tg = wipe (wipe σ tg) tg := wipe_ext l3 e3
            rw [this, wipe_wipe]
          unfold compL at er
          have g13 := g'.trans g3
          have D3 : H3 D = some (.lst acc) := g3.hh D _ hDacc
          have hD' : H' D ≠ none := by rw [hDacc]; simp
          refine ⟨H0, F1, F3, _, s3.sr, ?_⟩
          cases et : t (setAll tg items[i] (wipeR tg ρ)) with
          | stuck => rw [et] at er; cases er
          | err x => rw [et] at er; cases er
          | ok b =>
            rw [et] at er
            intro H4 F4 g4
            have D4 : H4 D = some (.lst acc) := g4.hh D _ D3
            have F4D : F4 D = none := (g3.trans g4).stay hD' hFD
            -- the outer slots' state at a later heap
            have outer : ∀ {H5 F5 : Hp}, Gr H' F' H5 F5 → SRA K H0 F1 A (wipe σ tg) H5 F5 (wipeR tg ρ) := fun g => sr.step g
            cases b with
            | false =>
              simp only at er
              simp only [Bool.false_eq_true, if_false]
              exact ⟨_, by omega, rfl, by omega, F4, acc, dn, rest, A, B, g13.trans g4, outer (g3.trans g4), hA, D4, F4D, od.gr (g3.trans g4), hB, by omega, er, eo⟩
            | true =>
              simp only at er
              simp only [if_true]
              refine ⟨H0, F1, F4, _, (s3.step g4).sr, ?_⟩
              cases ee : c (setAll tg items[i] (wipeR tg ρ)) with
              | stuck => rw [ee] at er; cases er
              | err x => rw [ee] at er; cases er
              | ok rv =>
                rw [ee] at er
                simp only at er
                cases eow : rv.ow with
                | none => rw [eow] at er; cases er
                | some o =>
                  rw [eow] at er
                  simp only at er
                  cases e5 : compL tg t c (items.drop (i + 1)) (wipeR tg ρ) with
                  | stuck => rw [e5] at er; cases er
                  | err x => rw [e5] at er; cases er
                  | ok rest' =>
                    rw [e5] at er
                    cases er
                    intro v H5 F5 C g5 ov nC
                    have rvo : rv = .val o := by cases rv with
                      | val w => cases eow; rfl
                      | _ => cases eow
                    subst rvo
                    have g35 := (g3.trans g4).trans g5
                    have D5 : H5 D = some (.lst acc) := g5.hh D _ D4
                    have F5D : F5 D = none := g35.stay hD' hFD
                    have CD : ∀ b ∈ C, b ≠ D := fun b hb e => by
                      have := nC b hb
                      rw [e, D4] at this
                      cases this
                    have CH1 : ∀ b ∈ C, H1 b = none := fun b hb => (g13.trans g4).hh.none (nC b hb)
                    -- D is written
                    have keep : ∀ {a : Addr}, a ≠ D → upd H5 D (.lst (acc ++ [v])) a = H5 a := fun h => upd_ne h
                    refine ⟨acc, D5, by rw [sizeLine_eq]; omega, _, by omega, rfl, by omega, F5, acc ++ [v], dn ++ [o], rest', A, B ++ (C ++ []), ?_, ?_, hA, upd_same, F5D, ?_, ?_, by simp; omega, rfl, by rw [eo]; simp⟩
                    · have G := g13.trans (g4.trans g5)
                      exact ⟨fun a u e => by rw [keep (ne_of_none e hD)]; exact G.hh a u e, G.ff, G.fn, fun a u e => by
                        rw [keep (fun z => by rw [z, F5D] at e; cases e)]
                        exact G.fh' a u e⟩
                    · have S5 := outer g35
                      refine ⟨S5.len, ⟨fun a u e => by rw [keep (ne_of_none e H0D)]; exact S5.gr.hh a u e, S5.gr.ff, S5.gr.fn, fun a u e => by
                        rw [keep (fun z => by rw [z, F5D] at e; cases e)]
                        exact S5.gr.fh' a u e⟩, fun j => ?_, S5.ap⟩
                      have q := S5.sl j
                      have nD : ∀ a ∈ A j, a ≠ D := fun a ha e => by
                        have := hA j a ha
                        rw [e] at this
                        exact this hD
                      match op : (wipeR tg ρ)[j]?, q with
                      | some (some (.own ow)), ⟨v, e0, q, q2⟩ => exact ⟨v, e0, q.keep (Sub.refl _) fun a ha => ⟨keep (nD a ha), (q.there a ha).2⟩, q2⟩
                      | some (some (.bor d)), q => exact q
                      | some none, q => exact q
                      | none, q => exact q
                    · refine ORs.append ((od.gr g35).keep (Sub.refl _) fun a ha => ⟨keep (hB a ha).2, ((od.gr g35).there a ha).2⟩) (.cons (OR.keep (Sub.refl _) ov fun a ha => ⟨keep (CD a ha), (OR.there ov a ha).2⟩) .nil fun _ _ z => by cases z) fun a ha hb => ?_
                      have hb' : a ∈ C := by simpa using hb
                      have := (od.gr (g3.trans g4)).there a ha
                      exact this.1 (nC a hb')
                    · intro b hb
                      rcases List.mem_append.mp hb with z | z
                      · exact hB b z
                      · have z' : b ∈ C := by simpa using z
                        exact ⟨CH1 b z', CD b z'⟩
        · have e : i = items.length := by omega
          subst e
          refine .inl ⟨it.stop H' F' sr.gr, ?_⟩
          rw [List.drop_length] at er
          simp only [compL] at er
          cases er
          rw [List.append_nil] at eo
          subst eo
          refine h (.ref D) H' F' (D :: B) (gr.trans g') (OR.ls hDacc hFD (fun hb => (hB D hb).2 rfl) od) fun a ha => ?_
          rcases List.mem_cons.mp ha with rfl | ha
          · exact gr.hh.none hD
          · exact gr.hh.none (hB a ha).1
section
variable {X : Cx} {elt tgE iter : Expr} {ifs : List Expr} {scope : Scope} {own : List (Str × Nat)} {pos : Pos} {g : TG} {tg : List Nat} {ic : IC} {t : TC} {c : EC}
theorem eok_comp (hc : X.calm = true) (hN : X.N.Nodup) (hi : IOk X tgE iter g tg ic) (ok : BlkOk X.N X.env.scope scope own) (hown : own.map (·.2) = tg) (hb : CompOk X scope tgE g ifs t elt c) (hs : ∀ x, foldedSetIterable iter X.env x = pure x := by intro _; rfl) :
    EOk X (.ListComp elt [⟨tgE, iter, ifs, 0⟩] scope pos) (eComp tg ic t c) := fun W tk => by
  have := pe_lc (pos := pos) (g := g) (tt := rdT X.K X.mg t fun _ _ _ _ => False) (te := rdE X.K X.mg c fun _ _ _ _ => False) hc hN (hi W tk) ok (fun s H C cl fp => (hb s H C cl fp).1) (fun s H C cl fp => (hb s H C cl fp).2.1) (fun s H C cl fp => (hb s H C cl fp).2.2 _ takes0) hs
  rw [hown] at this
  exact pe_mono this fun σ H Q h => comp_rd h

/-! ### statements -/
def GoodS (K : Frag) (mg : Str → Option Value) (H0 F0 : Hp) (W : WX) (D : Ends) : SRes → Prop
  | .next ρ' => ∀ σ' H' F', SR K H0 F0 σ' H' F' ρ' → D.nx σ' H'
  | .brk ρ' => ∀ σ' H' F', SR K H0 F0 σ' H' F' ρ' → D.bk σ' H'
  | .cont ρ' => ∀ σ' H' F', SR K H0 F0 σ' H' F' ρ' → D.ct σ' H'
  | .ret ow => ∀ v H' F' A, Gr H0 F0 H' F' → OR K H' F' v ow A → (∀ a ∈ A, H0 a = none) → D.rt v H'
  | .err x ρ' => ∀ cls d σ' H' F', SR K H0 F0 σ' H' F' ρ' → XOk K mg F' H' cls d x → W cls d σ' H'
  | .stuck => False
def rdS (K : Frag) (mg : Str → Option Value) (c : SC) (W : WX) : TS := fun D σ H => ∃ H0 F0 F ρ, SR K H0 F0 σ H F ρ ∧ GoodS K mg H0 F0 W D (c ρ)
def SOk (X : Cx) (st : Stmt) (c : SC) : Prop := ∀ W, Takes X W → PS X st (rdS X.K X.mg c W)
def BOk (X : Cx) (st : List Stmt) (c : SC) : Prop := ∀ W, Takes X W → PSs X st (rdS X.K X.mg c W)
theorem ps_mono {st : Stmt} {u u' : TS} (h : PS X st u) (k : ∀ D σ H, u' D σ H → u D σ H) : PS X st u' := ⟨fun pins s σ H D I q => h.run pins s σ H D I (k D σ H q)⟩
theorem pss_mono {st : List Stmt} {u u' : TS} (h : PSs X st u) (k : ∀ D σ H, u' D σ H → u D σ H) : PSs X st u' := ⟨fun pins s σ H D I q => h.run pins s σ H D I (k D σ H q)⟩
variable {st : Stmt} {rest : List Stmt} {a b : SC} {e : Expr} {ce : EC} {tt : TC}
theorem bok_nil : BOk X [] sPass := fun W tk => pss_mono pss_nil fun D σ H ⟨H0, F0, F, ρ, s, h⟩ => h σ H F s
theorem bok_one (h : SOk X st a) : BOk X [st] a := fun W tk => pss_one (h W tk)
theorem bok_cons (h : SOk X st a) (r : BOk X rest b) : BOk X (st :: rest) (sSeq a b) := fun W tk => pss_mono (pss_cons (h W tk) (r W tk)) fun D σ H ⟨H0, F0, F, ρ, s, h⟩ => by
  refine ⟨H0, F0, F, ρ, s, ?_⟩
  unfold sSeq at h
  cases e1 : a ρ with
  | next ρ' =>
    rw [e1] at h
    exact fun σ' H' F' s' => ⟨H0, F0, F', ρ', s', h⟩
  | ret ow => rw [e1] at h; exact h
  | brk ρ' => rw [e1] at h; exact h
  | cont ρ' => rw [e1] at h; exact h
  | err x ρ' => rw [e1] at h; exact h
  | stuck => rw [e1] at h; exact h.elim
/-- a statement that is never reached -/
theorem sok_stuck : SOk X st sStuck := fun W tk => ps_mono ps_never fun D σ H ⟨H0, F0, F, ρ, s, h⟩ => h
theorem sok_pass : SOk X (.Pass pos) sPass := fun W tk => ps_mono ps_pass fun D σ H ⟨H0, F0, F, ρ, s, h⟩ => h σ H F s
/-- a slot frozen ahead of a statement -/
theorem SR.frzSlot {K : Frag} {H0 F0 H F : Hp} {σ : S} {ρ : Rho} (s : SR K H0 F0 σ H F ρ) (i : Nat) : ∃ F', SR K H0 F0 σ H F' (ρ.set i (frzSl ρ[i]?)) := by
  obtain ⟨A, sa⟩ := s.sra
  have q := sa.sl i
  have same : (ρ.set i (frzSl ρ[i]?) = ρ) → ∃ F', SR K H0 F0 σ H F' (ρ.set i (frzSl ρ[i]?)) := fun e => ⟨F, by rw [e]; exact s⟩
  match o : ρ[i]?, q with
  | none, _ => exact ⟨F, by rw [List.set_eq_of_length_le (List.getElem?_eq_none_iff.mp o)]; exact s⟩
  | some none, _ =>
    refine ⟨F, ?_⟩
    have : ρ.set i (frzSl (some none)) = ρ := by
      obtain ⟨h1, h2⟩ := List.getElem?_eq_some_iff.mp o
      show ρ.set i none = ρ
      rw [← h2, List.set_getElem_self]
    rw [this]; exact s
  | some (some (.bor d)), _ =>
    refine ⟨F, ?_⟩
    have : ρ.set i (frzSl (some (some (.bor d)))) = ρ := by
      obtain ⟨h1, h2⟩ := List.getElem?_eq_some_iff.mp o
      show ρ.set i (some (.bor d)) = ρ
      rw [← h2, List.set_getElem_self]
    rw [this]; exact s
  | some (some (.own ow)), ⟨v, e1, o1, o2⟩ =>
    have hi : i < ρ.length := (List.getElem?_eq_some_iff.mp o).1
    have fA : ∀ a ∈ A i, F a = none := fun a ha => (o1.there a ha).2
    refine ⟨frz F H (A i), ⟨by simp [sa.len], sa.gr.frozen o2 fA, fun j => if j = i then [] else A j, fun j => ?_, fun j k hjk a ha hb => ?_⟩⟩
    · by_cases ej : j = i
      · subst ej
        simp only [if_true, List.getElem?_set_self hi]
        exact ⟨v, e1, OR.fz o1.freeze, fun _ z => by cases z⟩
      · have qj := sa.sl j
        simp only [ej, if_false, List.getElem?_set_ne (Ne.symm ej)]
        match oj : ρ[j]?, qj with
        | some (some (.own ow')), ⟨v', e1', q', q2'⟩ =>
          exact ⟨v', e1', q'.keep (frz_sub fA) fun a ha => ⟨rfl, by rw [frz_out (sa.ap j i ej a ha)]; exact (q'.there a ha).2⟩, q2'⟩
        | some (some (.bor d)), q' => exact q'
        | some none, q' => exact q'
        | none, q' => exact q'
    · by_cases ej : j = i
      · simp only [ej, if_true] at ha; cases ha
      · by_cases ek : k = i
        · simp only [ek, if_true] at hb; cases hb
        · simp only [ej, ek, if_false] at ha hb
          exact sa.ap j k hjk a ha hb
theorem sok_frz {i : Nat} (h : SOk X st a) : SOk X st (sFrz i a) := fun W tk => ps_mono (h W tk) fun D σ H ⟨H0, F0, F, ρ, s, h⟩ => by
  obtain ⟨F', s'⟩ := s.frzSlot i
  exact ⟨H0, F0, F', _, s', h⟩
theorem sok_if {ss rr : List Stmt} (ht : TOk X e tt) (ha : BOk X ss a) (hb : BOk X rr b) : SOk X (.If e ss rr pos) (sIf tt a b) := fun W tk => ps_mono (ps_if (ht W tk) (ha W tk) (hb W tk)) fun D σ H ⟨H0, F0, F, ρ, s, h⟩ => by
  show rdT X.K X.mg tt W σ H fun c H1 => if c = true then rdS X.K X.mg a W D σ H1 else rdS X.K X.mg b W D σ H1
  unfold sIf at h
  cases e1 : tt ρ with
  | stuck => rw [e1] at h; exact h.elim
  | err x => rw [e1] at h; exact rdT_err s e1 fun cls d H' F' g xo => h cls d σ H' F' (s.step g) xo
  | ok c =>
    rw [e1] at h
    refine rdT_ok s e1 fun H1 F1 g => ?_
    cases c with
    | true => exact ⟨H0, F0, F1, ρ, s.step g, h⟩
    | false => exact ⟨H0, F0, F1, ρ, s.step g, h⟩
theorem sok_ret (h : EOk X e ce) : SOk X (.Return (some e) pos) (sRet ce) := fun W tk => ps_mono (ps_ret (h W tk)) fun D σ H ⟨H0, F0, F, ρ, s, h⟩ => by
  show rdE X.K X.mg ce W σ H D.rt
  unfold sRet at h
  cases e1 : ce ρ with
  | stuck => rw [e1] at h; exact h.elim
  | err x => rw [e1] at h; exact rdE_err s e1 fun cls d H' F' g xo => h cls d σ H' F' (s.step g) xo
  | ok rv =>
    rw [e1] at h
    refine rdE_ok s e1 fun v H1 F1 A g o n => ?_
    have s1 := s.step g
    match rv, o, h with
    | .val ow, o, h => exact h v H1 F1 A s1.gr o fun a ha => s.gr.hh.none (n a ha)
    | .ref i [] ow, ⟨_, ⟨v0, e0, ev⟩, ⟨ow0, eo, ea⟩, _⟩, h =>
      have ev' : v = v0 := ev
      subst ev'
      have ea' : ow0 = ow := by cases ow0 <;> (simp only [Ow.at] at ea; cases ea; rfl)
      subst ea'
      obtain ⟨A', sa⟩ := s1.sra
      have q := sa.sl i
      rw [eo] at q
      obtain ⟨v', e1', q1, q2⟩ := q
      rw [e0] at e1'
      cases e1'
      exact h v H1 F1 _ s1.gr q1 q2
    | .ref i (_ :: _) ow, _, h => exact h.elim
    | .bor d, _, h => exact h.elim
theorem sok_retN : SOk X (.Return none pos) (fun _ => .ret (.fz .none)) := fun W tk => ps_mono ps_retN fun D σ H ⟨H0, F0, F, ρ, s, h⟩ => h .non H F [] s.gr (OR.fz .non) fun _ z => by cases z
/-- name = e -/
theorem set_rd {W : WX} {i : Nat} {K : Frag} {mg : Str → Option Value} {D : Ends} {σ : S} {H : Hp} (h : rdS K mg (sSet i ce) W D σ H) : rdE K mg ce W σ H fun x H1 => D.nx (σ.set i (some x)) H1 := by
  obtain ⟨H0, F0, F, ρ, s, h⟩ := h
  unfold sSet at h
  cases e1 : ce ρ with
  | stuck => rw [e1] at h; exact h.elim
  | err x => rw [e1] at h; exact rdE_err s e1 fun cls d H' F' g xo => h cls d σ H' F' (s.step g) xo
  | ok rv =>
    rw [e1] at h
    refine rdE_ok s e1 fun v H1 F1 A g o n => ?_
    obtain ⟨A0, sa0⟩ := s.sra
    have sa := sa0.step g
    cases rv with
    | val ow =>
      obtain ⟨A', s', _⟩ := sa.set (i := i) (x := v) (sl := .own ow) (B := A) ⟨o, fun b hb => s.gr.hh.none (n b hb)⟩ fun b hb j hj => ((sa0.sl j).there b hj).1 (n b hb)
      exact h _ H1 F1 s'.sr
    | ref _ _ _ => exact h.elim
    | bor d =>
      obtain ⟨e0, o⟩ := o
      obtain ⟨A', s', _⟩ := sa.set (i := i) (x := v) (sl := .bor d) (B := []) ⟨rfl, o⟩ fun b hb => by cases hb
      exact h _ H1 F1 s'.sr
end
end VL

set_option Elab.async false
set_option linter.all false
set_option maxRecDepth 100000
set_option maxHeartbeats 4000000
/-! VL9: assignments, loops, stores, defs. -/
namespace VL
open PySem PySem.Spec PyProof.Rows L2
section
variable {X : Cx} {elt tgE iter : Expr} {ifs : List Expr} {scope : Scope} {own : List (Str × Nat)} {pos : Pos} {g : TG} {tg : List Nat} {ic : IC} {t : TC} {c : EC} {st : Stmt} {rest : List Stmt} {a b : SC} {e o : Expr} {ce co : EC} {tt : TC} {i : Nat} {x : Str}
theorem sok_set {p2 : Pos} (hN : X.N.Nodup) (hi : X.N[i]? = some x) (hx : Loc X.env.scope x) (h : EOk X e ce) (hs : swapsWith e (some (.Name x p2)) pos.line X.env = pure false := by rfl) (hf : X.fn x = true ∨ X.env.scope.names.lookup x = some .local := by first | exact .inl rfl | exact .inr rfl | assumption) :
    SOk X (.Assign [.Name x p2] e pos) (sSet i ce) := fun W tk => ps_mono (ps_set hN hi hx (h W tk) hs hf) fun D σ H h => set_rd h
theorem sok_setLc {py spos : Pos} {y : Str} (hc : X.calm = true) (hN : X.N.Nodup) (hy : X.N[i]? = some y) (hyl : X.env.scope.names.lookup y = some .local) (hsw : swapsWith (.ListComp elt [⟨tgE, iter, ifs, 0⟩] scope pos) (some (.Name y py)) spos.line X.env = pure true)
    (hi : IOk X tgE iter g tg ic) (ok : BlkOk X.N X.env.scope scope own) (hown : own.map (·.2) = tg) (hb : CompOk X scope tgE g ifs t elt c) (hs : ∀ x, foldedSetIterable iter X.env x = pure x := by intro _; rfl) :
    SOk X (.Assign [.Name y py] (.ListComp elt [⟨tgE, iter, ifs, 0⟩] scope pos) spos) (sSet i (eComp tg ic t c)) := fun W tk => by
  have := ps_setLc (pos := pos) (spos := spos) (py := py) (g := g) (tt := rdT X.K X.mg t fun _ _ _ _ => False) (te := rdE X.K X.mg c fun _ _ _ _ => False) hc hN hy hyl hsw (hi W tk) ok (fun s H C cl fp => (hb s H C cl fp).1) (fun s H C cl fp => (hb s H C cl fp).2.1) (fun s H C cl fp => (hb s H C cl fp).2.2 _ takes0) hs
  rw [hown] at this
  exact ps_mono this fun D σ H h => comp_rd (set_rd h)
/-- a, b, .. = a row -/
def gRow (K : Frag) (n : Nat) (t : TGs) : TG := fun v σ H Q => ∃ a xs, v = .ref a ∧ (SqL K H a xs ∨ SqT K H a xs) ∧ xs.length = n ∧ t xs σ H Q
theorem pg_row {es : List Expr} {k : Nat} {t : TGs} {n : Nat} (hc : X.calm = true) (h : PGs X es t) (hn : (assignEach es X.env).length = n := by rfl) (hst : (assignEach es X.env).findIdx? (·.1) = none := by rfl) : PG X (.Tuple es k pos) (gRow X.K n t) := by
  refine ⟨fun pins s σ H v u Q I r hw => ?_⟩
  obtain ⟨a, xs, e1, hq, hl, hw⟩ := hw
  rcases hq with hq | hq
  · exact (pg_lst hc h hn hst).run pins s σ H v u Q I r ⟨a, xs, e1, hq, hl, hw⟩
  · exact (pg_tup hc h hn hst).run pins s σ H v u Q I r ⟨a, xs, e1, hq, hl, hw⟩
theorem voks_fz {K : Frag} {H0 H F : Hp} : ∀ {ds : List D} {vs : List V}, RpAll K F vs ds → VOks K H0 H F vs [] (ds.map slOf)
  | [], _, .nil => .nil
  | _ :: _, _, .cons h r => .cons (B := []) (C := []) ⟨OR.fz h, fun _ z => by cases z⟩ (voks_fz r) fun _ z => by cases z
theorem voks_bor {K : Frag} {H0 H F : Hp} : ∀ {ds : List D} {vs : List V}, RpAll K H0 vs ds → VOks K H0 H F vs [] (ds.map slBor)
  | [], _, .nil => .nil
  | d :: _, _, .cons h r => .cons (B := []) (C := []) (by
      unfold slBor
      by_cases hs : scal d = true
      · rw [if_pos hs, h.scal_eq hs]; exact ⟨OR.fz (Rp.scal F hs), fun _ z => by cases z⟩
      · rw [if_neg hs]; exact ⟨rfl, h⟩) (voks_bor r) fun _ z => by cases z
theorem voks_own {K : Frag} {H0 H F : Hp} : ∀ {xs : List Ow} {vs : List V} {A : List Addr}, ORs K H F vs xs A → (∀ a ∈ A, H0 a = none) → VOks K H0 H F vs A (xs.map Sl.own)
  | [], _, _, .nil, _ => .nil
  | _ :: _, _, _, .cons h r n, k => .cons ⟨h, fun b hb => k b (List.mem_append_left _ hb)⟩ (voks_own r fun b hb => k b (List.mem_append_right _ hb)) n
theorem parts_ok {K : Frag} {H0 F0 H F : Hp} {σ : S} {ρ : Rho} {v : V} {A : List Addr} {rv : RV} {ss : List Sl} (s : SR K H0 F0 σ H F ρ) (h : RVOk K H0 H F σ ρ v A rv) (hA : ∀ a ∈ A, H0 a = none) (e : rv.parts = some ss) :
    ∃ a vs B, v = .ref a ∧ (SqL K H a vs ∨ SqT K H a vs) ∧ VOks K H0 H F vs B ss ∧ ∀ b ∈ B, b ∈ A := by
  match rv, h, e with
  | .val (.fz (.tuple ds)), h, e =>
    cases e
    cases (OR.fz_inv h).2 with
    | tup r ra => exact ⟨_, _, [], rfl, .inr (s.sub.sqT r), voks_fz ra, fun _ z => by cases z⟩
  | .val (.fz (.list ds)), h, e =>
    cases e
    cases (OR.fz_inv h).2 with
    | lst r ra => exact ⟨_, _, [], rfl, .inl (s.sub.lk r).sqL, voks_fz ra, fun _ z => by cases z⟩
  | .val (.ls xs), h, e =>
    cases e
    obtain ⟨a, vs, B, rfl, rfl, h1, _, _, o⟩ := OR.ls_inv h
    exact ⟨a, vs, B, rfl, .inl (.of h1), voks_own o fun b hb => hA b (List.mem_cons_of_mem _ hb), fun b hb => List.mem_cons_of_mem _ hb⟩
  | .val (.tp xs), h, e =>
    cases e
    obtain ⟨a, vs, B, rfl, rfl, h1, _, _, o⟩ := OR.tp_inv h
    exact ⟨a, vs, B, rfl, .inr (.of h1), voks_own o fun b hb => hA b (List.mem_cons_of_mem _ hb), fun b hb => List.mem_cons_of_mem _ hb⟩
  | .bor (.tuple ds), ⟨_, p⟩, e =>
    cases e
    cases p with
    | tup r ra => exact ⟨_, _, [], rfl, .inr (s.gr.hh.sqT r), voks_bor ra, fun _ z => by cases z⟩
  | .bor (.list ds), ⟨_, p⟩, e =>
    cases e
    cases p with
    | lst r ra => exact ⟨_, _, [], rfl, .inl (s.gr.hh.lk r).sqL, voks_bor ra, fun _ z => by cases z⟩
theorem VOks.len {K : Frag} {H0 H F : Hp} : ∀ {xs : List V} {B : List Addr} {ss : List Sl}, VOks K H0 H F xs B ss → xs.length = ss.length
  | _, _, _, .nil => rfl
  | _, _, _, .cons _ r _ => by simp [VOks.len r]
theorem sok_unp {es : List Expr} {k : Nat} {p2 : Pos} (hc : X.calm = true) (h : EOk X e ce) (hg : PGs X es (gNames tg)) (hn : (assignEach es X.env).length = tg.length := by rfl) (hst : (assignEach es X.env).findIdx? (·.1) = none := by rfl)
    (hs : swapsWithSole [.Tuple es k p2] e pos.line X.env = pure false := by rfl) (hw : swappedStores [.Tuple es k p2] e X.env = pure none := by rfl) (h1 : (assignEach [.Tuple es k p2] X.env).map (·.2) = [assign (.Tuple es k p2) X.env] := by rfl) :
    SOk X (.Assign [.Tuple es k p2] e pos) (sUnp tg ce) := fun W tk => ps_mono (ps_asg (h W tk) (pg_row hc hg hn hst) hs hw h1) fun D σ H ⟨H0, F0, F, ρ, s, h⟩ => by
  show rdE X.K X.mg ce W σ H fun x H1 => gRow X.K tg.length (gNames tg) x σ H1 D.nx
  unfold sUnp at h
  cases e1 : ce ρ with
  | stuck => rw [e1] at h; exact h.elim
  | err x => rw [e1] at h; exact rdE_err s e1 fun cls d H' F' g xo => h cls d σ H' F' (s.step g) xo
  | ok rv =>
    rw [e1] at h
    simp only at h
    refine rdE_ok s e1 fun v H1 F1 A gg o n => ?_
    obtain ⟨A0, sa0⟩ := s.sra
    have sa := sa0.step gg
    cases e2 : rv.parts with
    | none => rw [e2] at h; exact h.elim
    | some ss =>
      rw [e2] at h
      simp only at h
      by_cases hl : ss.length = tg.length
      · simp only [hl, if_true] at h
        obtain ⟨a, vs, B, rfl, hr, vo, hB⟩ := parts_ok (s.step gg) o (fun a ha => s.gr.hh.none (n a ha)) e2
        refine ⟨a, vs, rfl, hr, by rw [vo.len, hl], gNames_ok sa vo hl (fun b hb j hj => ((sa0.sl j).there b hj).1 (n b (hB b hb))) fun σ' A' s' _ _ _ => h σ' H1 F1 s'.sr⟩
      · simp only [hl, if_false] at h
        exact h.elim
/-! ### loops -/
theorem GoodS.rebase {K : Frag} {mg : Str → Option Value} {H0 F0 F1 : Hp} {W : WX} {D : Ends} (hf : Sub F0 F1) (hn : ∀ a, F1 a ≠ none → F0 a ≠ none ∨ H0 a = none) {r : SRes} (h : GoodS K mg H0 F0 W D r) : GoodS K mg H0 F1 W D r := by
  have G : ∀ {H' F' : Hp}, Gr H0 F1 H' F' → Gr H0 F0 H' F' := fun g => ⟨g.hh, hf.trans g.ff, fun a h => by
    rcases g.fn a h with z | z
    · exact hn a z
    · exact .inr z, g.fh'⟩
  have SS : ∀ {σ' : S} {H' F' : Hp} {ρ' : Rho}, SR K H0 F1 σ' H' F' ρ' → SR K H0 F0 σ' H' F' ρ' := fun s => ⟨s.len, G s.gr, s.sl⟩
  cases r with
  | next ρ' => exact fun σ' H' F' s => h σ' H' F' (SS s)
  | brk ρ' => exact fun σ' H' F' s => h σ' H' F' (SS s)
  | cont ρ' => exact fun σ' H' F' s => h σ' H' F' (SS s)
  | ret ow => exact fun v H' F' A g o n => h v H' F' A (G g) o n
  | err x ρ' => exact fun cls d σ' H' F' s xo => h cls d σ' H' F' (SS s) xo
  | stuck => exact h
theorem sok_for {body : List Stmt} (hp : PassesOwn (model X.prog X.w) X.A X.env X.xe) (hc : X.calm = true) (hi : IOk X tgE iter g tg ic) (hg : PG X tgE g) (hb : BOk X body b) (hs : ∀ x, foldedSetIterable iter X.env x = pure x := by intro _; rfl) :
    SOk X (.For tgE iter body [] pos) (sFor tg ic b) := fun W tk => ps_mono (ps_for hp hc (hi W tk) hg (hb W tk) hs) fun D σ H ⟨H0, F0, F, ρ, s, h⟩ => by
  refine ⟨H0, F0, F, ρ, s, ?_⟩
  unfold sFor at h
  cases e1 : ic ρ with
  | stuck => rw [e1] at h; exact h.elim
  | err x => rw [e1] at h; exact fun cls d H' F' gg xo => h cls d σ H' F' (s.step gg) xo
  | ok items =>
    rw [e1] at h
    simp only at h
    intro J H1 F1 gg it
    have s1 := s.step gg
    have h' := h.rebase (F1 := F1) s1.gr.ff s1.gr.fn
    have rb : SR X.K H0 F1 σ H1 F1 ρ := ⟨s1.len, ⟨s1.gr.hh, Sub.refl _, fun _ h => .inl h, s1.gr.fh'⟩, s1.sl⟩
    refine ⟨fun i m σ' H' => m = items.length - i ∧ i ≤ items.length ∧ ∃ F' ρ', SR X.K H0 F1 σ' H' F' ρ' ∧ GoodS X.K X.mg H0 F1 W D (forL tg b (items.drop i) ρ'), ⟨items.length, by simp, Nat.zero_le _, F1, ρ, rb, by simpa using h'⟩, ?_⟩
    rintro i m σ' H' ⟨rfl, hi', F', ρ', sr, q⟩
    by_cases hlt : i < items.length
    · have hs : items[i]? = some items[i] := List.getElem?_eq_getElem hlt
      have ed : items.drop i = items[i] :: items.drop (i + 1) := List.drop_eq_getElem_cons hlt
      rw [ed] at q
      obtain ⟨A, sra⟩ := sr.sra
      refine .inr ⟨it.go i H' F' sr.gr hlt, fun σ2 H2 => ∃ F' ρ', SR X.K H0 F1 σ2 H2 F' ρ' ∧ GoodS X.K X.mg H0 F1 W D (forL tg b (items.drop (i + 1)) ρ'), fun σ2 H2 z => ⟨items.length - (i + 1), by omega, rfl, by omega, z⟩, fun x H2 y => ?_⟩
      refine it.turn i _ A σ' H' F' ρ' x H2 _ hs sra y fun A3 σ3 H3 F3 s3 g3 _ _ _ => ⟨H0, F1, F3, _, s3.sr, ?_⟩
      unfold forL at q
      cases eb : b (setAll tg items[i] ρ') with
      | next ρ2 => rw [eb] at q; exact fun σ4 H4 F4 s4 => ⟨F4, ρ2, s4, q⟩
      | cont ρ2 => rw [eb] at q; exact fun σ4 H4 F4 s4 => ⟨F4, ρ2, s4, q⟩
      | brk ρ2 => rw [eb] at q; exact q
      | ret ow => rw [eb] at q; exact q
      | err x ρ2 => rw [eb] at q; exact q
      | stuck => rw [eb] at q; exact q.elim
    · have e : i = items.length := by omega
      subst e
      rw [List.drop_length] at q
      exact .inl ⟨it.stop H' F' sr.gr, q σ' H' F' sr⟩
theorem sok_while {body : List Stmt} (hp : PassesOwn (model X.prog X.w) X.A X.env X.xe) (ht : TOk X e tt) (hb : BOk X body b) : SOk X (.While e body [] pos) (sWhile tt b) := fun W tk => ps_mono (ps_while hp (ht W tk) (hb W tk)) fun D σ H ⟨H0, F0, F, ρ, s, h⟩ => by
  unfold sWhile at h
  refine ⟨fun m σ' H' => ∃ F' ρ', SR X.K H0 F0 σ' H' F' ρ' ∧ GoodS X.K X.mg H0 F0 W D (whileN tt b m ρ'), ⟨_, F, ρ, s, h⟩, ?_⟩
  rintro m σ' H' ⟨F', ρ', sr, q⟩
  cases m with
  | zero => exact q.elim
  | succ m =>
    unfold whileN at q
    show rdT X.K X.mg tt W σ' H' fun c H1 => if c = true then _ else _
    cases e1 : tt ρ' with
    | stuck => rw [e1] at q; exact q.elim
    | err x => rw [e1] at q; exact rdT_err sr e1 fun cls d H' F' g xo => q cls d _ H' F' (sr.step g) xo
    | ok c =>
      rw [e1] at q
      refine rdT_ok sr e1 fun H1 F1 gg => ?_
      cases c with
      | false =>
        simp only [Bool.false_eq_true, if_false]
        exact q σ' H1 F1 (sr.step gg)
      | true =>
        simp only [if_true]
        refine ⟨fun σ2 H2 => ∃ F' ρ', SR X.K H0 F0 σ2 H2 F' ρ' ∧ GoodS X.K X.mg H0 F0 W D (whileN tt b m ρ'), fun σ2 H2 z => ⟨m, Nat.lt_succ_self _, z⟩, ⟨H0, F0, F1, ρ', sr.step gg, ?_⟩⟩
        simp only at q
        cases eb : b ρ' with
        | next ρ2 => rw [eb] at q; exact fun σ4 H4 F4 s4 => ⟨F4, ρ2, s4, q⟩
        | cont ρ2 => rw [eb] at q; exact fun σ4 H4 F4 s4 => ⟨F4, ρ2, s4, q⟩
        | brk ρ2 => rw [eb] at q; exact q
        | ret ow => rw [eb] at q; exact q
        | err x ρ2 => rw [eb] at q; exact q
        | stuck => rw [eb] at q; exact q.elim
theorem sok_break : SOk X (.Break pos) (fun ρ => .brk ρ) := fun W tk => ps_mono ps_break fun D σ H ⟨H0, F0, F, ρ, s, h⟩ => h σ H F s
theorem sok_continue : SOk X (.Continue pos) (fun ρ => .cont ρ) := fun W tk => ps_mono ps_continue fun D σ H ⟨H0, F0, F, ρ, s, h⟩ => h σ H F s

/-! ### a list in a slot is changed -/
theorem ORs.setk {K : Frag} {H H1 F : Hp} {C : List Addr} : ∀ {ys : List Ow} {us : List V} {B : List Addr} {k : Nat} {y : Ow} {w : V}, ORs K H F us ys B → ys[k]? = some y → us[k]? = some w →
    ∃ Ak, OR K H F w y Ak ∧ (∀ b ∈ Ak, b ∈ B) ∧ ∀ (y' : Ow) (Ak' : List Addr), OR K H1 F w y' Ak' → (∀ b ∈ B, b ∉ Ak → H1 b = H b) → (∀ b ∈ Ak', b ∈ Ak ∨ b ∈ C) → (∀ b ∈ C, b ∉ B) → ∃ B', ORs K H1 F us (ys.set k y') B' ∧ ∀ b ∈ B', b ∈ B ∨ b ∈ C
  | [], _, _, _, _, _, .nil, e, _ => by simp at e
  | x :: xs, _, _, 0, y, w, @ORs.cons _ _ _ v _ vs _ A1 A2 h r n, e1, e2 => by
    simp at e1 e2
    subst e1; subst e2
    refine ⟨A1, h, fun b hb => List.mem_append_left _ hb, fun y' Ak' o hk hs hc => ⟨Ak' ++ A2, ?_, fun b hb => ?_⟩⟩
    · refine .cons o (r.keep (Sub.refl _) fun b hb => ⟨hk b (List.mem_append_right _ hb) fun z => n b z hb, (r.there b hb).2⟩) fun b hb hb2 => ?_
      rcases hs b hb with z | z
      · exact n b z hb2
      · exact hc b z (List.mem_append_right _ hb2)
    · rcases List.mem_append.mp hb with z | z
      · exact (hs b z).imp (fun q => List.mem_append_left _ q) id
      · exact .inl (List.mem_append_right _ z)
  | x :: xs, _, _, k + 1, y, w, @ORs.cons _ _ _ v _ vs _ A1 A2 h r n, e1, e2 => by
    obtain ⟨Ak, o, hA, kk⟩ := ORs.setk (H1 := H1) (C := C) (k := k) r (by simpa using e1) (by simpa using e2)
    refine ⟨Ak, o, fun b hb => List.mem_append_right _ (hA b hb), fun y' Ak' o' hk hs hc => ?_⟩
    obtain ⟨B', oB, hB⟩ := kk y' Ak' o' (fun b hb hn => hk b (List.mem_append_right _ hb) hn) hs fun b hb hb2 => hc b hb (List.mem_append_right _ hb2)
    refine ⟨A1 ++ B', ?_, fun b hb => ?_⟩
    · refine .cons (h.keep (Sub.refl _) fun b hb => ⟨hk b (List.mem_append_left _ hb) fun z => n b hb (hA b z), (h.there b hb).2⟩) oB fun b hb hb2 => ?_
      rcases hB b hb2 with z | z
      · exact n b hb z
      · exact hc b z (List.mem_append_left _ hb)
    · rcases List.mem_append.mp hb with z | z
      · exact .inl (List.mem_append_left _ z)
      · exact (hB b z).imp (fun q => List.mem_append_right _ q) id
/-- the tree along a path, and the list at its end exchanged -/
theorem put_ok {K : Frag} {H F : Hp} {a : Addr} {vs vs' : List V} {f : List Ow → List Ow} {C : List Addr} :
    ∀ {p : List Nat} {ow ow' : Ow} {v : V} {A : List Addr} {xs : List Ow}, OR K H F v ow A → At H v p (.ref a) → ow.at p = some (.ls xs) → H a = some (.lst vs) → ow.put p f = some ow' → (∀ b ∈ C, b ∉ A) →
      (∀ B, ORs K H F vs xs B → (∀ b ∈ B, b ∈ A) → a ∉ B → ∃ B', ORs K (upd H a (.lst vs')) F vs' (f xs) B' ∧ (∀ b ∈ B', b ∈ B ∨ b ∈ C) ∧ a ∉ B') →
      a ∈ A ∧ ∃ A', OR K (upd H a (.lst vs')) F v ow' A' ∧ ∀ b ∈ A', b ∈ A ∨ b ∈ C := by
  intro p
  induction p with
  | nil =>
    intro ow ow' v A xs o at_ eat ha e hC k
    have eow : ow = .ls xs := by cases ow <;> (simp only [Ow.at] at eat; cases eat; try rfl)
    subst eow
    simp only [Ow.put, Option.some.injEq] at e
    subst e
    obtain ⟨b, us, B, ev, eA, h1, h2, h3, h4⟩ := o.ls_inv
    have eab : b = a := by
      have : V.ref a = v := at_
      rw [ev] at this
      exact (V.ref.inj this).symm
    subst eab
    subst eA
    rw [ha] at h1
    cases h1
    obtain ⟨B', o', hB', na⟩ := k B h4 (fun c hc => List.mem_cons_of_mem _ hc) h3
    rw [ev]
    refine ⟨List.mem_cons_self, b :: B', OR.ls upd_same h2 na o', fun c hc => ?_⟩
    rcases List.mem_cons.mp hc with rfl | hc
    · exact .inl List.mem_cons_self
    · exact (hB' c hc).imp (fun z => List.mem_cons_of_mem _ z) id
  | cons q p ih =>
    intro ow ow' v A xs o at_ eat ha e hC k
    obtain ⟨b, us, w, ev, hb, hw, at2⟩ := at_
    subst ev
    cases ow with
    | fz d => simp [Ow.at] at eat
    | ls ys =>
      obtain ⟨b', us', B, ev, eA, h1, h2, h3, h4⟩ := o.ls_inv
      cases ev
      have eus : us' = us := by
        rcases hb with hb | hb
        · rw [hb] at h1; cases h1; rfl
        · rw [hb] at h1; cases h1
      subst eus
      subst eA
      simp only [Ow.at] at eat
      simp only [Ow.put] at e
      cases ey : ys[q]? with
      | none => rw [ey] at eat; cases eat
      | some y =>
        rw [ey] at eat e
        simp only at eat e
        cases ep : y.put p f with
        | none => rw [ep] at e; cases e
        | some y' =>
          rw [ep] at e
          cases e
          obtain ⟨Ak, oy, hAk, kk⟩ := h4.setk (H1 := upd H a (.lst vs')) (C := C) ey hw
          obtain ⟨haA, Ak', oy', hAk'⟩ := ih oy at2 eat ha ep (fun c hc hz => hC c hc (List.mem_cons_of_mem _ (hAk c hz))) fun B' oB hB' na => k B' oB (fun c hc => List.mem_cons_of_mem _ (hAk c (hB' c hc))) na
          obtain ⟨B', oB, hB'⟩ := kk y' Ak' oy' (fun c hc hn => upd_ne fun z => hn (z ▸ haA)) hAk' fun c hc hz => hC c hc (List.mem_cons_of_mem _ hz)
          have nab : b ≠ a := fun z => h3 (z ▸ hAk a haA)
          refine ⟨List.mem_cons_of_mem _ (hAk a haA), b :: B', OR.ls (by rw [upd_ne nab]; exact h1) h2 (fun z => ?_) oB, fun c hc => ?_⟩
          · rcases hB' b z with z | z
            · exact h3 z
            · exact hC b z List.mem_cons_self
          · rcases List.mem_cons.mp hc with rfl | hc
            · exact .inl List.mem_cons_self
            · exact (hB' c hc).imp (fun z => List.mem_cons_of_mem _ z) id
    | tp ys =>
      obtain ⟨b', us', B, ev, eA, h1, h2, h3, h4⟩ := o.tp_inv
      cases ev
      have eus : us' = us := by
        rcases hb with hb | hb
        · rw [hb] at h1; cases h1
        · rw [hb] at h1; cases h1; rfl
      subst eus
      subst eA
      simp only [Ow.at] at eat
      simp only [Ow.put] at e
      cases ey : ys[q]? with
      | none => rw [ey] at eat; cases eat
      | some y =>
        rw [ey] at eat e
        simp only at eat e
        cases ep : y.put p f with
        | none => rw [ep] at e; cases e
        | some y' =>
          rw [ep] at e
          cases e
          obtain ⟨Ak, oy, hAk, kk⟩ := h4.setk (H1 := upd H a (.lst vs')) (C := C) ey hw
          obtain ⟨haA, Ak', oy', hAk'⟩ := ih oy at2 eat ha ep (fun c hc hz => hC c hc (List.mem_cons_of_mem _ (hAk c hz))) fun B' oB hB' na => k B' oB (fun c hc => List.mem_cons_of_mem _ (hAk c (hB' c hc))) na
          obtain ⟨B', oB, hB'⟩ := kk y' Ak' oy' (fun c hc hn => upd_ne fun z => hn (z ▸ haA)) hAk' fun c hc hz => hC c hc (List.mem_cons_of_mem _ hz)
          have nab : b ≠ a := fun z => h3 (z ▸ hAk a haA)
          refine ⟨List.mem_cons_of_mem _ (hAk a haA), b :: B', OR.tp (by rw [upd_ne nab]; exact h1) h2 (fun z => ?_) oB, fun c hc => ?_⟩
          · rcases hB' b z with z | z
            · exact h3 z
            · exact hC b z List.mem_cons_self
          · rcases List.mem_cons.mp hc with rfl | hc
            · exact .inl List.mem_cons_self
            · exact (hB' c hc).imp (fun z => List.mem_cons_of_mem _ z) id
/-- the state behind a change of the list at i, p -/
theorem put_state {K : Frag} {H0 F0 H F : Hp} {σ : S} {ρ ρ' : Rho} {A : Nat → List Addr} {i : Nat} {p : List Nat} {v0 : V} {a : Addr} {xs : List Ow} {vs vs' : List V} {f : List Ow → List Ow} {C : List Addr} {ow0 : Ow}
    (s : SRA K H0 F0 A σ H F ρ) (e0 : σ[i]? = some (some v0)) (hat : At H v0 p (.ref a)) (eo : ρ[i]? = some (some (.own ow0))) (ea : ow0.at p = some (.ls xs)) (ha : H a = some (.lst vs)) (hp : putAt i p f ρ = .next ρ') (hC : ∀ c ∈ C, ∀ j, c ∉ A j) (hC0 : ∀ c ∈ C, H0 c = none)
    (k : ∀ B, ORs K H F vs xs B → (∀ b ∈ B, b ∈ A i) → a ∉ B → ∃ B', ORs K (upd H a (.lst vs')) F vs' (f xs) B' ∧ (∀ b ∈ B', b ∈ B ∨ b ∈ C) ∧ a ∉ B') : SR K H0 F0 σ (upd H a (.lst vs')) F ρ' := by
  unfold putAt at hp
  rw [eo] at hp
  simp only at hp
  cases ep : ow0.put p f with
  | none => rw [ep] at hp; cases hp
  | some ow' =>
    rw [ep] at hp
    cases hp
    have q := s.sl i
    rw [eo] at q
    obtain ⟨v, e1, o, oH⟩ := q
    rw [e0] at e1
    cases e1
    have hi : i < ρ.length := (List.getElem?_eq_some_iff.mp eo).1
    obtain ⟨haA, A', o', hA'⟩ := put_ok (C := C) o hat ea ha ep (fun c hc => hC c hc i) k
    have Fa : F a = none := (o.there a haA).2
    have H0a : H0 a = none := oH a haA
    have keep : ∀ {b : Addr}, b ≠ a → upd H a (.lst vs') b = H b := fun h => upd_ne h
    refine ⟨by simp [s.len], ⟨fun b u e => by rw [keep (ne_of_none e H0a)]; exact s.gr.hh b u e, s.gr.ff, s.gr.fn, fun b u e => by
      rw [keep (ne_of_none e Fa)]
      exact s.gr.fh' b u e⟩, fun j => if j = i then A' else A j, fun j => ?_, fun j l hjl b hb hb2 => ?_⟩
    · by_cases ej : j = i
      · subst ej
        simp only [if_true, List.getElem?_set_self hi]
        exact ⟨v0, e0, o', fun b hb => by
          rcases hA' b hb with z | z
          · exact oH b z
          · exact hC0 b z⟩
      · have qj := s.sl j
        simp only [ej, if_false, List.getElem?_set_ne (Ne.symm ej)]
        match oj : ρ[j]?, qj with
        | some (some (.own ow2)), ⟨v2, e2, q2, q3⟩ => exact ⟨v2, e2, q2.keep (Sub.refl _) fun b hb => ⟨keep fun z => s.ap j i ej b hb (z ▸ haA), (q2.there b hb).2⟩, q3⟩
        | some (some (.bor d)), q' => exact q'
        | some none, q' => exact q'
        | none, q' => exact q'
    · by_cases ej : j = i
      · have el : ¬ l = i := fun z => hjl (ej.trans z.symm)
        simp only [ej, el, if_true, if_false] at hb hb2
        rcases hA' b hb with z | z
        · exact s.ap i l (fun z => el z.symm) b z hb2
        · exact hC b z l hb2
      · by_cases el : l = i
        · simp only [ej, el, if_true, if_false] at hb hb2
          rcases hA' b hb2 with z | z
          · exact s.ap j i ej b hb z
          · exact hC b z j hb
        · simp only [ej, el, if_false] at hb hb2
          exact s.ap j l hjl b hb hb2
theorem putAt_next {i : Nat} {p : List Nat} {f : List Ow → List Ow} {ρ : Rho} : (∃ ρ', putAt i p f ρ = .next ρ') ∨ putAt i p f ρ = .stuck := by
  unfold putAt
  split
  · split
    · exact .inl ⟨_, rfl⟩
    · exact .inr rfl
  · exact .inr rfl
/-- o.append(e) -/
theorem app_rd {K : Frag} {mg : Str → Option Value} {W : WX} {D : Ends} {σ : S} {H : Hp} (h : rdS K mg (sApp co ce) W D σ H) :
    rdE K mg co W σ H fun x H1 => tyV K "list" x H1 ∧ rdE K mg ce W σ H1 fun y H2 => ∃ l xs, x = .ref l ∧ H2 l = some (.lst xs) ∧ xs.length < sizeLine ∧ D.nx σ (upd H2 l (.lst (xs ++ [y]))) := by
  obtain ⟨H0, F0, F, ρ, s, h⟩ := h
  unfold sApp at h
  cases e1 : co ρ with
  | stuck => rw [e1] at h; exact h.elim
  | err x => rw [e1] at h; exact rdE_err s e1 fun cls d H' F' g xo => h cls d σ H' F' (s.step g) xo
  | ok ro =>
    rw [e1] at h
    cases ro with
    | val _ => exact h.elim
    | bor _ => exact h.elim
    | ref i p ow =>
      cases ow with
      | fz _ => exact h.elim
      | tp _ => exact h.elim
      | ls ys =>
        simp only at h
        refine rdE_ok s e1 fun x H1 F1 A g1 o1 n1 => ?_
        have s1 := s.step g1
        obtain ⟨_, ⟨v0, e0, hat⟩, ⟨ow0, eo, ea⟩, B0, ob⟩ := id o1
        obtain ⟨l, vs0, Bl, ev, _, hl, _, _, orl⟩ := ob.ls_inv
        subst ev
        refine ⟨.inl ⟨rfl, _, .inl (.inl hl)⟩, ?_⟩
        cases e2 : ce ρ with
        | stuck => rw [e2] at h; exact h.elim
        | err z => rw [e2] at h; exact rdE_err s1 e2 fun cls d H' F' g xo => h cls d σ H' F' (s1.step g) xo
        | ok re =>
          rw [e2] at h
          cases re with
          | ref _ _ _ => exact h.elim
          | bor _ => exact h.elim
          | val oe =>
            simp only at h
            by_cases hc : ys.length < 16777216
            case neg => simp only [hc, if_false] at h; exact h.elim
            simp only [hc, if_true] at h
            refine rdE_ok s1 e2 fun y H2 F2 C g2 o2 n2 => ?_
            have hl2 : H2 l = some (.lst vs0) := g2.hh l _ hl
            refine ⟨l, vs0, rfl, hl2, by rw [orl.length, sizeLine_eq]; exact hc, ?_⟩
            rcases putAt_next (i := i) (p := p) (f := fun xs => xs ++ [oe]) (ρ := ρ) with ⟨ρ', hp⟩ | hp
            · rw [hp] at h
              obtain ⟨A0, sa0⟩ := s1.sra
              have sa := sa0.step g2
              have Cn : ∀ c ∈ C, ∀ j, c ∉ A0 j := fun c hc j hj => ((sa0.sl j).there c hj).1 (n2 c hc)
              refine h σ _ F2 (put_state (C := C) sa e0 (hat.gr g2.hh) eo ea hl2 hp Cn (fun c hc => s1.gr.hh.none (n2 c hc)) fun B oB hB na => ?_)
              have Cl : ∀ c ∈ C, c ≠ l := fun c hc z => by
                have := n2 c hc
                rw [z, hl] at this
                cases this
              have k1 : ORs K (upd H2 l (.lst (vs0 ++ [y]))) F2 vs0 ys B := oB.keep (Sub.refl _) fun c hc => ⟨upd_ne fun z => na (z ▸ hc), (oB.there c hc).2⟩
              have k2 : OR K (upd H2 l (.lst (vs0 ++ [y]))) F2 y oe C := OR.keep (Sub.refl _) o2 fun c hc => ⟨upd_ne (Cl c hc), (OR.there o2 c hc).2⟩
              refine ⟨B ++ (C ++ []), k1.append (.cons k2 .nil fun _ _ z => by cases z) fun c hc hc2 => ?_, fun c hc => ?_, fun hc => ?_⟩
              · exact Cn c (by simpa using hc2) i (hB c hc)
              · rcases List.mem_append.mp hc with z | z
                · exact .inl z
                · exact .inr (by simpa using z)
              · rcases List.mem_append.mp hc with z | z
                · exact na z
                · exact Cl l (by simpa using z) rfl
            · rw [hp] at h; exact h.elim
theorem sok_app {p1 cpos pos' : Pos} (ho : EOk X o co) (he : EOk X e ce) (hbase : attributeBase o "append" X.env (eval o X.env) = eval o X.env := by rfl)
    (hfew : ((backTo cpos (starEach [e] X.env)).all (fun x => !x.1) && (backToKw cpos (keywordEach [] X.env)).all (fun x => x.1.isSome)
      && decide (([e] : List Expr).length + ([] : List Keyword).length + (if ([] : List Keyword).isEmpty then 0 else 1) < 30)) = true := by rfl)
    (hline : (p1.endLine == cpos.line) = true := by rfl) (hs : starEach [e] X.env = (false, eval e X.env) :: starEach [] X.env := by rfl) (hplain : (backTo cpos (starEach [] X.env)).any (·.1) = false := by rfl)
    (hsw : swapsWith (.Call (.Attribute o "append" p1) [e] [] cpos) none pos'.line X.env = pure false := by rfl) :
    SOk X (.Expr (.Call (.Attribute o "append" p1) [e] [] cpos) pos') (sApp co ce) := fun W tk =>
  ps_mono (ps_expr (pe_bm PySem.F.plainAttrs_list PySem.F.slot_list_append PySem.F.type_list_append mt_append (ho W tk) (pa_cons (he W tk) pa_nil hs) hbase hfew hline hs hplain) hsw) fun D σ H h => by
    have q := app_rd h
    show rdE X.K X.mg co W σ H fun x H1 => tyV X.K "list" x H1 ∧ rdE X.K X.mg ce W σ H1 fun y H2 => rAppend x [y] H2 fun _ H3 => D.nx σ H3
    obtain ⟨H0, F0, F, ρ, s, q⟩ := q
    refine ⟨H0, F0, F, ρ, s, ?_⟩
    cases e1 : co ρ with
    | stuck => rw [e1] at q; exact q
    | err x => rw [e1] at q; exact q
    | ok rv =>
      rw [e1] at q
      intro v H' F' A g o n
      obtain ⟨h1, H0', F0', F'', ρ', s', h2⟩ := q v H' F' A g o n
      refine ⟨h1, H0', F0', F'', ρ', s', ?_⟩
      cases e2 : ce ρ' with
      | stuck => rw [e2] at h2; exact h2
      | err x => rw [e2] at h2; exact h2
      | ok rv2 =>
        rw [e2] at h2
        intro v2 H2 F2 A2 g2 o2 n2
        obtain ⟨l, xs, ex, h3, h4, h5⟩ := h2 v2 H2 F2 A2 g2 o2 n2
        exact ⟨l, xs, v2, ex, rfl, h3, h4, h5⟩
/-! ### a def -/
theorem start_get {N : List Str} {vs : List V} {i : Nat} : (L2.start N vs)[i]? = if i < vs.length then (vs[i]?).map some else if i < N.length then some none else none := by
  unfold L2.start
  by_cases h : i < vs.length
  · rw [if_pos h, List.getElem?_append_left (by simpa using h), List.getElem?_map]
  · rw [if_neg h, List.getElem?_append_right (by simpa using Nat.le_of_not_lt h), List.getElem?_replicate]
    simp only [List.length_map]
    by_cases h2 : i < N.length
    · rw [if_pos (by omega), if_pos h2]
    · rw [if_neg (by omega), if_neg h2]
end
theorem ArgOk.get {K : Frag} {H F : Hp} : ∀ {vs : List V} {as : List Sl} {i : Nat} {s : Sl}, Paired (ArgOk K H F) vs as → as[i]? = some s → ∃ v, vs[i]? = some v ∧ ArgOk K H F v s
  | _, _, _, _, .nil, e => by simp at e
  | _, _, 0, _, .cons h _, e => by simp at e; subst e; exact ⟨_, rfl, h⟩
  | _, _, i + 1, _, .cons _ r, e => by
    obtain ⟨v, h1, h2⟩ := ArgOk.get (i := i) r (by simpa using e)
    exact ⟨v, by simpa using h1, h2⟩
theorem fok_of {P : Program} {w : World} {K : Frag} {mg : Str → Option Value} {base : Heap} {x qual : Str} {st : Stmt} {f : Addr} {fd : FuncData} {N ps : List Str} {k : Nat} {b : SC} (F : Fun K x qual st f fd) (S : FnScope N ps (defScope st))
    (hb : ∀ (cdv : Value) (A : Around) (outer : List Env) (s : Shared) (H : Hp) (E : XK), Room k (A.deeper (envOfC qual (defScope st) s.heap.objs.size f cdv)) → BOk (cxOf (L2.CX P w) P w K mg base N qual (defScope st) f cdv A outer s H E) (defBody st) b) :
    FOk P w K mg base (k + 1) f fd ps (runBody b N.length) := by
  refine F.okX S (fun vs H Q E h => ?_) (fun cdv A outer s H vs Q E hr h => ?_)
  · obtain ⟨_, as, _, hl, hp, _⟩ := h
    rw [Paired.length hp, hl]
  · refine ⟨_, hb cdv A outer s H E hr (fun cls d _ H => E cls d H) (takes_of rfl rfl rfl rfl), ?_⟩
    obtain ⟨F0, as, hF, hl, hp, h⟩ := h
    have hpl : ps.length ≤ N.length := by have := congrArg List.length S.pre; rw [List.length_take] at this; omega
    have hvl := Paired.length hp
    refine ⟨H, F0, F0, as.map some ++ List.replicate (N.length - as.length) none, ⟨?_, Gr.refl hF, fun _ => [], fun i => ?_, fun _ _ _ _ z => by cases z⟩, ?_⟩
    · unfold L2.start
      simp only [List.length_append, List.length_map, List.length_replicate]
      omega
    · by_cases hi : i < as.length
      · rw [List.getElem?_append_left (by simpa using hi), List.getElem?_map, List.getElem?_eq_getElem hi]
        obtain ⟨v, hv, ho⟩ := ArgOk.get hp (List.getElem?_eq_getElem hi)
        have e0 : (L2.start N vs)[i]? = some (some v) := by rw [start_get, if_pos (by omega), hv]; rfl
        show SlOk K H H F0 (L2.start N vs) i [] (some (some as[i]))
        match as[i], ho with
        | .own (.fz d), ho => exact ⟨v, e0, OR.fz ho, fun _ z => by cases z⟩
        | .bor d, ho => exact ⟨rfl, v, e0, ho⟩
      · rw [List.getElem?_append_right (by simpa using Nat.le_of_not_lt hi), List.getElem?_replicate]
        split
        · rfl
        · rfl
    · unfold runBody at h
      cases e : b (as.map some ++ List.replicate (N.length - as.length) none) with
      | next ρ' => rw [e] at h; exact fun σ' H' F' s' => h .non H' F' [] s'.gr (OR.fz .non) fun _ z => by cases z
      | ret ow => rw [e] at h; exact h
      | brk _ => rw [e] at h; exact h.elim
      | cont _ => rw [e] at h; exact h.elim
      | err x ρ' => rw [e] at h; exact fun cls d σ' H' F' s' xo => h cls d H' F' s'.gr xo
      | stuck => rw [e] at h; exact h.elim
/-- the def's own wish lets loops run -/
theorem pass_def {P : Program} {w : World} {K : Frag} {mg : Str → Option Value} {base : Heap} {N : List Str} {qual : Str} {sc : Scope} {f : Addr} {cdv : Value} {A : Around} {outer : List Env} {s : Shared} {H : Hp} {E : XK} :
    PassesOwn (model P w) (A.deeper (envOfC qual sc s.heap.objs.size f cdv)) (envOfC qual sc s.heap.objs.size f cdv) (cxOf (L2.CX P w) P w K mg base N qual sc f cdv A outer s H E).xe := PassesOwn.leaving
end VL

set_option Elab.async false
set_option linter.all false
set_option maxRecDepth 100000
set_option maxHeartbeats 4000000
/-! VL10: enumerate of a list or a tuple. -/
namespace PySem
open Sem (wp)
open AutoSeq1 (wpAny_loadPart')
theorem vl_enumerate_new1 {v : Value} {o : Obj} {H : Heap → Prop} (B : Begins v o H) :
    Meets (Builtin.«enumerate.__new__» ⟨[.type "enumerate", v], []⟩) (fun _ R s => H s.heap ∧
      R (.ok (.ret (.ref (s.heap.push o).objs.size))) { s with heap := (s.heap.push o).push { cls := .type "enumerate", data := .fields #[.none, .bool false, .ref s.heap.objs.size, rawInt 0, .none, .none] } }) :=
  .of_wp fun prog w A R s h => by
    obtain ⟨hp, g, d, tk, os⟩ := s; obtain ⟨h1, h⟩ := h
    have hsub := sub_enumerate
    have q1 : ∀ {A' : Around} {E : Value → Shared → Prop} {Q : Value → Shared → Prop}, Q (.ref hp.objs.size) ⟨hp.push o, g, d, tk, os⟩ → wpAny (model prog w) A' (pyIter v) Q E ⟨hp, g, d, tk, os⟩ :=
      fun q => B.iter prog w _ _ ⟨hp, g, d, tk, os⟩ _ h1 q
    wp_walk using q1
    refine wpAny_stack_any fun st => wpAny_pure ?_
    split
    · rename_i c _ _ _ _ _
      cases (c == Value.type "enumerate")
      · wp_walk using q1
        exact ⟨_, rfl, h⟩
      · wp_walk using q1
        exact ⟨_, rfl, h⟩
    · wp_walk using q1
      exact ⟨_, rfl, h⟩
theorem vl_enum_begins {prog : Program} {w : World} {A : Around} {E : Value → Shared → Prop} {s : Shared} {v : Value} {o : Obj} {H : Heap → Prop} {Q : Value → Shared → Prop} (B : Begins v o H) (h1 : H s.heap)
    (h : ∀ h', IsEnum h' (s.heap.objs.size + 1) s.heap.objs.size 0 .none → h'.get? s.heap.objs.size = some o → h'.objs.size = s.heap.objs.size + 2 →
      (∀ b o, s.heap.get? b = some o → h'.get? b = some o) → Q (.ref (s.heap.objs.size + 1)) { s with heap := h' }) :
    wpAny (model prog w) A (call (.type "enumerate") [v]) Q E s := by
  refine callType_new F.called_enumerate (by decide) (F.typeCall_enumerate_1 _) (F.newCall_enumerate_1 _) (fun obj => F.args_object_init_2 obj _) F.entry_enumerate_new
    (vl_enumerate_new1 B) ⟨h1, ?_⟩
  have hz : (s.heap.push o).objs.size = s.heap.objs.size + 1 := Heap.size_push ..
  show _ ∧ _
  rw [hz]
  have he : IsEnum ((s.heap.push o).push { cls := .type "enumerate", data := .fields #[.none, .bool false, .ref s.heap.objs.size, rawInt 0, .none, .none] }) (s.heap.objs.size + 1) s.heap.objs.size 0 .none := by
    have := Heap.get?_push_size (s.heap.push o) (o := { cls := .type "enumerate", data := .fields #[.none, .bool false, .ref s.heap.objs.size, rawInt 0, .none, .none] }) rfl
    rw [hz] at this; exact this
  refine ⟨⟨_, he, rfl⟩, h _ he (Heap.get?_push_of_some _ (Heap.get?_push_size _ B.free)) (by rw [Heap.size_push, hz]) fun b o x => Heap.get?_push_of_some _ (Heap.get?_push_of_some _ x)⟩
end PySem
namespace VL
open PySem PySem.Spec PyProof.Rows L2
/-- the pairs of enumerate over the tuple at a -/
def IteT (K : Frag) (a : Addr) : It :=
  ⟨fun i H => ∃ (xs : List V) (x : V), SqT K H a xs ∧ xs[i]? = some x, fun i H v H' => ∃ T x, v = .ref T ∧ H T = none ∧ H' = upd H T (.tup [.int (i : Nat), x]) ∧ ∀ xs, SqT K H a xs → xs[i]? = some x, fun i H => ∃ xs : List V, SqT K H a xs ∧ xs.length ≤ i⟩
theorem turn_enumT {P : Program} {w : World} {K : Frag} {elts : List Expr} {kk : Nat} {tpos : Pos} (a e it : Addr) :
    Turn P w K (.Tuple elts kk tpos) (IteT K a) [e, it] e (fun i h => (∃ old, IsEnum h e it ((i : Nat) : Int) old) ∧ h.IsTupleIter it a i ∧ e ≠ it) where
  mem := by simp
  obj := fun i h st b hb => by
    obtain ⟨⟨old, he⟩, ⟨o, ho, hc, hd⟩, _⟩ := st
    have e' : b = e ∨ b = it := by simpa using hb
    rcases e' with z | z
    · rw [z]; exact ⟨_, he, fun v q => nomatch q⟩
    · rw [z]; exact ⟨o, ho, fun v q => by rw [hd] at q; cases q⟩
  keep := fun i h h' st k => let ⟨⟨old, he⟩, hi, hne⟩ := st; ⟨⟨old, k e (by simp) _ he⟩, hi.at fun o q => k it (by simp) o q, hne⟩
  item := by
    intro X hP hw hK hc i pins s σ H E I hf st hg
    subst hP hw hK
    obtain ⟨⟨old, he⟩, hit, hne⟩ := st
    obtain ⟨xs, x, hq, hx⟩ := hg
    obtain ⟨its, rv, p, hz⟩ := I.tuple hq
    obtain ⟨u, hu, ru⟩ := rv.get hx
    have hel : e < s.heap.objs.size := Heap.lt_size he
    have hil : it < s.heap.objs.size := by obtain ⟨_, q, _⟩ := hit; exact Heap.lt_size q
    have pt : s.heap.IsTuple a its.toArray := p
    have hai : a ≠ it := fun z => by
      obtain ⟨o1, q1, c1, _⟩ := hit
      obtain ⟨o2, q2, c2, _⟩ := pt
      rw [z, q1] at q2
      cases q2
      rw [c1] at c2
      injection c2 with z2
      exact absurd z2 (by decide)
    have hae : e ≠ a := fun z => by
      obtain ⟨o2, q2, c2, _⟩ := pt
      rw [← z, he] at q2
      cases q2
      injection (show Value.type "enumerate" = Value.type "tuple" from c2) with z2
      exact absurd z2 (by decide)
    have hlt : i < its.toArray.size := by
      have := (List.getElem?_eq_some_iff.mp hu).1
      simpa using this
    refine wpAny_pyNext_enum_itemC (Draws.tuple (prog := X.prog) (w := X.w) (A := X.A.in1) (by exact I.ok.hd hc) it a hai its.toArray) he ⟨hit, pt⟩ hlt hne (by simp [hne, hae]) fun y h' tk hy ho hit' hT hsz hk => ?_
    have ey : y = u := by
      have hy' : its[i]? = some y := by simpa using hy
      rw [hu] at hy'
      cases hy'; rfl
    subst ey
    refine ⟨_, rfl, wpAny_letOwnedTupleGo_enum (s := { s with heap := h', toks := tk + 1 }) ho fun h'' he' sb => ?_⟩
    have hT2 : h''.get? s.heap.objs.size = some { cls := .type "tuple", data := .seq #[.int i tk, y] } := (sb.2 _ (Nat.ne_of_gt hel)).trans hT
    have new : ObjOk X.prog X.w (upd H s.heap.objs.size (.tup [.int (i : Nat), x])) h'' s.heap.objs.size (.tup [.int (i : Nat), x]) :=
      ⟨by show 2 ≤ sizeLine; decide, [.int i tk, y], .cons ⟨_, rfl⟩ (.cons ru .nil), ⟨_, hT2, rfl, _, rfl⟩⟩
    have I1 : Inv X pins σ (upd H s.heap.objs.size (.tup [.int (i : Nat), x])) { s with heap := h'', toks := tk + 1 } :=
      I.turnedNew (ch := [e, it]) (fun b ob hb q => (sb.2 b (fun z => hb (by simp [z]))).trans (hk b ob (fun z => hb (by simp [z])) (fun z => hb (by simp [z])) q)) hf (Nat.le_refl _) new
    refine ⟨.ref s.heap.objs.size, _, I1, rfl, ⟨_, x, rfl, I.hok.fresh (Nat.le_refl _), rfl, fun ys hy => by rw [I.tuple_inj hy hq]; exact hx⟩, ⟨⟨y, ?_⟩, hit'.1.at fun o q => (sb.2 it (Ne.symm hne)).trans q, hne⟩, fun b hb => ?_⟩
    · have e1 : ((i + 1 : Nat) : Int) = (i : Int) + 1 := by omega
      rw [e1]; exact he'
    · have hb' : b < s.heap.objs.size := by
        have e' : b = e ∨ b = it := by simpa using hb
        rcases e' with z | z
        · rw [z]; exact hel
        · rw [z]; exact hil
      rw [upd_ne (Nat.ne_of_lt hb')]
      exact (hf b hb).1
  done := by
    intro X hP hw hK hc i pins s σ H E I hf st hg
    subst hP hw hK
    obtain ⟨⟨old, he⟩, hit, hne⟩ := st
    obtain ⟨xs, hq, hx⟩ := hg
    obtain ⟨its, rv, p, hz⟩ := I.tuple hq
    have pt : s.heap.IsTuple a its.toArray := p
    obtain ⟨f0, f1, f2, f3, f4, f5⟩ := hf it (by simp)
    have hl := rv.length
    have hai : a ≠ it := fun z => by
      obtain ⟨o1, q1, c1, _⟩ := hit
      obtain ⟨o2, q2, c2, _⟩ := pt
      rw [z, q1] at q2
      cases q2
      rw [c1] at c2
      injection c2 with z2
      exact absurd z2 (by decide)
    have hT : s.TypeIs (.ref e) "enumerate" := ⟨_, he, rfl⟩
    unfold pyNext
    refine wpAny_bind (wpAny_attempt (wpAny_callSpecial?_slot (name := Str.ofString "__next__") hT F.slot_enumerate_next
      (wpAny_call_entry F.slot_enumerate_next hT F.entry_enumerate_next ?_ (F.args_enumerate_next_1 _))))
    show wpAny _ _ (field (.ref e) 2 >>= _) _ _ _
    refine wpAny_bind (wpAny_field he rfl (x := .ref it) rfl ?_)
    refine wpAny_bind (wpAny_nextOf_tuple_end (by exact I.ok.hd hc) hit pt (by simp; omega) fun h' x he' hx' => ?_)
    obtain ⟨o, ho, hc'⟩ := hx'
    refine wpAny_bind (wpAny_isInstance (T := "StopIteration") (b := true) ⟨o, ho, hc'⟩ isSubtype_stop ?_)
    exact wpAny_pure ⟨rfl, I.turned (t' := s.toks) (fun b o hb q => he' b o hb q) f0 f1 f3 f4 f5⟩
  self := fun A i s Q E st h => let ⟨⟨_, he⟩, _⟩ := st; wpAny_pyIter_enum he h
def iEnumV (K : Frag) (tl : TE) : TI := fun σ H R => tl σ H fun x H1 => ∃ a, [x] = [V.ref a] ∧ ((∃ xs, SqL K H1 a xs ∧ R (Ite K a) H1) ∨ (∃ xs, SqT K H1 a xs ∧ R (IteT K a) H1))
theorem pi_enumV {X : Cx} {e : Expr} {te : TE} {p pos tpos : Pos} {elts : List Expr} {kk : Nat} (hg : Gl X "enumerate") (hm : X.mg "enumerate" = none) (he : PE X e te) (na : starEach [e] X.env = (false, eval e X.env) :: starEach [] X.env := by rfl) (hs : starEach [e] X.env = [(false, eval e X.env)] := by rfl) :
    PI X (.Tuple elts kk tpos) (.Call (.Name "enumerate" p) [e] [] pos) (iEnumV X.K te) := by
  refine ⟨fun pins s σ H R I h => ?_⟩
  have ha : PA X [e] (tCons te tNil) := pa_cons he pa_nil na
  refine Call_ (ld_blt I hg hm boot_enumerate (PyProof.Rows.callWith_type1 (thn (ha.run pos pins s σ H (fun vs H1 => ∃ a, vs = [V.ref a] ∧ ((∃ xs, SqL X.K H1 a xs ∧ R (Ite X.K a) H1) ∨ (∃ xs, SqT X.K H1 a xs ∧ R (IteT X.K a) H1))) I h) fun us s1 ⟨vs, H1, I1, r1, q1⟩ => ?_) hs rfl))
  obtain ⟨a, ex, q⟩ := q1
  subst ex
  cases r1 with
  | cons r rr =>
    cases rr
    cases r
    rcases q with ⟨xs, hq, q⟩ | ⟨xs, hq, q⟩
    · obtain ⟨its, rv, p', hz⟩ := I1.list hq
      refine call_enumerate_list p'.isList fun h' he hit hsz hk => wpAny_pyIter_enum he ?_
      have I2 : Inv X pins σ H1 { s1 with heap := h' } := I1.kept (t' := s1.toks) hk
      refine ⟨s1.heap.objs.size + 1, [s1.heap.objs.size + 1, s1.heap.objs.size], _, _, H1, rfl, I2, turn_enum a (s1.heap.objs.size + 1) s1.heap.objs.size, ⟨⟨.none, he⟩, hit, Nat.succ_ne_self _⟩, fun b hb => ?_, q⟩
      have e' : b = s1.heap.objs.size + 1 ∨ b = s1.heap.objs.size := by simpa using hb
      have hle : s1.heap.objs.size ≤ b := by
        rcases e' with z | z
        · rw [z]; exact Nat.le_add_right _ _
        · rw [z]; exact Nat.le_refl _
      exact I1.fpOk hle (I1.hok.fresh hle)
    · obtain ⟨its, rv, p', hz⟩ := I1.tuple hq
      refine vl_enum_begins (begins_tuple a its.toArray) (show s1.heap.IsTuple a its.toArray from p') fun h' he hit hsz hk => wpAny_pyIter_enum he ?_
      have I2 : Inv X pins σ H1 { s1 with heap := h' } := I1.kept (t' := s1.toks) hk
      refine ⟨s1.heap.objs.size + 1, [s1.heap.objs.size + 1, s1.heap.objs.size], _, _, H1, rfl, I2, turn_enumT a (s1.heap.objs.size + 1) s1.heap.objs.size, ⟨⟨.none, he⟩, ⟨_, hit, rfl, rfl⟩, Nat.succ_ne_self _⟩, fun b hb => ?_, q⟩
      have e' : b = s1.heap.objs.size + 1 ∨ b = s1.heap.objs.size := by simpa using hb
      have hle : s1.heap.objs.size ≤ b := by
        rcases e' with z | z
        · rw [z]; exact Nat.le_add_right _ _
        · rw [z]; exact Nat.le_refl _
      exact I1.fpOk hle (I1.hok.fresh hle)
theorem enumS_get : ∀ (ss : List Sl) (k i : Nat), (enumS k ss)[i]? = (ss[i]?).map fun s => [slOf (.int ((k + i : Nat) : Int)), s]
  | [], k, i => by simp [enumS]
  | s :: ss, k, 0 => by simp [enumS]
  | s :: ss, k, i + 1 => by
    simp only [enumS, List.getElem?_cons_succ]
    rw [enumS_get ss (k + 1) i]
    have : k + 1 + i = k + (i + 1) := by omega
    rw [this]
theorem enumS_len : ∀ (ss : List Sl) (k : Nat), (enumS k ss).length = ss.length
  | [], _ => rfl
  | _ :: ss, k => by simp [enumS, enumS_len ss (k + 1)]
theorem enum_iter {K : Frag} {H0 Fi : Hp} {a : Addr} {vs : List V} {l : Bool} {ss : List Sl} {i j : Nat} (h : Still K H0 Fi a vs l) (p : Paired (It1 K H0 Fi) vs ss) :
    IterOk K H0 Fi (if l = true then Ite K a else IteT K a) (gRow K 2 (gNames [i, j])) [i, j] (enumS 0 ss) := by
  have hlen := Paired.length p
  have key : ∀ (k : Nat) (s : List Sl) (A : Nat → List Addr) (σ : S) (H F : Hp) (ρ : Rho) (x : V) (T : Addr) (Q : S → Hp → Prop), (enumS 0 ss)[k]? = some s → SRA K H0 Fi A σ H F ρ → vs[k]? = some x → H T = none →
      (∀ A' σ' H2 F2, SRA K H0 Fi A' σ' H2 F2 (setAll [i, j] s ρ) → Gr H F H2 F2 → (∀ m, m ∉ [i, j] → σ'[m]? = σ[m]?) → (∀ m, ∀ a ∈ A' m, a ∈ A m) → σ'.length = σ.length → Q σ' H2) → gRow K 2 (gNames [i, j]) (.ref T) σ (upd H T (.tup [.int (k : Nat), x])) Q := by
    intro k s A σ H F ρ x T Q e sr hx hT kk
    rw [enumS_get] at e
    cases es : ss[k]? with
    | none => rw [es] at e; cases e
    | some t =>
      rw [es] at e
      cases e
      obtain ⟨y, hy, ht⟩ := Paired.get2 p es
      rw [hx] at hy
      cases hy
      have g := Gr.laid (o := .tup [.int (k : Nat), x]) sr.gr.fh' hT
      refine ⟨T, [.int (k : Nat), x], rfl, .inr (.of upd_same), rfl, ?_⟩
      have v1 : VOk K H0 (upd H T (.tup [.int (k : Nat), x])) F (.int (k : Nat)) [] (slOf (.int ((0 + k : Nat) : Int))) := by
        rw [Nat.zero_add]; exact ⟨OR.fz (.int _), fun _ z => by cases z⟩
      refine gNames_ok (sr.step g) (.cons (B := []) (C := []) v1 (.cons (B := []) (C := []) (ht.vok (H := _) sr.gr.ff) .nil fun _ z => by cases z) fun _ z => by cases z) rfl (fun _ z => by cases z) fun σ' A' s' e1 e2 e3 => kk A' σ' _ F s' g e1 (fun m b hb => ?_) e3
      rcases e2 m b hb with z | z
      · exact z
      · cases z
  cases l with
  | true =>
    simp only [if_true]
    refine ⟨fun k H F g hk => ?_, fun H F g => ?_, fun k s A σ H F ρ x H' Q e sr y kk => ?_⟩
    · have hk' : k < vs.length := by rw [hlen]; rw [enumS_len] at hk; exact hk
      exact ⟨vs, vs[k], h.lst g, List.getElem?_eq_getElem hk'⟩
    · exact ⟨vs, h.lst g, by rw [hlen, enumS_len]; exact Nat.le_refl _⟩
    · obtain ⟨T, z, e1, hT, e2, e3⟩ := y
      subst e1
      subst e2
      exact key k s A σ H F ρ z T Q e sr (e3 vs (h.lst sr.gr)) hT kk
  | false =>
    simp only [Bool.false_eq_true, if_false]
    refine ⟨fun k H F g hk => ?_, fun H F g => ?_, fun k s A σ H F ρ x H' Q e sr y kk => ?_⟩
    · have hk' : k < vs.length := by rw [hlen]; rw [enumS_len] at hk; exact hk
      exact ⟨vs, vs[k], h.tup g, List.getElem?_eq_getElem hk'⟩
    · exact ⟨vs, h.tup g, by rw [hlen, enumS_len]; exact Nat.le_refl _⟩
    · obtain ⟨T, z, e1, hT, e2, e3⟩ := y
      subst e1
      subst e2
      exact key k s A σ H F ρ z T Q e sr (e3 vs (h.tup sr.gr)) hT kk
theorem iok_enum {X : Cx} {e : Expr} {c : EC} {p pos tpos : Pos} {elts : List Expr} {kk i j : Nat} (hm : X.mg "enumerate" = none) (h : EOk X e c) (hg : Gl X "enumerate" := by rfl) (na : starEach [e] X.env = (false, eval e X.env) :: starEach [] X.env := by rfl) (hs : starEach [e] X.env = [(false, eval e X.env)] := by rfl) :
    IOk X (.Tuple elts kk tpos) (.Call (.Name "enumerate" p) [e] [] pos) (gRow X.K 2 (gNames [i, j])) [i, j] (iEnum c) := fun W tk => pi_mono (pi_enumV hg hm (h W tk) na hs) fun σ H R q => by
  obtain ⟨H0, F0, F, ρ, s, q⟩ := q
  show rdE X.K X.mg c W σ H fun x H1 => ∃ a, [x] = [V.ref a] ∧ ((∃ xs, SqL X.K H1 a xs ∧ R (Ite X.K a) H1) ∨ (∃ xs, SqT X.K H1 a xs ∧ R (IteT X.K a) H1))
  unfold iEnum at q
  cases e1 : c ρ with
  | stuck => rw [e1] at q; exact q.elim
  | err x => rw [e1] at q; exact rdE_err s e1 q
  | ok rv =>
    rw [e1] at q
    simp only [Res.bind] at q
    refine rdE_ok s e1 fun v H1 F1 A g o n => ?_
    cases e2 : rv.iter with
    | none => rw [e2] at q; exact q.elim
    | some ss =>
      rw [e2] at q
      simp only at q
      have s1 := s.step g
      obtain ⟨a, vs, F', lb, rfl, g2, st, p⟩ := iter_ok s1 o g n e2
      have it := enum_iter (i := i) (j := j) st p
      cases lb with
      | true =>
        simp only [if_true] at it
        exact ⟨a, rfl, .inl ⟨vs, st.lst ⟨s1.gr.hh, Sub.refl _, fun _ h => .inl h, g2.fh'⟩, q _ H1 F' g2 it⟩⟩
      | false =>
        simp only [Bool.false_eq_true, if_false] at it
        exact ⟨a, rfl, .inr ⟨vs, st.tup ⟨s1.gr.hh, Sub.refl _, fun _ h => .inl h, g2.fh'⟩, q _ H1 F' g2 it⟩⟩
end VL

set_option Elab.async false
set_option linter.all false
set_option maxRecDepth 100000
set_option maxHeartbeats 2000000
/-! VL11: short names for the generated walks; the end. -/
namespace VL
open PySem PySem.Spec PyProof.Rows L2
section
variable {X : Cx} {e : Expr}
theorem ev (i : Nat) {x : Str} {pos : Pos} (hN : X.N[i]? = some x := by rfl) (hv : Vis X.env.scope x := by first | exact Or.inl rfl | exact Or.inr (Or.inl rfl) | exact Or.inr (Or.inr rfl)) (hd : (x == ("__debug__" : Str)) = false := by decide)
    (hcd : (x == ("__classdict__" : Str)) = false := by decide) : EOk X (.Name x pos) (eVar i) := eok_var hN hv hd hcd
theorem eg {x : Str} (d : D) {u : Value} {pos : Pos} (hm : X.mg x = some u) (r : RelV (vOf d) u) (hd : scal d = true := by rfl) (hg : Gl X x := by rfl) (hdb : (x == ("__debug__" : Str)) = false := by decide) : EOk X (.Name x pos) (eK d) := eok_glob hd hm r hg hdb
theorem tn (i : Nat) {x : Str} {pos : Pos} (hnd : X.N.Nodup) (hN : X.N[i]? = some x := by rfl) (hx : Loc X.env.scope x := by first | exact Or.inl rfl | exact Or.inr rfl) (hf : X.fn x = true ∨ X.env.scope.names.lookup x = some .local := by first | exact .inl rfl | exact .inr rfl) : PG X (.Name x pos) (gName i) := pg_name hnd hN hx hf
theorem st (i : Nat) {x : Str} {pos p2 : Pos} {ce : EC} (hnd : X.N.Nodup) (h : EOk X e ce) (hN : X.N[i]? = some x := by rfl) (hx : Loc X.env.scope x := by first | exact Or.inl rfl | exact Or.inr rfl) (hs : swapsWith e (some (.Name x p2)) pos.line X.env = pure false := by rfl)
    (hf : X.fn x = true ∨ X.env.scope.names.lookup x = some .local := by first | exact .inl rfl | exact .inr rfl) : SOk X (.Assign [.Name x p2] e pos) (sSet i ce) := sok_set hnd hN hx h hs hf
structure Df (P : Program) (w : World) (K : Frag) (mg : Str → Option Value) (base : Heap) (k : Nat) (f : Addr) (fd : FuncData) (x : Str) (ps : List Str) (φ : Fn) : Prop where
  ok : FOk P w K mg base k f fd ps φ
  hm : mg x = some (.ref f)
  hk : PySem.W.keepIn K (.ref f) = true
  hb : Binds K fd ps []
theorem Df.call {k k' : Nat} {f : Addr} {fd : FuncData} {ps : List Str} {φ : Fn} {x : Str} {p pos : Pos} {e : Expr} {es : List Expr} {cs : List EC} (D : Df X.prog X.w X.K X.mg X.base k f fd x ps φ) (hr : Room k' X.A) (ha : AOk X (e :: es) cs) (hk : k ≤ k' := by decide) (hl : cs.length = ps.length := by rfl)
    (hg : Gl X x := by rfl) (hdb : (x == ("__debug__" : Str)) = false := by decide) (he : starEach (e :: es) X.env = (false, eval e X.env) :: starEach es X.env := by rfl) (hpl : (backTo pos (starEach es X.env)).any (·.1) = false := by rfl) :
    EOk X (.Call (.Name x p) (e :: es) [] pos) (eCall φ cs) := eok_call D.ok (hr.mono hk) D.hm D.hk D.hb hl ha hg hdb he hpl
theorem Df.mk' {P : Program} {w : World} {K : Frag} {mg : Str → Option Value} {base : Heap} {k : Nat} {f : Addr} {fd : FuncData} {x : Str} {ps : List Str} {φ : Fn} {qual : Str} {st : Stmt} (F : Fun K x qual st f fd) (hm : mg x = some (.ref f)) (hb : Binds K fd ps []) (ok : FOk P w K mg base k f fd ps φ) : Df P w K mg base k f fd x ps φ := ⟨ok, hm, F.kp, hb⟩
end
/-- the end: the law's def, called with the script -/
theorem rp_ints {K : Frag} {H : Hp} : ∀ (ns : List Int), RpAll K H (ns.map V.int) (ns.map PyData.int)
  | [] => .nil
  | i :: r => .cons (.int i) (rp_ints r)
theorem walk_ofV {l : PySem.W.OpenLaw} {k : Nat} {q : Program} {loose : List Str} {XP : (Str → Option Value) → Heap → Prop} {YP : World → Heap → Prop} {d : DefRec} {K : Params → Frag} {x : Str} {φ : Fn}
    (hn : l.most = some 63) (hdf : d.params.defaults = []) (hr : Room k callerA)
    (hY : ∀ (w : World) (h : Heap), YP w h → (K w.params).In h)
    (F : ∀ (w : World) (mg : Str → Option Value) (fa : Addr) (h : Heap), (K w.params).In h → h.Ns mainGlobals mg → mg d.name = some (.ref fa) →
      ∃ fd : FuncData, (∀ (s : Shared) (u : Value), BindsTo s fd ⟨[u], []⟩ [(x, u)]) ∧
        ∀ base : Heap, (K w.params).In base → base.Ns mainGlobals mg → FOk l.prog w (K w.params) mg base k fa fd [x] φ)
    (law : ∀ ns : List Int, ns.length ≤ 63 → φ [.own (.fz (.list (ns.map PyData.int)))] = .ok (.fz (.bool true))) :
    PySem.W.WalkO q loose XP YP l.row.toRowW d [] (fun f vs => PySem.call f vs) := by
  refine Att.attach_call hn hdf fun w s₀ s₁ mg mb fa o pm cd doc a vs ns G Y ho hd hcd hmg hobj hints hlen hg => ?_
  have KX := hY w _ Y
  obtain ⟨fd, hb, hF⟩ := F w mg fa _ KX G.T.g hmg
  refine law_call KX G.T.g G.T.b G.T.builtins G.T.nolimit hg hobj hints (Nat.le_trans hlen (by decide)) hr hF hb (fun H hO hS => ?_) fun H e s' ⟨_, _, _, _, _, _, _, _, _, _, _, _, hE⟩ => hE
  have lk : LK (K w.params) H a (ns.map V.int) := by
    rcases hS with h | ⟨o, its, n, hk, _, _, hs, hz, r⟩
    · exact .inl h
    · have e := KX _ _ hk
      rw [hobj] at e
      cases e
      cases hs
      exact .inr ⟨_, _, hk, hz, r⟩
  refine ⟨H, [.own (.fz (.list (ns.map PyData.int)))], Sub.refl _, rfl, .cons (.lst lk (rp_ints ns)) .nil, ?_⟩
  rw [law ns hlen]
  intro v H' F' A g o _
  have := (OR.fz_inv o).2
  cases this
  rfl
end VL

set_option Elab.async false
set_option linter.all false
set_option maxRecDepth 100000
set_option maxHeartbeats 2000000
/-! VL12: list(range(..)). -/
namespace VL
open PySem PySem.Spec PyProof.Rows L2
def rgB (a b : Int) : Bool := decide (-(2 ^ 62) ≤ a) && decide (a < 2 ^ 62) && decide (-(2 ^ 62) ≤ b) && decide (b < 2 ^ 62) && decide ((b - a).toNat ≤ 2 ^ 24)
def rgD (a b : Int) : List D := (List.range (b - a).toNat).map fun (i : Nat) => .int (a + (i : Nat))
def fLRng1 (x : RV) : Res RV := match x.d with
  | .int i => if rgB 0 i = true then .ok (.val (.ls ((rgD 0 i).map Ow.fz))) else .stuck
  | _ => .stuck
def fLRng2 (x y : RV) : Res RV := match x.d, y.d with
  | .int i, .int j => if rgB i j = true then .ok (.val (.ls ((rgD i j).map Ow.fz))) else .stuck
  | _, _ => .stuck
theorem rgB_ok {a b : Int} (h : rgB a b = true) : RgOk a b := by
  simp only [rgB, Bool.and_eq_true, decide_eq_true_eq] at h
  exact ⟨h.1.1.1.1, h.1.1.1.2, h.1.1.2, h.1.2, h.2⟩
theorem rp_rg {K : Frag} {H : Hp} (f : Nat → Int) : ∀ (l : List Nat), RpAll K H (l.map fun i => V.int (f i)) (l.map fun i => PyData.int (f i))
  | [] => .nil
  | i :: r => .cons (.int _) (rp_rg f r)
section
variable {X : Cx} {a b : Expr} {ca cb : EC} {pos p p2 : Pos}
def rLRg1 : V → Hp → VK → Prop := fun x H Q => ∃ n, x = .int n ∧ RgOk 0 n ∧ ∀ q, H q = none → Q (.ref q) (upd H q (.lst (rgV 0 n)))
def rLRg2 : R2 := fun x y H Q => ∃ i j, x = .int i ∧ y = .int j ∧ RgOk i j ∧ ∀ q, H q = none → Q (.ref q) (upd H q (.lst (rgV i j)))
theorem op1_lrng1 : Op1 X rLRg1 fLRng1 := by
  intro H0 F0 F H σ ρ x A rx Q s hx
  unfold fLRng1
  have pp := hx.dp s
  cases ed : rx.d with
  | int i =>
    rw [ed] at pp
    obtain rfl := rp_int pp
    by_cases hc : rgB 0 i = true
    · simp only [hc, if_true]
      intro k
      refine ⟨i, rfl, rgB_ok hc, fun q hq => ?_⟩
      have o : ORs X.K H F (rgV 0 i) ((rgD 0 i).map Ow.fz) [] := ORs.ofDp (rp_rg (fun k => 0 + (k : Nat)) _)
      obtain ⟨g, oo⟩ := fin_ls s o hq
      refine k _ _ _ _ g oo fun c hc => ?_
      rcases List.mem_cons.mp hc with rfl | hc
      · exact .inr hq
      · cases hc
    · simp only [hc]
      trivial
  | _ => trivial
theorem op2_lrng2 : Op2 X rLRg2 fLRng2 := by
  intro H0 F0 F H σ ρ x y A B rx ry Q s hx hy dis
  unfold fLRng2
  have px := hx.dp s
  have py := hy.dp s
  cases ex : rx.d with
  | int i =>
    cases ey : ry.d with
    | int j =>
      rw [ex] at px; rw [ey] at py
      obtain rfl := rp_int px
      obtain rfl := rp_int py
      by_cases hc : rgB i j = true
      · simp only [hc, if_true]
        intro k
        refine ⟨i, j, rfl, rfl, rgB_ok hc, fun q hq => ?_⟩
        have o : ORs X.K H F (rgV i j) ((rgD i j).map Ow.fz) [] := ORs.ofDp (rp_rg (fun k => i + (k : Nat)) _)
        obtain ⟨g, oo⟩ := fin_ls s o hq
        refine k _ _ _ _ g oo fun c hc => ?_
        rcases List.mem_cons.mp hc with rfl | hc
        · exact .inr (.inr hq)
        · cases hc
      · simp only [hc]
        trivial
    | _ => trivial
  | _ => trivial
theorem eok_lrng1 {p3 pos3 : Pos} (hl : X.mg "list" = none) (hr : X.mg "range" = none) (ha : EOk X a ca) (hc : X.calm = true := by rfl) (hg : Gl X "list" := by rfl) (hg2 : Gl X "range" := by rfl) (na : starEach [a] X.env = (false, eval a X.env) :: starEach [] X.env := by rfl)
    (ne : starEach [(.Call (.Name "range" p2) [a] [] pos : Expr)] X.env = (false, eval (.Call (.Name "range" p2) [a] [] pos) X.env) :: starEach [] X.env := by rfl) :
    EOk X (.Call (.Name "list" p3) [.Call (.Name "range" p2) [a] [] pos] [] pos3) (eUn fLRng1 ca) :=
  eok_un (R := rLRg1) (fun ta h => pe_listRg hc hg hl (prg_1 hg2 hr h na) ne) op1_lrng1 ha
theorem eok_lrng2 {p3 pos3 : Pos} (hl : X.mg "list" = none) (hr : X.mg "range" = none) (ha : EOk X a ca) (hb : EOk X b cb) (hc : X.calm = true := by rfl) (hg : Gl X "list" := by rfl) (hg2 : Gl X "range" := by rfl) (na : starEach [a, b] X.env = (false, eval a X.env) :: starEach [b] X.env := by rfl)
    (nb : starEach [b] X.env = (false, eval b X.env) :: starEach [] X.env := by rfl) (hp : (backTo pos (starEach [b] X.env)).any (·.1) = false := by rfl)
    (ne : starEach [(.Call (.Name "range" p2) [a, b] [] pos : Expr)] X.env = (false, eval (.Call (.Name "range" p2) [a, b] [] pos) X.env) :: starEach [] X.env := by rfl) :
    EOk X (.Call (.Name "list" p3) [.Call (.Name "range" p2) [a, b] [] pos] [] pos3) (eBin fLRng2 ca cb) :=
  eok_bin (R := rLRg2) (fun ta tb h h' => pe_listRg hc hg hl (prg_2 hg2 hr h h' na nb hp) ne) op2_lrng2 ha hb
end
end VL

set_option Elab.async false
set_option linter.all false
set_option maxRecDepth 100000
set_option maxHeartbeats 2000000
/-! VL13: plain lemmas about the combinators. -/
namespace VL
open PySem PySem.Spec PyProof.Rows L2
theorem forL_ix {tg : List Nat} {b : SC} {I : Nat → Rho → Prop} : ∀ (vs : List (List Sl)) (k0 : Nat) (ρ : Rho), I k0 ρ →
    (∀ k v ρ, vs[k]? = some v → I (k0 + k) ρ → ∃ ρ', (b (setAll tg v ρ) = .next ρ' ∨ b (setAll tg v ρ) = .cont ρ') ∧ I (k0 + k + 1) ρ') →
    ∃ ρ', forL tg b vs ρ = .next ρ' ∧ I (k0 + vs.length) ρ'
  | [], k0, ρ, h, _ => ⟨ρ, rfl, h⟩
  | v :: vs, k0, ρ, h, st => by
    obtain ⟨ρ1, e, h1⟩ := st 0 v ρ rfl h
    obtain ⟨ρ2, e2, h2⟩ := forL_ix vs (k0 + 1) ρ1 h1 fun k w ρ hw hI => by
      have := st (k + 1) w ρ (by simpa using hw) (by rw [show k0 + (k + 1) = k0 + 1 + k by omega]; exact hI)
      rw [show k0 + (k + 1) + 1 = k0 + 1 + k + 1 by omega] at this
      exact this
    refine ⟨ρ2, ?_, by rw [List.length_cons, show k0 + (vs.length + 1) = k0 + 1 + vs.length by omega]; exact h2⟩
    unfold forL
    rcases e with e | e <;> rw [e] <;> exact e2
/-- .. from the start -/
theorem forL_n {tg : List Nat} {b : SC} (I : Nat → Rho → Prop) {vs : List (List Sl)} {ρ : Rho} (h : I 0 ρ)
    (st : ∀ k v ρ, vs[k]? = some v → I k ρ → ∃ ρ', (b (setAll tg v ρ) = .next ρ' ∨ b (setAll tg v ρ) = .cont ρ') ∧ I (k + 1) ρ') : ∃ ρ', forL tg b vs ρ = .next ρ' ∧ I vs.length ρ' := by
  have := forL_ix (I := I) vs 0 ρ h fun k v ρ hv hI => by
    simp only [Nat.zero_add] at hI ⊢
    exact st k v ρ hv hI
  simpa using this
theorem compL_filter {tg : List Nat} {t : TC} {e : EC} {ρ : Rho} (p : List Sl → Bool) (f : List Sl → Ow) : ∀ vs : List (List Sl), (∀ v ∈ vs, t (setAll tg v ρ) = .ok (p v) ∧ (p v = true → e (setAll tg v ρ) = .ok (.val (f v)))) →
    compL tg t e vs ρ = .ok ((vs.filter p).map f)
  | [], _ => rfl
  | v :: vs, h => by
    have ih := compL_filter p f vs fun w hw => h w (List.mem_cons_of_mem _ hw)
    obtain ⟨h1, h2⟩ := h v List.mem_cons_self
    unfold compL
    rw [h1]
    cases hp : p v with
    | true =>
      rw [h2 hp]
      show (compL tg t e vs ρ).bind _ = _
      rw [ih, List.filter_cons_of_pos hp]
      rfl
    | false =>
      show compL tg t e vs ρ = _
      rw [ih, List.filter_cons_of_neg (by simp [hp])]
theorem compL_map {tg : List Nat} {t : TC} {e : EC} {ρ : Rho} (f : List Sl → Ow) (vs : List (List Sl)) (h : ∀ v ∈ vs, t (setAll tg v ρ) = .ok true ∧ e (setAll tg v ρ) = .ok (.val (f v))) :
    compL tg t e vs ρ = .ok (vs.map f) := by
  have := compL_filter (t := t) (e := e) (ρ := ρ) (tg := tg) (fun _ => true) f vs fun v hv => ⟨(h v hv).1, fun _ => (h v hv).2⟩
  rw [this, List.filter_eq_self.mpr (fun _ _ => rfl)]
theorem whileN_mono {t : TC} {b : SC} : ∀ (n m : Nat) (ρ : Rho), whileN t b n ρ ≠ .stuck → n ≤ m → whileN t b m ρ = whileN t b n ρ
  | 0, _, _, h, _ => absurd rfl h
  | n + 1, 0, _, _, h => by omega
  | n + 1, m + 1, ρ, h, hm => by
    unfold whileN at h ⊢
    cases e : t ρ with
    | stuck => rfl
    | err x => rfl
    | ok c =>
      rw [e] at h
      cases c with
      | false => rfl
      | true =>
        simp only at h ⊢
        cases e2 : b ρ with
        | next ρ' => rw [e2] at h; exact whileN_mono n m ρ' h (by omega)
        | cont ρ' => rw [e2] at h; exact whileN_mono n m ρ' h (by omega)
        | _ => rfl
theorem sWhile_of {t : TC} {b : SC} {n : Nat} {ρ ρ' : Rho} (h : whileN t b n ρ = .next ρ') (hn : n ≤ fuel) : sWhile t b ρ = .next ρ' := by
  unfold sWhile
  rw [whileN_mono n fuel ρ (by rw [h]; simp) hn, h]
/-! rows of ints -/
def oI (ns : List Int) : List Ow := ns.map fun n => .fz (.int n)
def dI (ns : List Int) : List D := ns.map .int
theorem oI_fz (ns : List Int) : (dI ns).map Ow.fz = oI ns := by unfold oI dI; rw [List.map_map]; rfl
theorem toDs_oI (ns : List Int) : toDs (oI ns) = dI ns := by rw [← oI_fz, toDs_fz]
theorem oI_all (ns : List Int) : (oI ns).all isFz = true := by
  rw [List.all_eq_true]; intro x hx
  obtain ⟨n, _, rfl⟩ := List.mem_map.mp hx
  rfl
theorem dI_scal (ns : List Int) : (dI ns).all scal = true := by
  rw [List.all_eq_true]; intro x hx
  obtain ⟨n, _, rfl⟩ := List.mem_map.mp hx
  rfl
theorem oI_app (ns : List Int) (n : Int) : oI ns ++ [Ow.fz (.int n)] = oI (ns ++ [n]) := by unfold oI; rw [List.map_append]; rfl
theorem oI_get (ns : List Int) (k : Nat) : (oI ns)[k]? = (ns[k]?).map fun n => .fz (.int n) := by unfold oI; rw [List.getElem?_map]
theorem dI_get (ns : List Int) (k : Nat) : (dI ns)[k]? = (ns[k]?).map PyData.int := by unfold dI; rw [List.getElem?_map]
theorem oI_len (ns : List Int) : (oI ns).length = ns.length := by unfold oI; rw [List.length_map]
theorem dI_len (ns : List Int) : (dI ns).length = ns.length := by unfold dI; rw [List.length_map]
theorem intsOf_dI : ∀ ns : List Int, intsOf (dI ns) = some ns
  | [] => rfl
  | n :: r => by
    show (match intsOf (dI r) with | some is => some (n :: is) | none => none) = _
    rw [intsOf_dI r]
theorem eqF_int (a b : Int) : eqF (.int a) (.int b) = decide (a = b) := by
  show (a == b) = _
  by_cases h : a = b <;> simp [h]
theorem any_dI (ns : List Int) (x : Int) : ((dI ns).any fun d => eqF d (.int x)) = decide (x ∈ ns) := by
  induction ns with
  | nil => simp [dI]
  | cons n r ih =>
    show (eqF (.int n) (.int x) || (dI r).any _) = _
    rw [ih, eqF_int]
    by_cases h : n = x
    · simp [h]
    · have h' : ¬ x = n := fun e => h e.symm
      simp [h, h']
theorem fIn_dI {y : RV} {ns : List Int} (x : Int) (h : rowOf y.d = some (dI ns)) : fIn (.val (.fz (.int x))) y = .ok (.val (.fz (.bool (decide (x ∈ ns))))) := by
  unfold fIn
  rw [h]
  simp only [RV.d, Ow.toD, scal, dI_scal, and_self, if_true, any_dI, rD]
theorem fNotIn_dI {y : RV} {ns : List Int} (x : Int) (h : rowOf y.d = some (dI ns)) : fNotIn (.val (.fz (.int x))) y = .ok (.val (.fz (.bool (!decide (x ∈ ns))))) := by
  unfold fNotIn
  rw [h]
  simp only [RV.d, Ow.toD, scal, dI_scal, and_self, if_true, any_dI, rD]
theorem atI_nat {α : Type} (xs : List α) {k : Int} (h0 : 0 ≤ k) (h1 : k < xs.length) : atI xs k = xs[k.toNat]? := by
  unfold atI ixN
  rw [if_pos h0, if_pos h1]
  rfl
theorem fIx_row {d e : D} {ds : List D} {k : Int} (h : rowOf d = some ds) (h0 : 0 ≤ k) (h1 : ds[k.toNat]? = some e) : fIx (.val (.fz d)) (.val (.fz (.int k))) = .ok (.val (.fz e)) := by
  have hl : k < ds.length := by
    have := (List.getElem?_eq_some_iff.mp h1).1
    omega
  unfold fIx
  cases d with
  | list es => cases h; simp only [RV.d, Ow.toD, atI_nat _ h0 hl, h1, rD]
  | tuple es => cases h; simp only [RV.d, Ow.toD, atI_nat _ h0 hl, h1, rD]
  | _ => cases h
theorem fIx_oI {i : Nat} {ns : List Int} {k e : Int} (h0 : 0 ≤ k) (h1 : ns[k.toNat]? = some e) : fIx (.ref i [] (.ls (oI ns))) (.val (.fz (.int k))) = .ok (.val (.fz (.int e))) := by
  have hl : k < (oI ns).length := by
    have := (List.getElem?_eq_some_iff.mp h1).1
    rw [oI_len]; omega
  unfold fIx
  simp only [RV.d, Ow.toD, ixN, if_pos h0, if_pos hl, oI_get, h1, Option.map_some]
  rfl
/-! what may be compared -/
theorem shaped_int (i : Int) : SeqAt.shaped (.int i) = true := rfl
theorem shaped_none : SeqAt.shaped .none = true := rfl
theorem shaped_bool (b : Bool) : SeqAt.shaped (.bool b) = true := rfl
theorem fEq_int (i j : Int) : fEq (.val (.fz (.int i))) (.val (.fz (.int j))) = .ok (.val (.fz (.bool (decide (i = j))))) := by
  unfold fEq
  simp only [RV.d, Ow.toD, shaped_int, and_self, if_true, rD, PyData.eqv]
  by_cases h : i = j <;> simp [h]
theorem fNe_int (i j : Int) : fNe (.val (.fz (.int i))) (.val (.fz (.int j))) = .ok (.val (.fz (.bool (!decide (i = j))))) := by
  unfold fNe
  simp only [RV.d, Ow.toD, shaped_int, and_self, if_true, rD, PyData.eqv]
  by_cases h : i = j <;> simp [h]
/-- trees of ints, at most n rows deep -/
def flat : Nat → D → Bool
  | _, .int _ => true
  | _, .none => true
  | n + 1, .list ds => ds.all (flat n)
  | n + 1, .tuple ds => ds.all (flat n)
  | _, _ => false
theorem flat_lay : ∀ (n : Nat) (d : D), flat n d = true → d.canLay0 = true ∧ d.depth ≤ n := by
  intro n
  induction n with
  | zero => intro d h; cases d <;> first | exact ⟨rfl, Nat.le_refl _⟩ | cases h
  | succ n ih =>
    have all : ∀ ds : List D, ds.all (flat n) = true → PyData.canLayAll0 ds = true ∧ PyData.depthAll ds ≤ n := by
      intro ds
      induction ds with
      | nil => intro _; exact ⟨rfl, Nat.zero_le _⟩
      | cons d ds ihd =>
        intro h
        simp only [List.all_cons, Bool.and_eq_true] at h
        obtain ⟨a1, a2⟩ := ih d h.1
        obtain ⟨b1, b2⟩ := ihd h.2
        exact ⟨by simp only [PyData.canLayAll0, a1, b1, Bool.and_self], by simp only [PyData.depthAll]; omega⟩
    intro d h
    cases d with
    | int i => exact ⟨rfl, Nat.zero_le _⟩
    | none => exact ⟨rfl, Nat.zero_le _⟩
    | list ds =>
      obtain ⟨a, b⟩ := all ds h
      exact ⟨by simp only [PyData.canLay0, a], by simp only [PyData.depth]; omega⟩
    | tuple ds =>
      obtain ⟨a, b⟩ := all ds h
      exact ⟨by simp only [PyData.canLay0, a], by simp only [PyData.depth]; omega⟩
    | _ => cases h
theorem flat_shaped {n : Nat} {d : D} (h : flat n d = true) (hn : n ≤ 64) : SeqAt.shaped d = true := by
  obtain ⟨a, b⟩ := flat_lay n d h
  unfold SeqAt.shaped
  simp only [a, Bool.true_and, decide_eq_true_eq]
  omega
theorem flat_dI (n : Nat) (ns : List Int) : flat (n + 1) (.list (dI ns)) = true := by
  show (dI ns).all (flat n) = true
  rw [List.all_eq_true]; intro x hx
  obtain ⟨i, _, rfl⟩ := List.mem_map.mp hx
  cases n <;> rfl
/-- a tree is itself -/
theorem fNe_same {n : Nat} {x y : RV} (e : x.d = y.d) (h : flat n y.d = true) (hn : n ≤ 64 := by decide) : fNe x y = .ok (.val (.fz (.bool false))) := by
  unfold fNe
  rw [e]
  have := flat_shaped h hn
  rw [if_pos ⟨this, this⟩, PySem.SeqAt.eqv_refl _ (flat_lay n _ h).1]
  rfl
end VL

set_option Elab.async false
set_option linter.all false
set_option maxRecDepth 100000
set_option maxHeartbeats 2000000
/-! VL14: steps of the plain reading. -/
namespace VL
open PySem
theorem run_ret {b : SC} {n : Nat} {as : List Sl} {ow : Ow} (ρ : Rho) (h : b ρ = .ret ow) (hρ : as.map some ++ List.replicate (n - as.length) none = ρ := by rfl) : runBody b n as = .ok ow := by
  unfold runBody
  rw [hρ, h]
theorem seq_n {a b : SC} {ρ ρ' : Rho} {r : SRes} (h : a ρ = .next ρ') (k : b ρ' = r) : sSeq a b ρ = r := by
  unfold sSeq; rw [h]; exact k
theorem seq_r {a b : SC} {ρ : Rho} {ow : Ow} (h : a ρ = .ret ow) : sSeq a b ρ = .ret ow := by
  unfold sSeq; rw [h]
theorem for_n {tg : List Nat} {it : IC} {b : SC} {vs : List (List Sl)} {ρ ρ' : Rho} (h : it ρ = .ok vs) (k : forL tg b vs ρ = .next ρ') : sFor tg it b ρ = .next ρ' := by
  unfold sFor; rw [h]; exact k
theorem for_r {tg : List Nat} {it : IC} {b : SC} {vs : List (List Sl)} {ρ : Rho} {r : SRes} (h : it ρ = .ok vs) (k : forL tg b vs ρ = r) : sFor tg it b ρ = r := by
  unfold sFor; rw [h]; exact k
theorem set_v {i : Nat} {a : EC} {ρ : Rho} {ow : Ow} (h : a ρ = .ok (.val ow)) : sSet i a ρ = .next (ρ.set i (some (.own ow))) := by
  unfold sSet; rw [h]
theorem ret_v {a : EC} {ρ : Rho} {ow : Ow} (h : a ρ = .ok (.val ow)) : sRet a ρ = .ret ow := by
  unfold sRet; rw [h]
theorem if_t {t : TC} {a b : SC} {ρ : Rho} {r : SRes} (h : t ρ = .ok true) (k : a ρ = r) : sIf t a b ρ = r := by
  unfold sIf; rw [h]; exact k
theorem if_f {t : TC} {a b : SC} {ρ : Rho} {r : SRes} (h : t ρ = .ok false) (k : b ρ = r) : sIf t a b ρ = r := by
  unfold sIf; rw [h]; exact k
theorem frz_n {i : Nat} {a : SC} {ρ : Rho} {r : SRes} (h : a (ρ.set i (frzSl ρ[i]?)) = r) : sFrz i a ρ = r := h
theorem call_ok {φ : Fn} {cs : List EC} {ρ : Rho} {xs : List RV} {ow : Ow} (h : VL.evalAll cs ρ = .ok xs) (k : φ (xs.map RV.arg) = .ok ow) : eCall φ cs ρ = .ok (.val ow) := by
  unfold eCall
  rw [h]
  show (φ (xs.map RV.arg)).bind _ = _
  rw [k]; rfl
theorem comp_v {tg : List Nat} {it : IC} {t : TC} {e : EC} {ρ : Rho} {vs : List (List Sl)} {os : List Ow} (h : it ρ = .ok vs) (hl : vs.length ≤ 16777216) (k : compL tg t e vs (wipeR tg ρ) = .ok os) : eComp tg it t e ρ = .ok (.val (.ls os)) := by
  unfold eComp
  rw [h]
  show (if vs.length ≤ 16777216 then _ else _) = _
  rw [if_pos hl, k]
theorem un_v {f : RV → Res RV} {a : EC} {ρ : Rho} {x : RV} {r : Res RV} (h : a ρ = .ok x) (k : f x = r) : eUn f a ρ = r := by
  unfold eUn; rw [h]; exact k
theorem bin_v {f : RV → RV → Res RV} {a b : EC} {ρ : Rho} {x y : RV} {r : Res RV} (h : a ρ = .ok x) (h' : b ρ = .ok y) (k : f x y = r) : eBin f a b ρ = r := by
  unfold eBin; rw [h]; show (b ρ).bind _ = _; rw [h']; exact k
theorem fIx_oI' {i : Nat} {ns : List Int} {k : Nat} {e : Int} (h1 : ns[k]? = some e) : fIx (.ref i [] (.ls (oI ns))) (.val (.fz (.int k))) = .ok (.val (.fz (.int e))) := fIx_oI (by omega) (by simpa using h1)
theorem fIx_row' {d e : D} {ds : List D} {k : Nat} (h : rowOf d = some ds) (h1 : ds[k]? = some e) : fIx (.val (.fz d)) (.val (.fz (.int k))) = .ok (.val (.fz e)) := fIx_row h (by omega) (by simpa using h1)
/-- whole numbers in a range -/
theorem rangeS_get {lo hi : Int} {k : Nat} {v : List Sl} (h : (rangeS lo hi)[k]? = some v) : v = [slOf (.int (lo + k))] ∧ k < (hi - lo).toNat := by
  unfold rangeS at h
  rw [List.getElem?_map] at h
  by_cases hk : k < (hi - lo).toNat
  · rw [List.getElem?_range hk] at h
    simp at h
    exact ⟨h.symm, hk⟩
  · rw [List.getElem?_eq_none (by simpa using hk)] at h
    cases h
theorem rangeS_len (lo hi : Int) : (rangeS lo hi).length = (hi - lo).toNat := by unfold rangeS; rw [List.length_map, List.length_range]
theorem row_get {ds : List D} {k : Nat} {v : List Sl} (h : ((ds.map slOf).map fun s => [s])[k]? = some v) : ∃ d, ds[k]? = some d ∧ v = [.own (.fz d)] := by
  rw [List.getElem?_map, List.getElem?_map] at h
  cases e : ds[k]? with
  | none => rw [e] at h; cases h
  | some d => rw [e] at h; simp at h; exact ⟨d, rfl, h.symm⟩
theorem enum_get {ds : List D} {k : Nat} {v : List Sl} (h : (enumS 0 (ds.map slOf))[k]? = some v) : ∃ d, ds[k]? = some d ∧ v = [.own (.fz (.int k)), .own (.fz d)] := by
  rw [enumS_get, List.getElem?_map] at h
  cases e : ds[k]? with
  | none => rw [e] at h; cases h
  | some d =>
    rw [e] at h; simp at h
    refine ⟨d, rfl, ?_⟩
    rw [← h]; rfl
/-- ascending whole numbers between two bounds -/
def Asc (lo hi : Int) (ns : List Int) : Prop := ns.Pairwise (· < ·) ∧ ∀ x ∈ ns, lo ≤ x ∧ x ≤ hi
theorem Asc.step {lo hi : Int} {ns : List Int} (h : Asc lo hi ns) {k : Nat} {x y : Int} (hk : 0 < k) (hx : ns[k - 1]? = some x) (hy : ns[k]? = some y) : x < y := by
  obtain ⟨h1, e1⟩ := List.getElem?_eq_some_iff.mp hx
  obtain ⟨h2, e2⟩ := List.getElem?_eq_some_iff.mp hy
  have := List.pairwise_iff_getElem.mp h.1 (k - 1) k h1 h2 (by omega)
  rw [e1, e2] at this
  exact this
theorem Asc.nodup {lo hi : Int} {ns : List Int} (h : Asc lo hi ns) : ns.Nodup := h.1.imp fun h e => by omega
theorem Asc.nil (lo hi : Int) : Asc lo hi [] := ⟨.nil, fun _ h => by cases h⟩
def rgI (a b : Int) : List Int := (List.range (b - a).toNat).map fun (k : Nat) => a + k
theorem rgI_len (a b : Int) : (rgI a b).length = (b - a).toNat := by unfold rgI; rw [List.length_map, List.length_range]
theorem rgI_get {a b : Int} {k : Nat} {x : Int} (h : (rgI a b)[k]? = some x) : x = a + k ∧ k < (b - a).toNat := by
  unfold rgI at h
  rw [List.getElem?_map] at h
  by_cases hk : k < (b - a).toNat
  · rw [List.getElem?_range hk] at h
    simp at h
    exact ⟨h.symm, hk⟩
  · rw [List.getElem?_eq_none (by simpa using hk)] at h
    cases h
theorem mem_rgI {a b x : Int} : x ∈ rgI a b ↔ a ≤ x ∧ x < b := by
  unfold rgI
  rw [List.mem_map]
  constructor
  · rintro ⟨k, hk, rfl⟩
    have := List.mem_range.mp hk
    omega
  · intro h
    exact ⟨(x - a).toNat, List.mem_range.mpr (by omega), by omega⟩
theorem rgD_dI (a b : Int) : rgD a b = dI (rgI a b) := by unfold rgD dI rgI; rw [List.map_map]; rfl
theorem lrng1_s {n : Int} (h0 : -1000 ≤ n) (h : n ≤ 1000) : fLRng1 (.val (.fz (.int n))) = .ok (.val (.ls (oI (rgI 0 n)))) := by
  have hb : rgB 0 n = true := by simp only [rgB, Bool.and_eq_true, decide_eq_true_eq]; omega
  show (if rgB 0 n = true then _ else _) = _
  rw [if_pos hb, rgD_dI, oI_fz]
theorem lrng2_s {m n : Int} (h2 : -1000 ≤ m) (h3 : m ≤ 1000) (h0 : -1000 ≤ n) (h : n ≤ 1000) : fLRng2 (.val (.fz (.int m))) (.val (.fz (.int n))) = .ok (.val (.ls (oI (rgI m n)))) := by
  have hb : rgB m n = true := by simp only [rgB, Bool.and_eq_true, decide_eq_true_eq]; omega
  show (if rgB m n = true then _ else _) = _
  rw [if_pos hb, rgD_dI, oI_fz]
theorem rng1_s {a : EC} {ρ : Rho} {n : Int} (h : a ρ = .ok (.val (.fz (.int n)))) (h0 : -1000 ≤ n) (h1 : n ≤ 1000) : iRng1 a ρ = .ok (rangeS 0 n) := by
  have hb : rngOk n = true := by simp only [rngOk, Bool.and_eq_true, decide_eq_true_eq]; omega
  unfold iRng1
  rw [h]
  show (if rngOk n = true then _ else _) = _
  rw [if_pos hb]
theorem row_s {a : EC} {ρ : Rho} {d : D} {ds : List D} (h : a ρ = .ok (.val (.fz d))) (e : rowOf d = some ds) : iRow a ρ = .ok ((ds.map slOf).map fun s => [s]) := by
  unfold iRow
  rw [h]
  show (match (RV.val (.fz d)).iter with | some ss => Res.ok (ss.map fun s => [s]) | none => .stuck) = _
  have : (RV.val (.fz d)).iter = some (ds.map slOf) := by
    show (match rowOf d with | some ds => some (ds.map slOf) | none => none) = _
    rw [e]
  rw [this]
theorem enum_s {a : EC} {ρ : Rho} {d : D} {ds : List D} (h : a ρ = .ok (.val (.fz d))) (e : rowOf d = some ds) : iEnum a ρ = .ok (enumS 0 (ds.map slOf)) := by
  unfold iEnum
  rw [h]
  show (match (RV.val (.fz d)).iter with | some ss => Res.ok (enumS 0 ss) | none => .stuck) = _
  have : (RV.val (.fz d)).iter = some (ds.map slOf) := by
    show (match rowOf d with | some ds => some (ds.map slOf) | none => none) = _
    rw [e]
  rw [this]
theorem list_s {d : D} {ds : List D} (h : rowOf d = some ds) : fList (.val (.fz d)) = .ok (.val (.ls (ds.map Ow.fz))) := by
  cases d with
  | list _ => cases h; rfl
  | tuple _ => cases h; rfl
  | _ => cases h
theorem len_s {d : D} {ds : List D} (h : rowOf d = some ds) : fLen (.val (.fz d)) = .ok (.val (.fz (.int ds.length))) := by
  cases d with
  | list _ => cases h; rfl
  | tuple _ => cases h; rfl
  | _ => cases h
theorem asc_rgI (a b : Int) : Asc a (b - 1) (rgI a b) := by
  refine ⟨?_, fun x hx => ?_⟩
  · unfold rgI
    rw [List.pairwise_map]
    exact List.pairwise_lt_range.imp fun h => by omega
  · have := mem_rgI.mp hx
    omega
theorem asc_filter {lo hi : Int} {ns : List Int} (h : Asc lo hi ns) (p : Int → Bool) : Asc lo hi (ns.filter p) := ⟨h.1.filter p, fun x hx => h.2 x (List.mem_filter.mp hx).1⟩
theorem len_le_of_nodup {α : Type} [DecidableEq α] : ∀ {l m : List α}, l.Nodup → (∀ x ∈ l, x ∈ m) → l.length ≤ m.length
  | [], _, _, _ => Nat.zero_le _
  | x :: l, m, h, k => by
    have h' := List.nodup_cons.mp h
    have hx := k x List.mem_cons_self
    have := len_le_of_nodup (l := l) (m := m.erase x) h'.2 fun y hy => (List.mem_erase_of_ne (fun e => h'.1 (by rw [← e]; exact hy))).mpr (k y (List.mem_cons_of_mem _ hy))
    rw [List.length_erase_of_mem hx] at this
    have : 0 < m.length := List.length_pos_of_mem hx
    simp only [List.length_cons]; omega
theorem len_le_days {n : Nat} {r : List Int} (h : r.Nodup) (k : ∀ x ∈ r, 1 ≤ x ∧ x ≤ n) : r.length ≤ n := by
  have := len_le_of_nodup (m := (List.range n).map fun (i : Nat) => (i : Int) + 1) h fun x hx => by
    have := k x hx
    exact List.mem_map.mpr ⟨(x - 1).toNat, List.mem_range.mpr (by omega), by omega⟩
  simpa using this
end VL

set_option Elab.async false
set_option linter.all false
set_option maxRecDepth 100000
set_option maxHeartbeats 2000000
/-! VL15: more steps of the plain reading. -/
namespace VL
open PySem
theorem compL_pt {tg : List Nat} {t : TC} {e : EC} {ρ : Rho} : ∀ (vs : List (List Sl)) (os : List Ow), vs.length = os.length → (∀ (k : Nat) v o, vs[k]? = some v → os[k]? = some o → t (setAll tg v ρ) = .ok true ∧ e (setAll tg v ρ) = .ok (.val o)) → compL tg t e vs ρ = .ok os
  | [], [], _, _ => rfl
  | [], _ :: _, h, _ => by simp at h
  | _ :: _, [], h, _ => by simp at h
  | v :: vs, o :: os, h, k => by
    obtain ⟨h1, h2⟩ := k 0 v o rfl rfl
    have ih := compL_pt vs os (by simpa using h) fun j w p hw hp => k (j + 1) w p (by simpa using hw) (by simpa using hp)
    unfold compL
    rw [h1]
    show (match e (setAll tg v ρ) with | .ok x => _ | _ => _) = _
    rw [h2]
    show (compL tg t e vs ρ).bind _ = _
    rw [ih]
    rfl
/-- .. some left out -/
theorem compL_fpt {tg : List Nat} {t : TC} {e : EC} {ρ : Rho} : ∀ (vs : List (List Sl)) (xs : List (Bool × Ow)), vs.length = xs.length → (∀ (k : Nat) v b o, vs[k]? = some v → xs[k]? = some (b, o) → t (setAll tg v ρ) = .ok b ∧ (b = true → e (setAll tg v ρ) = .ok (.val o))) → compL tg t e vs ρ = .ok ((xs.filter (·.1)).map (·.2))
  | [], [], _, _ => rfl
  | [], _ :: _, h, _ => by simp at h
  | _ :: _, [], h, _ => by simp at h
  | v :: vs, (b, o) :: xs, h, k => by
    obtain ⟨h1, h2⟩ := k 0 v b o rfl rfl
    have ih := compL_fpt vs xs (by simpa using h) fun j w b p hw hp => k (j + 1) w b p (by simpa using hw) (by simpa using hp)
    unfold compL
    rw [h1]
    cases b with
    | false => exact ih
    | true =>
      show (match e (setAll tg v ρ) with | .ok x => _ | _ => _) = _
      rw [h2 rfl]
      show (compL tg t e vs ρ).bind _ = _
      rw [ih]
      rfl
theorem parts_s {d : D} {ds : List D} (h : rowOf d = some ds) : (RV.val (.fz d)).parts = some (ds.map slOf) := by
  cases d with
  | list _ => cases h; rfl
  | tuple _ => cases h; rfl
  | _ => cases h
theorem unp_s {tg : List Nat} {a : EC} {ρ : Rho} {d : D} {ds : List D} (h : a ρ = .ok (.val (.fz d))) (e : rowOf d = some ds) (hl : ds.length = tg.length) : sUnp tg a ρ = .next (setAll tg (ds.map slOf) ρ) := by
  unfold sUnp
  rw [h]
  show (match (RV.val (.fz d)).parts with | some ss => _ | none => _) = _
  rw [parts_s e]
  show (if (ds.map slOf).length = tg.length then _ else _) = _
  rw [if_pos (by rw [List.length_map]; exact hl)]
/-- rows of rows -/
def Rows (ds : List D) (S : List (List D)) : Prop := ds.map rowOf = S.map some
theorem Rows.len {ds : List D} {S : List (List D)} (h : Rows ds S) : ds.length = S.length := by have := congrArg List.length h; simpa using this
theorem Rows.get {ds : List D} {S : List (List D)} (h : Rows ds S) {k : Nat} {x : D} (e : ds[k]? = some x) : ∃ s, S[k]? = some s ∧ rowOf x = some s := by
  have := congrArg (fun l => l[k]?) h
  simp only [List.getElem?_map, e, Option.map_some] at this
  cases es : S[k]? with
  | none => rw [es] at this; cases this
  | some s => rw [es] at this; exact ⟨s, rfl, by simpa using this⟩
def lsO (S : List (List D)) : Ow := .ls (S.map fun s => .ls (s.map Ow.fz))
theorem toDs_cons (x : Ow) (xs : List Ow) : toDs (x :: xs) = x.toD :: toDs xs := rfl
theorem toDs_is : ∀ xs : List Ow, toDs xs = xs.map Ow.toD
  | [] => rfl
  | x :: xs => by rw [toDs_cons, toDs_is xs]; rfl
theorem lsO_toD (S : List (List D)) : (lsO S).toD = .list (S.map .list) := by
  show PyData.list (toDs _) = _
  rw [toDs_is, List.map_map]
  congr 1
  refine List.map_congr_left fun s _ => ?_
  show PyData.list (toDs (s.map Ow.fz)) = _
  rw [toDs_fz]
theorem app_s {i : Nat} {o a : EC} {ρ : Rho} {xs : List Ow} {ow : Ow} (h : o ρ = .ok (.ref i [] (.ls xs))) (h' : a ρ = .ok (.val ow)) (hr : ρ[i]? = some (some (.own (.ls xs)))) (hl : xs.length < 16777216) : sApp o a ρ = .next (ρ.set i (some (.own (.ls (xs ++ [ow]))))) := by
  unfold sApp
  rw [h]
  show (match a ρ with | .ok (.val ow) => _ | .err x => _ | _ => _) = _
  rw [h']
  show (if xs.length < 16777216 then _ else _) = _
  rw [if_pos hl]
  unfold putAt
  rw [hr]
  rfl
theorem sorted_ls {ns : List Int} {x : RV} (h : x.d = .list (dI ns)) : fSorted x = .ok (.val (.ls (oI (sortI ns)))) := by
  unfold fSorted
  rw [h]
  show (match intsOf (dI ns) with | some ns => _ | none => _) = _
  rw [intsOf_dI]
  rfl
theorem sum_ls {ns : List Int} {x : RV} (h : x.d = .list (dI ns)) : fSum x = .ok (.val (.fz (.int ns.sum))) := by
  unfold fSum
  rw [h]
  show (match intsOf (dI ns) with | some ns => _ | none => _) = _
  rw [intsOf_dI]
  rfl
theorem oI_toD (ns : List Int) : (Ow.ls (oI ns)).toD = .list (dI ns) := by show PyData.list (toDs (oI ns)) = _; rw [toDs_oI]
theorem len_ls {x : RV} {xs : List D} (h : x.d = .list xs) : fLen x = .ok (.val (.fz (.int xs.length))) := by
  unfold fLen
  rw [h]
  rfl
theorem len_v (os : List Ow) : fLen (.val (.ls os)) = .ok (.val (.fz (.int os.length))) := by
  rw [len_ls (xs := toDs os) rfl, toDs_is, List.length_map]
theorem take_succ {α : Type} {xs : List α} {k : Nat} {x : α} (h : xs[k]? = some x) : xs.take (k + 1) = xs.take k ++ [x] := by
  obtain ⟨q1, q2⟩ := List.getElem?_eq_some_iff.mp h
  rw [List.take_succ_eq_append_getElem q1, q2]
end VL

set_option Elab.async false
set_option linter.all false
set_option maxRecDepth 100000
set_option maxHeartbeats 2000000
/-! VL16: comprehensions over ranges, slices of rows of ints. -/
namespace VL
open PySem
theorem wipe1 (i : Nat) (ρ : Rho) : wipeR [i] ρ = ρ.set i none := rfl
theorem comp_rng {i n : Nat} {a : EC} {t : TC} {e : EC} {ρ : Rho} (p : Nat → Bool) (f : Nat → Int) (ha : a ρ = .ok (.val (.fz (.int n)))) (hn : n ≤ 1000)
    (h : ∀ k < n, t ((ρ.set i none).set i (some (.own (.fz (.int k))))) = .ok (p k) ∧ (p k = true → e ((ρ.set i none).set i (some (.own (.fz (.int k))))) = .ok (.val (.fz (.int (f k)))))) :
    eComp [i] (iRng1 a) t e ρ = .ok (.val (.ls (oI (((List.range n).filter p).map f)))) := by
  refine (comp_v (rng1_s ha (by omega) (by omega)) (by rw [rangeS_len]; omega) (compL_fpt _ ((List.range n).map fun k => (p k, .fz (.int (f k)))) (by rw [rangeS_len]; simp) ?_)).trans ?_
  · intro k v b o hv ho
    obtain ⟨rfl, hk⟩ := rangeS_get hv
    have hk' : k < n := by omega
    rw [List.getElem?_map, List.getElem?_range hk'] at ho
    cases ho
    have := h k hk'
    show t (((ρ.set i none)).set i (some (.own (.fz (.int (0 + (k : Nat))))))) = _ ∧ (_ → e (((ρ.set i none)).set i (some (.own (.fz (.int (0 + (k : Nat))))))) = _)
    rw [Int.zero_add]
    exact this
  · rw [List.filter_map, List.map_map]
    unfold oI
    rw [List.map_map]
    rfl
theorem asc_frange (c : Int) (n : Nat) (p : Nat → Bool) : Asc c (n - 1 + c) (((List.range n).filter p).map fun (k : Nat) => (k : Int) + c) := by
  refine ⟨?_, fun x hx => ?_⟩
  · rw [List.pairwise_map]
    exact (List.pairwise_lt_range.filter p).imp fun h => by omega
  · obtain ⟨k, hk, rfl⟩ := List.mem_map.mp hx
    have := List.mem_range.mp (List.mem_filter.mp hk).1
    omega
theorem cutL_oI (ns : List Int) (lo hi : Option Int) : cutL (oI ns) lo hi = oI (cutL ns lo hi) := by
  unfold cutL
  rw [oI_len]
  unfold oI
  rw [List.map_take, List.map_drop]
theorem cut_len {ns : List Int} {lo hi : Int} (h0 : 0 ≤ lo) (h1 : lo ≤ hi) (h2 : hi ≤ ns.length) : (cutL ns (some lo) (some hi)).length = (hi - lo).toNat := by
  unfold cutL HT.sIx
  simp only [List.length_take, List.length_drop]
  rw [if_neg (by omega), if_neg (by omega)]
  omega
theorem slice_s {a lo hi : EC} {ρ : Rho} {i : Nat} {ns : List Int} {l h : Int} (ha : a ρ = .ok (.ref i [] (.ls (oI ns)))) (hl : lo ρ = .ok (.val (.fz (.int l)))) (hh : hi ρ = .ok (.val (.fz (.int h)))) : eSlice a (some lo) (some hi) ρ = .ok (.val (.ls (oI (cutL ns (some l) (some h))))) := by
  unfold eSlice
  rw [ha]
  show ((lo ρ).bind _).bind _ = _
  rw [hl]
  show ((hi ρ).bind _).bind _ = _
  rw [hh]
  show (match (RV.ref i [] (.ls (oI ns))).items with | some xs => _ | none => _) = _
  have : (RV.ref i [] (.ls (oI ns))).items = some (oI ns) := by
    show (if (oI ns).all isFz = true then some (oI ns) else none) = _
    rw [if_pos (oI_all ns)]
  rw [this, ← cutL_oI]
theorem row_ls {a : EC} {ρ : Rho} {ds : List D} (h : a ρ = .ok (.val (.ls (ds.map Ow.fz)))) : iRow a ρ = .ok ((ds.map slOf).map fun s => [s]) := by
  unfold iRow
  rw [h]
  show (match (RV.val (.ls (ds.map Ow.fz))).iter with | some ss => Res.ok (ss.map fun s => [s]) | none => .stuck) = _
  have : (RV.val (.ls (ds.map Ow.fz))).iter = some (ds.map slOf) := by
    show (match rowOf (.list (toDs (ds.map Ow.fz))) with | some ds => some (ds.map slOf) | none => none) = _
    rw [toDs_fz]
    rfl
  rw [this]
theorem cat_s {ds : List D} {os : List Ow} (h : ds.length + os.length ≤ 16777216) : fAdd (.val (.fz (.list ds))) (.val (.ls os)) = .ok (.val (.ls (ds.map Ow.fz ++ os))) := by
  show (if (ds.map Ow.fz).length + os.length ≤ 16777216 then _ else _) = _
  rw [if_pos (by rw [List.length_map]; exact h)]
theorem and_t {a b : TC} {ρ : Rho} {r : Res Bool} (h : a ρ = .ok true) (k : b ρ = r) : VL.tAnd a b ρ = r := by
  unfold VL.tAnd
  rw [h]; exact k
theorem and_f {a b : TC} {ρ : Rho} (h : a ρ = .ok false) : VL.tAnd a b ρ = .ok false := by
  unfold VL.tAnd
  rw [h]; rfl
theorem or_f {a b : TC} {ρ : Rho} {r : Res Bool} (h : a ρ = .ok false) (k : b ρ = r) : VL.tOr a b ρ = r := by
  unfold VL.tOr
  rw [h]; exact k
theorem ev_cons {c : EC} {cs : List EC} {ρ : Rho} {x : RV} {xs : List RV} (h : c ρ = .ok x) (h' : VL.evalAll cs ρ = .ok xs) : VL.evalAll (c :: cs) ρ = .ok (x :: xs) := by
  unfold VL.evalAll
  rw [h]
  show (VL.evalAll cs ρ).bind _ = _
  rw [h']; rfl
theorem ix_val {ns : List Int} {k : Nat} {e : Int} (h1 : ns[k]? = some e) : fIx (.val (.ls (oI ns))) (.val (.fz (.int k))) = .ok (.val (.fz (.int e))) := by
  have hl : (k : Int) < (oI ns).length := by
    have := (List.getElem?_eq_some_iff.mp h1).1
    rw [oI_len]; omega
  unfold fIx
  simp only [RV.d, Ow.toD, atI_nat _ (Int.natCast_nonneg k) hl, Int.toNat_natCast, oI_get, h1, Option.map_some]
theorem mul_r (i j : Int) (h : -(2 ^ 64) < j ∧ j < 2 ^ 64) : fMul (.val (.fz (.int i))) (.val (.fz (.int j))) = .ok (.val (.fz (.int (i * j)))) := by
  have : mulOk i j = true := by
    simp only [mulOk, Bool.or_eq_true, Bool.and_eq_true, decide_eq_true_eq]
    exact .inr h
  show (if mulOk i j = true then _ else _) = _
  rw [if_pos this]; rfl
theorem mul_l (i j : Int) (h : -(2 ^ 64) < i ∧ i < 2 ^ 64) : fMul (.val (.fz (.int i))) (.val (.fz (.int j))) = .ok (.val (.fz (.int (i * j)))) := by
  have : mulOk i j = true := by
    simp only [mulOk, Bool.or_eq_true, Bool.and_eq_true, decide_eq_true_eq]
    exact .inl h
  show (if mulOk i j = true then _ else _) = _
  rw [if_pos this]; rfl
theorem mod_s (i j : Int) (h : 0 < j) : fMod (.val (.fz (.int i))) (.val (.fz (.int j))) = .ok (.val (.fz (.int (i % j)))) := by
  show (if 0 < j then _ else _) = _
  rw [if_pos h]; rfl
theorem div_s (i j : Int) (h : 0 < j ∧ j < 1073741824) : fDiv (.val (.fz (.int i))) (.val (.fz (.int j))) = .ok (.val (.fz (.int (i / j)))) := by
  show (if 0 < j ∧ j < 1073741824 then _ else _) = _
  rw [if_pos h]; rfl
theorem add_s (i j : Int) : fAdd (.val (.fz (.int i))) (.val (.fz (.int j))) = .ok (.val (.fz (.int (i + j)))) := rfl
theorem sub_s (i j : Int) : fSub (.val (.fz (.int i))) (.val (.fz (.int j))) = .ok (.val (.fz (.int (i - j)))) := rfl
theorem int_s (i : Int) : fInt (.val (.fz (.int i))) = .ok (.val (.fz (.int i))) := rfl
theorem lt_s (i j : Int) : fLt (.val (.fz (.int i))) (.val (.fz (.int j))) = .ok (.val (.fz (.bool (decide (i < j))))) := rfl
theorem le_s (i j : Int) : fLe (.val (.fz (.int i))) (.val (.fz (.int j))) = .ok (.val (.fz (.bool (decide (i ≤ j))))) := rfl
theorem gt_s (i j : Int) : fGt (.val (.fz (.int i))) (.val (.fz (.int j))) = .ok (.val (.fz (.bool (decide (j < i))))) := rfl
theorem ge_s (i j : Int) : fGe (.val (.fz (.int i))) (.val (.fz (.int j))) = .ok (.val (.fz (.bool (decide (j ≤ i))))) := rfl
end VL

set_option Elab.async false
set_option linter.all false
set_option maxRecDepth 100000
set_option maxHeartbeats 2000000
/-! VL17: an expression's statement; min, max of two; a row of a def's own things handed out at its end. -/
namespace VL
open PySem PySem.Spec PyProof.Rows L2
def sEx (a : EC) : SC := fun ρ => match a ρ with
  | .ok _ => .next ρ
  | .err x => .err x ρ
  | .stuck => .stuck
def fMin (x y : RV) : Res RV := match x.d, y.d with
  | .int i, .int j => rD (.int (if j < i then j else i))
  | _, _ => .stuck
def fMax (x y : RV) : Res RV := match x.d, y.d with
  | .int i, .int j => rD (.int (if j > i then j else i))
  | _, _ => .stuck
theorem bt_min : bootBuiltins "min" = some (.builtin "min") := by decide +kernel
theorem bt_max : bootBuiltins "max" = some (.builtin "max") := by decide +kernel
section
variable {X : Cx} {a b e : Expr} {ca cb ce : EC} {pos p : Pos}
theorem sok_ex (h : EOk X e ce) (hs : swapsWith e none pos.line X.env = pure false := by rfl) : SOk X (.Expr e pos) (sEx ce) := fun W tk => ps_mono (ps_expr (h W tk) hs) fun D σ H ⟨H0, F0, F, ρ, s, h⟩ => by
  show rdE X.K X.mg ce W σ H fun _ H1 => D.nx σ H1
  unfold sEx at h
  cases e1 : ce ρ with
  | stuck => rw [e1] at h; exact h.elim
  | err x => rw [e1] at h; exact rdE_err s e1 fun cls d H' F' g xo => h cls d σ H' F' (s.step g) xo
  | ok rv => rw [e1] at h; exact rdE_ok s e1 fun v H1 F1 A g o n => h σ H1 F1 (s.step g)
def rMin2 : R2 := fun x y H Q => ∃ i j : Int, [x, y] = [.int i, .int j] ∧ Q (.int (if j < i then j else i)) H
def rMax2 : R2 := fun x y H Q => ∃ i j : Int, [x, y] = [.int i, .int j] ∧ Q (.int (if j > i then j else i)) H
theorem op2_min : Op2 X rMin2 fMin := op2_i (fun i j => .int (if j < i then j else i)) (fun _ _ => true) (fun _ _ => rfl) (fun x y => by unfold fMin; split <;> simp_all) fun i j H Q _ q => ⟨i, j, rfl, q⟩
theorem op2_max : Op2 X rMax2 fMax := op2_i (fun i j => .int (if j > i then j else i)) (fun _ _ => true) (fun _ _ => rfl) (fun x y => by unfold fMax; split <;> simp_all) fun i j H Q _ q => ⟨i, j, rfl, q⟩
theorem eok_min (hm : X.mg "min" = none) (ha : EOk X a ca) (hb : EOk X b cb) (hc : X.calm = true := by rfl) (hg : Gl X "min" := by rfl) (he : starEach [a, b] X.env = (false, eval a X.env) :: starEach [b] X.env := by rfl) (he2 : starEach [b] X.env = (false, eval b X.env) :: starEach [] X.env := by rfl)
    (hpl : (backTo pos (starEach [b] X.env)).any (·.1) = false := by rfl) : EOk X (.Call (.Name "min" p) [a, b] [] pos) (eBin fMin ca cb) :=
  eok_bin (R := rMin2) (fun ta tb h h' => pe_mono (pe_callB (call_min2 hc) hg hm bt_min (pa_cons h (pa_cons h' pa_nil he2) he) (by decide) (by decide) he hpl) fun _ _ _ q => q) op2_min ha hb
theorem eok_max (hm : X.mg "max" = none) (ha : EOk X a ca) (hb : EOk X b cb) (hc : X.calm = true := by rfl) (hg : Gl X "max" := by rfl) (he : starEach [a, b] X.env = (false, eval a X.env) :: starEach [b] X.env := by rfl) (he2 : starEach [b] X.env = (false, eval b X.env) :: starEach [] X.env := by rfl)
    (hpl : (backTo pos (starEach [b] X.env)).any (·.1) = false := by rfl) : EOk X (.Call (.Name "max" p) [a, b] [] pos) (eBin fMax ca cb) :=
  eok_bin (R := rMax2) (fun ta tb h h' => pe_mono (pe_callB (call_max2 hc) hg hm bt_max (pa_cons h (pa_cons h' pa_nil he2) he) (by decide) (by decide) he hpl) fun _ _ _ q => q) op2_max ha hb
end
/-! ### handed out -/
inductive Mv where
  | ev (c : EC)
  | mv (i : Nat)
def evalM : List Mv → Rho → Res (List Ow)
  | [], _ => .ok []
  | .ev c :: r, ρ => (c ρ).bind fun x => match x.ow with
    | some o => (evalM r ρ).bind fun os => .ok (o :: os)
    | none => .stuck
  | .mv i :: r, ρ => match ρ[i]? with
    | some (some (.own ow)) => (evalM r (ρ.set i none)).bind fun os => .ok (ow :: os)
    | _ => .stuck
def sRetM (cs : List Mv) : SC := fun ρ => match evalM cs ρ with
  | .ok os => if os.length ≤ 1000 then .ret (mkTup os) else .stuck
  | .err x => .err x ρ
  | .stuck => .stuck
section
variable {K : Frag} {mg : Str → Option Value} {W : WX} {σ : S} {H H0 F0 F : Hp} {ρ : Rho} {A : Nat → List Addr}
theorem SRA.drop (s : SRA K H0 F0 A σ H F ρ) (i : Nat) : SRA K H0 F0 (fun j => if j = i then [] else A j) σ H F (ρ.set i none) := by
  refine ⟨by simp [s.len], s.gr, fun j => ?_, fun j k hjk a ha hb => ?_⟩
  · by_cases e : j = i
    · subst e
      simp only [if_true]
      by_cases hr : j < ρ.length
      · rw [List.getElem?_set_self hr]; rfl
      · rw [List.getElem?_eq_none (by simp; omega)]; rfl
    · simp only [e, if_false, List.getElem?_set_ne (Ne.symm e)]
      exact s.sl j
  · by_cases e1 : j = i
    · simp [e1] at ha
    · by_cases e2 : k = i
      · simp [e2] at hb
      · simp only [e1, if_false] at ha
        simp only [e2, if_false] at hb
        exact s.ap j k hjk a ha hb
def rdM (K : Frag) (mg : Str → Option Value) (cs : List Mv) (W : WX) : TA := fun σ H Q => ∃ (H0 F0 F : Hp) (ρ : Rho) (A : Nat → List Addr), SRA K H0 F0 A σ H F ρ ∧ match evalM cs ρ with
  | .ok os => ∀ vs H' F' B, Gr H F H' F' → ORs K H' F' vs os B → (∀ a ∈ B, H a = none ∨ ∃ j, a ∈ A j) → Q vs H'
  | .err x => ∀ cls d H' F', Gr H F H' F' → XOk K mg F' H' cls d x → W cls d σ H'
  | .stuck => False
end
section
variable {X : Cx} {e : Expr} {es : List Expr} {cs : List Mv} {c : EC} {pos : Pos}
def MOk (X : Cx) (es : List Expr) (cs : List Mv) : Prop := ∀ W, Takes X W → PA X es (rdM X.K X.mg cs W)
theorem mok_nil : MOk X [] [] := fun W tk => pa_mono pa_nil fun σ H Q ⟨H0, F0, F, ρ, A, s, h⟩ => h [] H F [] (Gr.refl s.gr.fh') .nil fun _ z => by cases z
theorem mok_ev (he : EOk X e c) (hr : MOk X es cs) (hs : starEach (e :: es) X.env = (false, eval e X.env) :: starEach es X.env := by rfl) : MOk X (e :: es) (.ev c :: cs) := fun W tk =>
  pa_mono (pa_cons (he W tk) (hr W tk) hs) fun σ H Q ⟨H0, F0, F, ρ, A, s, h⟩ => by
    show rdE X.K X.mg c W σ H fun x H1 => rdM X.K X.mg cs W σ H1 fun xs H2 => Q (x :: xs) H2
    unfold evalM at h
    cases e1 : c ρ with
    | stuck => rw [e1] at h; exact h.elim
    | err x => rw [e1] at h; exact rdE_err s.sr e1 h
    | ok rx =>
      rw [e1] at h
      simp only [Res.bind] at h
      refine rdE_ok s.sr e1 fun x H1 F1 A1 g1 o1 n1 => ?_
      cases rx with
      | ref _ _ _ => exact h.elim
      | bor _ => exact h.elim
      | val ow =>
        simp only [RV.ow] at h
        refine ⟨H0, F0, F1, ρ, A, s.step g1, ?_⟩
        cases e2 : evalM cs ρ with
        | stuck => rw [e2] at h; exact h.elim
        | err z => rw [e2] at h; exact fun cls d H' F' g => h cls d H' F' (g1.trans g)
        | ok os =>
          rw [e2] at h
          simp only at h
          have o1' : OR X.K H1 F1 x ow A1 := o1
          intro vs H2 F2 B g2 o2 n2
          refine h (x :: vs) H2 F2 (A1 ++ B) (g1.trans g2) (.cons (o1'.gr g2) o2 fun a ha hb => ?_) fun a ha => ?_
          · rcases n2 a hb with q | ⟨j, q⟩
            · exact (o1'.there a ha).1 q
            · exact ((s.sl j).there a q).1 (n1 a ha)
          · rcases List.mem_append.mp ha with z | z
            · exact .inl (n1 a z)
            · rcases n2 a z with q | q
              · exact .inl (g1.hh.none q)
              · exact .inr q
theorem mok_mv (i : Nat) {x : Str} (hr : MOk X es cs) (hN : X.N[i]? = some x := by rfl) (hv : Vis X.env.scope x := by first | exact Or.inl rfl | exact Or.inr (Or.inl rfl) | exact Or.inr (Or.inr rfl)) (hd : (x == ("__debug__" : Str)) = false := by decide)
    (hcd : (x == ("__classdict__" : Str)) = false := by decide) (hs : starEach (.Name x pos :: es) X.env = (false, eval (.Name x pos) X.env) :: starEach es X.env := by rfl) : MOk X (.Name x pos :: es) (.mv i :: cs) := fun W tk =>
  pa_mono (pa_cons (pe_var hN hv hd hcd) (hr W tk) hs) fun σ H Q ⟨H0, F0, F, ρ, A, s, h⟩ => by
    unfold evalM at h
    have hi := s.sl i
    cases e : ρ[i]? with
    | none => rw [e] at h; exact h.elim
    | some o =>
      cases o with
      | none => rw [e] at h; exact h.elim
      | some sl =>
        rw [e] at h hi
        cases sl with
        | bor d => exact h.elim
        | own ow =>
          obtain ⟨v, e1, o1, n1⟩ := hi
          refine ⟨v, e1, H0, F0, F, ρ.set i none, _, s.drop i, ?_⟩
          simp only at h
          cases e2 : evalM cs (ρ.set i none) with
          | stuck => rw [e2] at h; exact h.elim
          | err z => rw [e2] at h; exact h
          | ok os =>
            rw [e2] at h
            simp only [Res.bind] at h
            intro vs H2 F2 B g2 o2 n2
            refine h (v :: vs) H2 F2 (A i ++ B) g2 (.cons (o1.gr g2) o2 fun a ha hb => ?_) fun a ha => ?_
            · rcases n2 a hb with q | ⟨j, q⟩
              · exact (o1.there a ha).1 q
              · by_cases ej : j = i
                · simp [ej] at q
                · simp only [ej, if_false] at q
                  exact s.ap i j (Ne.symm ej) a ha q
            · rcases List.mem_append.mp ha with z | z
              · exact .inr ⟨i, z⟩
              · rcases n2 a z with q | ⟨j, q⟩
                · exact .inl q
                · by_cases ej : j = i
                  · simp [ej] at q
                  · simp only [ej, if_false] at q
                    exact .inr ⟨j, q⟩
theorem sok_retM {x1 : Nat} {p2 : Pos} (h : MOk X es cs) : SOk X (.Return (some (.Tuple es x1 p2)) pos) (sRetM cs) := fun W tk => ps_mono (ps_ret (pe_tup (h W tk))) fun D σ H ⟨H0, F0, F, ρ, s, h⟩ => by
  obtain ⟨A, sa⟩ := s.sra
  show rdM X.K X.mg cs W σ H fun xs H1 => xs.length ≤ sizeLine ∧ ∀ p, H1 p = none → D.rt (.ref p) (upd H1 p (.tup xs))
  refine ⟨H0, F0, F, ρ, A, sa, ?_⟩
  unfold sRetM at h
  cases e1 : evalM cs ρ with
  | stuck => rw [e1] at h; exact h.elim
  | err x => rw [e1] at h; exact fun cls d H' F' g xo => h cls d σ H' F' (s.step g) xo
  | ok os =>
    rw [e1] at h
    simp only at h
    intro vs H1 F1 B g1 o1 n1
    by_cases hc : os.length ≤ 1000
    · simp only [hc, if_true] at h
      refine ⟨by rw [o1.length, sizeLine_eq]; omega, fun p hp => ?_⟩
      obtain ⟨F', C, g, o, n⟩ := fin_tup (s.step g1) o1 hp
      refine h (.ref p) _ F' C (s.gr.trans (g1.trans g)) o fun c hc => ?_
      rcases n c hc with rfl | z
      · exact s.gr.hh.none (g1.hh.none hp)
      · rcases n1 c z with q | ⟨j, q⟩
        · exact s.gr.hh.none q
        · exact ((sa.sl j).there c q).2.2
    · simp only [hc] at h
      exact h.elim
end
end VL

set_option Elab.async false
set_option linter.all false
set_option maxRecDepth 100000
set_option maxHeartbeats 2000000
/-! VL18: more steps of the plain reading. -/
namespace VL
open PySem
/-- a row of ints, in any of its forms -/
structure IsI (x : RV) (L : List Int) : Prop where
  d : x.d = .list (dI L)
  items : x.items = some (oI L)
theorem isI_fz (L : List Int) : IsI (.val (.fz (.list (dI L)))) L := ⟨rfl, by show some ((dI L).map Ow.fz) = _; rw [oI_fz]⟩
theorem isI_ls (L : List Int) : IsI (.val (.ls (oI L))) L := ⟨oI_toD L, rfl⟩
theorem isI_ref (i : Nat) (p : List Nat) (L : List Int) : IsI (.ref i p (.ls (oI L))) L := ⟨oI_toD L, by show (if (oI L).all isFz = true then some (oI L) else none) = _; rw [if_pos (oI_all L)]⟩
theorem cat_I {x y : RV} {L M : List Int} (hx : IsI x L) (hy : IsI y M) (h : L.length + M.length ≤ 16777216) : fAdd x y = .ok (.val (.ls (oI (L ++ M)))) := by
  unfold fAdd
  rw [hx.d, hy.d]
  show catL x y = _
  unfold catL
  rw [hx.items, hy.items]
  show (if (oI L).length + (oI M).length ≤ 16777216 then _ else _) = _
  rw [if_pos (by rw [oI_len, oI_len]; exact h)]
  unfold oI
  rw [List.map_append]
theorem len_I {x : RV} {L : List Int} (hx : IsI x L) : fLen x = .ok (.val (.fz (.int L.length))) := by rw [len_ls hx.d, dI_len]
theorem rev_I {x : RV} {L : List Int} (hx : IsI x L) : fRev x = .ok (.val (.ls (oI L.reverse))) := by
  unfold fRev
  rw [hx.d]
  show (match x.items with | some xs => _ | none => _) = _
  rw [hx.items]
  show Res.ok (RV.val (.ls (oI L).reverse)) = _
  unfold oI
  rw [List.map_reverse]
theorem list_I {x : RV} {L : List Int} (hx : IsI x L) : fList x = .ok (.val (.ls (oI L))) := by
  unfold fList
  rw [hx.items]
theorem in_I {y : RV} {L : List Int} (x : Int) (hy : IsI y L) : fIn (.val (.fz (.int x))) y = .ok (.val (.fz (.bool (decide (x ∈ L))))) := fIn_dI x (by rw [hy.d]; rfl)
theorem notIn_I {y : RV} {L : List Int} (x : Int) (hy : IsI y L) : fNotIn (.val (.fz (.int x))) y = .ok (.val (.fz (.bool (!decide (x ∈ L))))) := fNotIn_dI x (by rw [hy.d]; rfl)
theorem ix_I {L : List Int} {k : Int} {e : Int} (h0 : 0 ≤ k) (h1 : L[k.toNat]? = some e) : fIx (.val (.fz (.list (dI L)))) (.val (.fz (.int k))) = .ok (.val (.fz (.int e))) := fIx_row rfl h0 (by rw [dI_get, h1]; rfl)
theorem row_I {a : EC} {ρ : Rho} {x : RV} {L : List Int} (h : a ρ = .ok x) (hv : x = .val (.fz (.list (dI L))) ∨ x = .val (.ls (oI L))) : iRow a ρ = .ok (((dI L).map slOf).map fun s => [s]) := by
  rcases hv with rfl | rfl
  · exact row_s h rfl
  · rw [← oI_fz] at h
    exact row_ls h
theorem rng2_s {a b : EC} {ρ : Rho} {m n : Int} (h : a ρ = .ok (.val (.fz (.int m)))) (h' : b ρ = .ok (.val (.fz (.int n)))) (h0 : -1000 ≤ m) (h1 : m ≤ 1000) (h2 : -1000 ≤ n) (h3 : n ≤ 1000) : iRng2 a b ρ = .ok (rangeS m n) := by
  have hb : rngOk m = true := by simp only [rngOk, Bool.and_eq_true, decide_eq_true_eq]; omega
  have hc : rngOk n = true := by simp only [rngOk, Bool.and_eq_true, decide_eq_true_eq]; omega
  unfold iRng2
  rw [h]
  show (b ρ).bind _ = _
  rw [h']
  show (if rngOk m = true ∧ rngOk n = true then _ else _) = _
  rw [if_pos ⟨hb, hc⟩]
theorem rangeS_row (m n : Int) : rangeS m n = ((dI (rgI m n)).map slOf).map fun s => [s] := by
  unfold rangeS dI rgI
  rw [List.map_map, List.map_map, List.map_map]
  rfl
/-- a comprehension over a row of ints -/
theorem comp_I {i : Nat} {it : IC} {t : TC} {e : EC} {ρ : Rho} {L : List Int} (p : Int → Bool) (f : Int → Int) (hi : it ρ = .ok (((dI L).map slOf).map fun s => [s])) (hn : L.length ≤ 1000)
    (h : ∀ x ∈ L, t ((ρ.set i none).set i (some (.own (.fz (.int x))))) = .ok (p x) ∧ (p x = true → e ((ρ.set i none).set i (some (.own (.fz (.int x))))) = .ok (.val (.fz (.int (f x)))))) :
    eComp [i] it t e ρ = .ok (.val (.ls (oI ((L.filter p).map f)))) := by
  refine (comp_v hi (by simp [dI_len]; omega) (compL_fpt _ (L.map fun x => (p x, .fz (.int (f x)))) (by simp [dI_len]) ?_)).trans ?_
  · intro k v b o hv ho
    obtain ⟨x, hx, rfl⟩ := row_get hv
    rw [dI_get] at hx
    rw [List.getElem?_map] at ho
    cases en : L[k]? with
    | none => rw [en] at hx; cases hx
    | some n =>
      rw [en] at hx ho
      cases hx; cases ho
      exact h n (List.mem_of_getElem? en)
  · rw [List.filter_map, List.map_map]
    unfold oI
    rw [List.map_map]
    rfl
/-- two ascending rows of the same members -/
theorem asc_ext : ∀ {L M : List Int}, L.Pairwise (· < ·) → M.Pairwise (· < ·) → (∀ x, x ∈ L ↔ x ∈ M) → L = M
  | [], [], _, _, _ => rfl
  | [], m :: M, _, _, h => absurd ((h m).mpr List.mem_cons_self) (by simp)
  | l :: L, [], _, _, h => absurd ((h l).mp List.mem_cons_self) (by simp)
  | l :: L, m :: M, hL, hM, h => by
    have hL' := List.pairwise_cons.mp hL
    have hM' := List.pairwise_cons.mp hM
    have e : l = m := by
      rcases List.mem_cons.mp ((h l).mp List.mem_cons_self) with q | q
      · exact q
      · rcases List.mem_cons.mp ((h m).mpr List.mem_cons_self) with q' | q'
        · exact q'.symm
        · have := hL'.1 m q'
          have := hM'.1 l q
          omega
    subst e
    rw [asc_ext hL'.2 hM'.2 fun x => ?_]
    constructor
    · intro hx
      rcases List.mem_cons.mp ((h x).mp (List.mem_cons_of_mem _ hx)) with q | q
      · subst q
        have := hL'.1 x hx
        omega
      · exact q
    · intro hx
      rcases List.mem_cons.mp ((h x).mpr (List.mem_cons_of_mem _ hx)) with q | q
      · subst q
        have := hM'.1 x hx
        omega
      · exact q
/-- sorting a row without repetitions -/
theorem sortI_lt {L : List Int} (h : L.Nodup) : (sortI L).Pairwise (· < ·) := by
  have hs := sortI_sorted L
  have hn : (sortI L).Nodup := (sortI_perm L).nodup_iff.mpr h
  exact (hs.and hn).imp fun ⟨a, b⟩ => by
    rcases Int.lt_or_eq_of_le a with q | q
    · exact q
    · exact absurd q b
end VL

set_option Elab.async false
set_option linter.all false
set_option maxRecDepth 100000
set_option maxHeartbeats 4000000
/-! VL19: o[i] = e in an own list; name op= e for ints. -/
namespace VL
open PySem PySem.Spec PyProof.Rows L2
def sPut (o i e : EC) : SC := fun ρ => match e ρ with
  | .ok (.val oe) => (match o ρ with
    | .ok (.ref s p (.ls xs)) => (match i ρ with
      | .ok ri => (match ri.d with
        | .int k => (match ixN xs.length k with
          | some j => putAt s p (fun ys => ys.set j oe) ρ
          | none => .stuck)
        | _ => .stuck)
      | .err x => .err x ρ
      | .stuck => .stuck)
    | .err x => .err x ρ
    | _ => .stuck)
  | .err x => .err x ρ
  | _ => .stuck
theorem ORs.setAt {K : Frag} {H F : Hp} {y : V} {oe : Ow} {C : List Addr} (o : OR K H F y oe C) : ∀ {xs : List Ow} {vs : List V} {B : List Addr} (j : Nat), ORs K H F vs xs B → (∀ c ∈ C, c ∉ B) → ∃ B', ORs K H F (vs.set j y) (xs.set j oe) B' ∧ ∀ b ∈ B', b ∈ B ∨ b ∈ C
  | [], _, _, j, .nil, _ => ⟨[], .nil, fun _ z => by cases z⟩
  | x :: xs, v :: vs, _, 0, @ORs.cons _ _ _ _ _ _ _ A B h1 h2 n, hd => ⟨C ++ B, .cons o h2 fun c hc hb => hd c hc (List.mem_append_right _ hb), fun b hb => (List.mem_append.mp hb).elim .inr fun z => .inl (List.mem_append_right _ z)⟩
  | x :: xs, v :: vs, _, j + 1, @ORs.cons _ _ _ _ _ _ _ A B h1 h2 n, hd => by
    obtain ⟨B', h3, h4⟩ := ORs.setAt o j h2 fun c hc hb => hd c hc (List.mem_append_right _ hb)
    refine ⟨A ++ B', .cons h1 h3 fun a ha hb => ?_, fun b hb => ?_⟩
    · rcases h4 a hb with z | z
      · exact n a ha z
      · exact hd a z (List.mem_append_left _ ha)
    · rcases List.mem_append.mp hb with z | z
      · exact .inl (List.mem_append_left _ z)
      · exact (h4 b z).imp (fun z => List.mem_append_right _ z) id
theorem OR.memAt {K : Frag} {H F : Hp} : ∀ (p : List Nat) {ow : Ow} {v : V} {A : List Addr} {xs : List Ow} {l : Addr}, OR K H F v ow A → At H v p (.ref l) → ow.at p = some (.ls xs) → l ∈ A
  | [], ow, v, A, xs, l, o, h, e => by
    cases e
    obtain ⟨a, vs, B, rfl, rfl, _⟩ := o.ls_inv
    cases (show V.ref l = V.ref a from h)
    exact List.mem_cons_self
  | k :: p, .fz _, v, A, xs, l, o, h, e => by simp [Ow.at] at e
  | k :: p, .ls ys, v, A, xs, l, o, h, e => by
    obtain ⟨a, us, w, rfl, hb, hw, at2⟩ := h
    obtain ⟨b, vs, B, ev, rfl, h1, h2, h3, h4⟩ := o.ls_inv
    cases ev
    have eus : vs = us := by
      rcases hb with hb | hb <;> rw [hb] at h1 <;> cases h1
      rfl
    subst eus
    simp only [Ow.at] at e
    cases ey : ys[k]? with
    | none => rw [ey] at e; cases e
    | some y =>
      rw [ey] at e
      obtain ⟨Ak, oy, hAk, _⟩ := h4.setk (H1 := H) (C := []) ey hw
      exact List.mem_cons_of_mem _ (hAk l (OR.memAt p oy at2 e))
  | k :: p, .tp ys, v, A, xs, l, o, h, e => by
    obtain ⟨a, us, w, rfl, hb, hw, at2⟩ := h
    obtain ⟨b, vs, B, ev, rfl, h1, h2, h3, h4⟩ := o.tp_inv
    cases ev
    have eus : vs = us := by
      rcases hb with hb | hb <;> rw [hb] at h1 <;> cases h1
      rfl
    subst eus
    simp only [Ow.at] at e
    cases ey : ys[k]? with
    | none => rw [ey] at e; cases e
    | some y =>
      rw [ey] at e
      obtain ⟨Ak, oy, hAk, _⟩ := h4.setk (H1 := H) (C := []) ey hw
      exact List.mem_cons_of_mem _ (hAk l (OR.memAt p oy at2 e))
section
variable {X : Cx} {o i e : Expr} {co ci ce : EC} {pos pos' : Pos}
theorem put_rd {K : Frag} {mg : Str → Option Value} {W : WX} {D : Ends} {σ : S} {H : Hp} (h : rdS K mg (sPut co ci ce) W D σ H) :
    rdE K mg ce W σ H fun v H1 => rdE K mg co W σ H1 fun x H2 => rdE K mg ci W σ H2 fun y H3 => rSetL x y v H3 fun H4 => D.nx σ H4 := by
  obtain ⟨H0, F0, F, ρ, s, h⟩ := h
  unfold sPut at h
  cases e1 : ce ρ with
  | stuck => rw [e1] at h; exact h.elim
  | err x => rw [e1] at h; exact rdE_err s e1 fun cls d H' F' g xo => h cls d σ H' F' (s.step g) xo
  | ok re =>
    rw [e1] at h
    cases re with
    | ref _ _ _ => exact h.elim
    | bor _ => exact h.elim
    | val oe =>
      simp only at h
      refine rdE_ok s e1 fun v H1 F1 C g1 o1 n1 => ?_
      have s1 := s.step g1
      have o1 : OR K H1 F1 v oe C := o1
      cases e2 : co ρ with
      | stuck => rw [e2] at h; exact h.elim
      | err z => rw [e2] at h; exact rdE_err s1 e2 fun cls d H' F' g xo => h cls d σ H' F' (s1.step g) xo
      | ok ro =>
        rw [e2] at h
        cases ro with
        | val _ => exact h.elim
        | bor _ => exact h.elim
        | ref sl p ow =>
          cases ow with
          | fz _ => exact h.elim
          | tp _ => exact h.elim
          | ls ys =>
            simp only at h
            refine rdE_ok s1 e2 fun x H2 F2 A g2 o2 n2 => ?_
            have s2 := s1.step g2
            obtain ⟨_, ⟨v0, e0, hat⟩, ⟨ow0, eo, ea⟩, B0, ob⟩ := id o2
            obtain ⟨l, vs0, Bl, ev, _, hl, _, _, orl⟩ := ob.ls_inv
            subst ev
            cases e3 : ci ρ with
            | stuck => rw [e3] at h; exact h.elim
            | err z => rw [e3] at h; exact rdE_err s2 e3 fun cls d H' F' g xo => h cls d σ H' F' (s2.step g) xo
            | ok ri =>
              rw [e3] at h
              simp only at h
              cases ed : ri.d with
              | int k =>
                rw [ed] at h
                simp only at h
                cases ej : ixN ys.length k with
                | none => rw [ej] at h; exact h.elim
                | some j =>
                  rw [ej] at h
                  simp only at h
                  refine rdE_ok s2 e3 fun y H3 F3 A3 g3 o3 n3 => ?_
                  have s3 := s2.step g3
                  have py := o3.dp s3
                  rw [ed] at py
                  obtain rfl := rp_int py
                  have hl3 : H3 l = some (.lst vs0) := g3.hh l _ hl
                  refine ⟨l, vs0, k, j, rfl, rfl, hl3, by rw [orl.length]; exact ej, ?_⟩
                  rcases putAt_next (i := sl) (p := p) (f := fun ys => ys.set j oe) (ρ := ρ) with ⟨ρ', hp⟩ | hp
                  · rw [hp] at h
                    obtain ⟨A0, sa0⟩ := s.sra
                    have sa := ((sa0.step g1).step g2).step g3
                    have Cn : ∀ c ∈ C, ∀ j, c ∉ A0 j := fun c hc j hj => ((sa0.sl j).there c hj).1 (n1 c hc)
                    have o1' := (o1.gr g2).gr g3
                    refine h σ _ F3 (put_state (C := C) sa e0 (hat.gr g3.hh) eo ea hl3 hp Cn (fun c hc => s.gr.hh.none (n1 c hc)) fun B oB hB na => ?_)
                    have lB : l ∈ A0 sl := by
                      have q := sa.sl sl
                      rw [eo] at q
                      obtain ⟨v9, e9, o9, _⟩ := q
                      rw [e0] at e9
                      cases e9
                      exact OR.memAt p o9 (hat.gr g3.hh) ea
                    have Cl : ∀ c ∈ C, c ≠ l := fun c hc z => Cn c hc sl (z ▸ lB)
                    have k1 : ORs K (upd H3 l (.lst (vs0.set j v))) F3 vs0 ys B := oB.keep (Sub.refl _) fun c hc => ⟨upd_ne fun z => na (z ▸ hc), (oB.there c hc).2⟩
                    have k2 : OR K (upd H3 l (.lst (vs0.set j v))) F3 v oe C := OR.keep (Sub.refl _) o1' fun c hc => ⟨upd_ne (Cl c hc), (OR.there o1' c hc).2⟩
                    obtain ⟨B', k3, k4⟩ := ORs.setAt k2 j k1 fun c hc hb => Cn c hc sl (hB c hb)
                    refine ⟨B', k3, k4, fun hc => ?_⟩
                    rcases k4 l hc with z | z
                    · exact na z
                    · exact Cl l z rfl
                  · rw [hp] at h; exact h.elim
              | _ => rw [ed] at h; exact h.elim
theorem sok_put (ho : EOk X o co) (hi : EOk X i ci) (he : EOk X e ce) (hs : swapsWithSole [(.Subscript o i pos' : Expr)] e pos.line X.env = pure false := by rfl) (hw : swappedStores [(.Subscript o i pos' : Expr)] e X.env = pure none := by rfl)
    (h1 : (assignEach [(.Subscript o i pos' : Expr)] X.env).map (·.2) = [assign (.Subscript o i pos') X.env] := by rfl)
    (ha : ∀ v, assign (.Subscript o i pos') X.env v = (do
      let ov ← holding [v] (eval o X.env)
      let iv ← holding [v, ov] (eval i X.env)
      standAt pos'
      holding [v, ov, iv] (setItem ov iv v)
      release [v, ov, iv] []) := by intro _; rfl) : SOk X (.Assign [.Subscript o i pos'] e pos) (sPut co ci ce) := fun W tk =>
  ps_mono (ps_asg (he W tk) (pg_sub (ho W tk) (hi W tk) set_list ha) hs hw h1) fun D σ H h => put_rd h
/-- name op= e, ints -/
def sAug (i : Nat) (f : Int → Int → Int) (e : EC) : SC := fun ρ => match ρ[i]? with
  | some (some (.own (.fz (.int a)))) => (match e ρ with
    | .ok re => (match re.d with
      | .int b => .next (ρ.set i (some (.own (.fz (.int (f a b))))))
      | _ => .stuck)
    | .err x => .err x ρ
    | .stuck => .stuck)
  | _ => .stuck
theorem sok_aug {x : Str} {op : Operator} {f : Int → Int → Int} {i : Nat} (hN : X.N.Nodup) (hop : PIp X op (ipI f)) (he : EOk X e ce) (hi : X.N[i]? = some x := by rfl) (hx : Loc X.env.scope x := by first | exact Or.inl rfl | exact Or.inr rfl)
    (hf : X.fn x = true ∨ X.env.scope.names.lookup x = some .local := by first | exact .inl rfl | exact .inr rfl) : SOk X (.AugAssign (.Name x pos') op e pos) (sAug i f ce) := fun W tk =>
  ps_mono (ps_aug hN hi hx (he W tk) hop hf) fun D σ H h => by
    obtain ⟨H0, F0, F, ρ, s, h⟩ := h
    unfold sAug at h
    split at h
    · rename_i a er
      obtain ⟨A0, sa0⟩ := s.sra
      have q := sa0.sl i
      rw [er] at q
      obtain ⟨v, ev, o, _⟩ := q
      have ov := (OR.fz_inv o).2
      obtain rfl := rp_int ov
      refine ⟨_, ev, ?_⟩
      cases e1 : ce ρ with
      | stuck => rw [e1] at h; exact h.elim
      | err z => rw [e1] at h; exact rdE_err s e1 fun cls d H' F' g xo => h cls d σ H' F' (s.step g) xo
      | ok re =>
        rw [e1] at h
        simp only at h
        cases ed : re.d with
        | int b =>
          rw [ed] at h
          simp only at h
          refine rdE_ok s e1 fun y H1 F1 A g1 o1 n1 => ?_
          have py := o1.dp (s.step g1)
          rw [ed] at py
          obtain rfl := rp_int py
          obtain ⟨A', s', _⟩ := (sa0.step g1).set (i := i) (x := .int (f a b)) (sl := .own (.fz (.int (f a b)))) (B := []) ⟨OR.fz (.int _), fun _ z => by cases z⟩ fun _ z => by cases z
          exact ⟨a, b, rfl, rfl, h _ H1 F1 s'.sr⟩
        | _ => rw [ed] at h; exact h.elim
    · exact h.elim
end
end VL

set_option Elab.async false
set_option linter.all false
set_option maxRecDepth 100000
set_option maxHeartbeats 4000000
/-! VE1: super().__init__(text) in an error class that stands (by another own class) over ValueError. -/
namespace PySem
namespace VEX
open ESX
/-- ValueError.__init__, bound -/
abbrev wrapV (x : Addr) : Obj := { cls := .type "method-wrapper", dict := none, data := .fields #[.builtin "ValueError.__init__", .ref x], slots := #[] }
theorem ty_vi : typeOf (.builtin "ValueError.__init__") = pure (.type "wrapper_descriptor") := by
  show builtinType _ = _
  rw [builtinType_eq_fast]; kernel_rfl
theorem nacV : (kfb_private% "nameAndClass") (Value.builtin "ValueError.__init__") = (pure (("__init__" : Str), Value.type "ValueError") : Sem (Str × Value)) := by kernel_rfl
section
open PySem.W
variable {prog : Program} {w : World} {M : Model} {A : Around} {E : Value → Shared → Prop}
variable {h : Heap} {g : Array GenState} {d : Drawn} {t : Nat} {os : OsState}
theorem run_wdV {x C : Addr} {P : Fin → Shared → Prop} (hin : W.Looks M h (isInstance (.ref x) (.type "ValueError")) true)
    (hq : P (.done (.ret (.ref h.objs.size))) ⟨h.push (wrapV x), g, d, t, os⟩) :
    wpAny M A (Builtin.«wrapper_descriptor.__get__» ⟨[.builtin "ValueError.__init__", .ref x, .ref C], []⟩) P E ⟨h, g, d, t, os⟩ := by
  unfold Builtin.«wrapper_descriptor.__get__»
  refine wpAny_bind (wpAny_of_eq (a := (.builtin "ValueError.__init__", some (.ref x), some (.ref C))) (by first | rfl | kernel_rfl) ?_)
  show wpAny M A ((kfb_private% "checkInstance") (.builtin "ValueError.__init__") (.ref x) >>= fun _ => newFields "method-wrapper" [.builtin "ValueError.__init__", .ref x] >>= fun r => ret r) P E _
  refine wpAny_bind ?_
  show wpAny M A ((kfb_private% "nameAndClass") (.builtin "ValueError.__init__") >>= _) _ E _
  refine wpAny_bind (wpAny_of_eq nacV ?_)
  show wpAny M A (isInstance (.ref x) (.type "ValueError") >>= _) _ E _
  exact wpAny_bind (hin.at (KFB.if_not rfl (wpAny_pure (wpAny_bind (wpAny_newObj_type (wpAny_pure hq))))))
/-- the super object at so: of the class D, for x, whose class is C -/
abbrev supO (D x C : Addr) : Obj := { cls := .type "super", dict := none, data := .fields #[.ref D, .ref x, .ref C], slots := #[] }
theorem super_gaV {so D x C : Addr} {l₀ l : List Value} {K : Frag} {name : Str} {tk : Tok} {Q : Fin → Shared → Prop}
    (hso : h.get? so = some (supO D x C)) (hno : W.Looks (model prog w) h (opaqueClassAbove (.ref C)) none)
    (hC : W.Looks (model prog w) h (mroOf (.ref C)) l₀) (hl : (l₀.dropWhile (· != .ref D)).drop 1 = l) (X : K.In h)
    (hf : alongIn K name l = some (some (.builtin "ValueError.__init__"))) (hxC : x ≠ C) (hn : (name == ("__class__" : Str)) = false)
    (hin : W.Looks (model prog w) h (isInstance (.ref x) (.type "ValueError")) true) (hq : Q (.done (.ret (.ref h.objs.size))) ⟨h.push (wrapV x), g, d, t, os⟩) :
    wpAny (model prog w) A (Builtin.«super.__getattribute__» ⟨[.ref so, .str name tk], []⟩) Q E ⟨h, g, d, t, os⟩ := by
  have hlk := slot_wd.lookup
  have hTf := ty_vi
  have hne : (Value.ref x == Value.ref C) = false := by simp [hxC]
  have hTi : Shared.TypeIs ⟨h, g, d, t, os⟩ (.builtin "ValueError.__init__") "wrapper_descriptor" := ty_vi
  have hdt : (supO D x C).data = .fields #[.ref D, .ref x, .ref C] := rfl
  have f0 : (#[.ref D, .ref x, .ref C] : Array Value)[0]? = some (.ref D) := rfl
  have f1 : (#[.ref D, .ref x, .ref C] : Array Value)[1]? = some (.ref x) := rfl
  have f2 : (#[.ref D, .ref x, .ref C] : Array Value)[2]? = some (.ref C) := rfl
  unfold Builtin.«super.__getattribute__»
  repeat (first
    | (with_reducible refine wpAny_field hso hdt f0 ?_) | (with_reducible refine wpAny_field hso hdt f1 ?_)
    | (with_reducible refine wpAny_field hso hdt f2 ?_)
    | (with_reducible refine ks_wpAny_notOpaque hno ?_) | (with_reducible refine Looks.at hC ?_; rw [hl])
    | (refine ks_forIn_along X (fun _ _ => rfl) rfl ?_ hf) | (with_reducible refine wpAny_call_entry slot_wd hTi entry_wd ?_ (args_wd _ _ _))
    | (with_reducible refine run_wdV hin ?_) | (with_reducible refine ⟨_, rfl, ?_⟩)
    | (simp only [hn, hne, Bool.or_false, Bool.false_eq_true, if_false]) | wp_step | dsimp only)
  all_goals exact hq
theorem getMethod_supV {so D x C : Addr} {l₀ l : List Value} {K : Frag} {name : Str} {pl : Sem Bool} {Q : Value × List Value → Shared → Prop}
    (hso : h.get? so = some (supO D x C)) (hno : W.Looks (model prog w) h (opaqueClassAbove (.ref C)) none)
    (hC : W.Looks (model prog w) h (mroOf (.ref C)) l₀) (hl : (l₀.dropWhile (· != .ref D)).drop 1 = l) (X : K.In h)
    (hf : alongIn K name l = some (some (.builtin "ValueError.__init__"))) (hxC : x ≠ C) (hn : (name == ("__class__" : Str)) = false)
    (hin : W.Looks (model prog w) h (isInstance (.ref x) (.type "ValueError")) true) (hq : Q (.ref h.objs.size, []) ⟨h.push (wrapV x), g, d, t + 1, os⟩) :
    wpAny (model prog w) A (getMethod (.ref so) name pl) Q E ⟨h, g, d, t, os⟩ := by
  have slotH := F.ks_slot_super_ga
  have hT : ∀ t', (⟨h, g, d, t', os⟩ : Shared).TypeIs (.ref so) "super" := fun _ => ⟨_, hso, rfl⟩
  unfold getMethod
  refine wpAny_bind (wpAny_specialOf (hT _) slotH.lookup ?_)
  show wpAny _ _ (if (Manifest.canonical "super.__getattribute__" != "object.__getattribute__") = true then _ else _) _ _ _
  rw [if_pos F.ks_canon_super_ga]
  unfold getAttr getAttrBy
  refine wpAny_bind (wpAny_bind (wpAny_mkText (wpAny_holding (wpAny_bind (wpAny_typeOf (hT _) (wpAny_bind (wpAny_of_eq slotH.lookup ?_)))))))
  show wpAny _ _ (getAttrByItsOwn (.ref so) (.str name t) (.type "super") (.builtin "super.__getattribute__") true false) _ _ _
  unfold getAttrByItsOwn hookBefore callGetattribute boundAndCalled
  refine wpAny_bind (wpAny_of_eq (show (if onTheHeap (.type "super") then typeLookup (.type "super") "__getattr__" else pure none) = pure none from rfl) ?_)
  refine wpAny_bind (wpAny_attempt (wpAny_holding ?_))
  show wpAny _ _ (bindSpecial (.builtin "super.__getattribute__") (.ref so) >>= _) _ _ _
  refine wpAny_bind (wpAny_of_eq (slotH.bind _) (wpAny_mono (Q := fun v s' => v = .ref h.objs.size ∧ s' = ⟨h.push (wrapV x), g, d, t + 1, os⟩) (E := fun _ _ => False)
    (wpAny_call_entry slotH (hT _) F.ks_entry_super_ga (super_gaV hso hno hC hl X hf hxC hn hin ⟨_, rfl, rfl, rfl⟩) (F.ks_gaArgs_super _ _)) (fun v s' hv => ?_) fun _ _ z => z.elim))
  obtain ⟨rfl, rfl⟩ := hv
  exact wpAny_pure (wpAny_pure hq)
end
section
open PySem.W PySem.Calls PyProof.Rows
variable {prog : Program} {w : World} {M : Model} {A : Around} {E : Value → Shared → Prop} {s : Shared}
theorem callWith_wrapV {pos : Pos} {u x : Addr} {first : List Value} {args : List (Bool × Sem Value)} {Q : Value → Shared → Prop} (hplain : args.any (·.1) = false)
    (h : wpAny M A (evalArgs (.ref u) true args []) (fun a s₁ => s₁.heap.get? u = some (wrapV x) ∧ wpAny M A (call (.ref u) (first ++ a.pos) a.kw) Q E s₁) E s) :
    wpAny M A (callWith pos (.ref u) first args []) Q E s := by
  unfold callWith
  refine wpAny_bind (wpAny_holding (wpAny_mono h (fun a s₁ ⟨ho, hcall⟩ => wpAny_bind (wpAny_standAt ?_)) fun _ _ x => x))
  simp only [hplain, List.any_nil, Bool.or_false]
  refine wpAny_bind (m := keeperOf (.ref u)) ?_
  unfold keeperOf
  refine wpAny_bind (wpAny_load ho ?_)
  have m1 : (Value.type "method-wrapper" != Value.type "method") = true := by decide
  have m2 : (Value.type "method-wrapper" == Value.type "builtin_function_or_method" || Value.type "method-wrapper" == Value.type "method-wrapper") = true := by decide
  simp only [wrapV, m1, m2, if_true]
  refine wpAny_pure (wpAny_bind (wpAny_mono hcall (fun r s₂ hr => wpAny_bind (wpAny_holding (wpAny_point (wpAny_pure hr)))) fun _ _ x => x))
end
section
variable {prog : Program} {w : World} {A : Around} {E : Value → Shared → Prop} {h : Heap} {g : Array GenState} {d : Drawn} {t : Nat} {os : OsState}
variable {nm q : Str} {C N : Addr} {bs bm : List Value} {hdct : Bool} {sn : List Str} {sub : List Value} {ab : Bool} {col : Option Bool} {dd : Option Addr} {k0 k1 k2 k3 k5 : Option Value}
/-- the wrapper called: its instance's args are set -/
theorem call_wrapV {u e t0 : Addr} {rest : List Value} {Q : Value → Shared → Prop}
    (hC : h.get? C = some (excClassObj nm q C N bs bm hdct sn sub ab col dd k0 k1 k2 k3 k5 "ValueError.__new__")) (he : h.get? e = some (HandSPX.excO C t0)) (hu : h.get? u = some (wrapV e)) (hrest : rest.length ≤ sizeLine)
    (hq : ∀ h' t1, (∀ b o, b ≠ e → h.get? b = some o → h'.get? b = some o) → h'.get? e = some (HandSPX.excO C t1) → Q .none ⟨h', g, d, t, os⟩) :
    wpAny (model prog w) A (call (.ref u) rest) Q E ⟨h, g, d, t, os⟩ := by
  refine wpAny_call (codeAny_of_tree ?_)
  show wpAny _ A.in1 (callAny (.ref u) ⟨rest, []⟩) _ _ _
  simp only [callAny]
  refine wpAny_bind (wpAny_load hu ?_)
  have m1 : (Value.type "method-wrapper" == Value.type "method" || Value.type "method-wrapper" == Value.type "builtin_function_or_method" || Value.type "method-wrapper" == Value.type "method-wrapper") = true := by decide
  simp only [wrapV, m1, if_true]
  refine W.KFB.if_so (by decide) ?_
  refine wpAny_bind (ESX.check_bound F.excBase_ValueError hC he rfl ?_)
  refine wpAny_bind (wpAny_pure (wpAny_pure ⟨Code.quiet_builtin _ (by decide +kernel), codeAny_builtin F.excBase_ValueError.initEntry ?_⟩))
  rw [Around.under_plainId F.excBase_ValueError.init.plain _]
  wp_walk
  refine hq _ h.objs.size (fun b o hb ho => (Heap.get?_update_other _ _ (Ne.symm hb)).trans (Heap.get?_push_of_some _ ho)) ?_
  exact (Heap.get?_update_self _ (Heap.get?_push_of_some _ he) rfl).trans rfl
end
end VEX
end PySem

set_option Elab.async false
set_option linter.all false
set_option maxRecDepth 100000
set_option maxHeartbeats 4000000
/-! VE2: try with several clauses «except C as n». -/
namespace VL
open PySem PySem.Spec PyProof.Rows L2
/-- the end of a suite takes its name away -/
def gone (i : Nat) (D : Ends) : Ends := { nx := fun σ H => D.nx (σ.set i none) H, rt := D.rt, bk := fun σ H => D.bk (σ.set i none) H, ct := fun σ H => D.ct (σ.set i none) H }
abbrev Cl := Value × Nat × (Addr → Value → Option Addr → TS)
/-- what the clauses wish of an exception of the body, one after the other -/
def wCls (K : Frag) (Wout : WX) (D : Ends) : List Cl → WX
  | [] => Wout
  | (c, i, ts) :: r => fun cls d σ H => ∃ b, PySem.W.exmOne K cls c = some b ∧ (b = true → ∀ a, H a = none → ts a cls d (gone i D) (σ.set i (some (.ref a))) H) ∧ (b = false → wCls K Wout D r cls d σ H)
inductive ClsOk (X : Cx) : List ExceptHandler → List Cl → Prop
  | nil : ClsOk X [] []
  | cons {x n : Str} {c : Value} {i : Nat} {ts : Addr → Value → Option Addr → TS} {b₀ : Stmt} {suite : List Stmt} {np pos' : Pos} {hds : List ExceptHandler} {l : List Cl} (hi : X.N[i]? = some n) (hln : X.env.kindOf n = some .local) (hc : Names X x c)
      (hsu : ∀ (a : Addr) (oe : Obj) (cls : Value) (d : Option Addr) (pn : List (Addr × Obj)), Zc cls d oe → (∃ vs, oe.data = .fields vs) → PSs (X.suite a ((a, oe) :: pn)) (b₀ :: suite) (ts a cls d)) (r : ClsOk X hds l) :
      ClsOk X (.ExceptHandler (some (.Name x np)) (some n) (b₀ :: suite) pos' :: hds) ((c, i, ts) :: l)
section
variable {X : Cx} {body : List Stmt} {h₀ : ExceptHandler} {hds : List ExceptHandler} {l : List Cl} {pos : Pos} {tb : WX → TS} {Wout : WX}
theorem ps_try_cls (hs : X.stack = X.env :: X.outer) (hf : X.env.frame = some X.env.locals) (hN : X.N.Nodup) (tk : Takes X Wout)
    (hb : ∀ (W : WX) (pn : List (Addr × Obj)) (xe : Value → Shared → Prop), Takes (X.tr pn xe) W → PassesOwn (model X.prog X.w) X.A X.env xe → PSs (X.tr pn xe) body (tb W)) (hh : ClsOk X (h₀ :: hds) l) :
    PS X (.Try body (h₀ :: hds) [] [] pos) (fun D σ H => tb (wCls X.K Wout D l) D σ H) := by
  refine ⟨fun pins s σ H D I h => wpAny_Try_except ?_⟩
  have ok := I.ok
  have hfr : X.A.frames = some (X.env :: X.outer) := by
    rw [ok.frames, hs]
  let xe' : Value → Shared → Prop := fun e s₁ => wpAny (model X.prog X.w) X.A (noteFrame e X.env) (fun _ s₂ => wpAny (model X.prog X.w) X.A (setFlight e none) (fun _ s₃ => wpAny (model X.prog X.w) X.A (handleBy e X.env (h₀ :: hds)) (SP X pins D) X.xe s₃) X.xe s₂) X.xe s₁
  refine wpAny_mono ((hb (wCls X.K Wout D l) (X.pn ++ pins) xe' (fun u s' xx => ?_) PassesOwn.looking).run [] s σ H D (I.toTry _) h) (fun f s1 hsp => ?_) (fun e s1 he => he)
  · obtain ⟨a, B, sI, pins', σ', H', cls, d, rfl, J', nb, up, sky, na, os, ag, w⟩ := xx
    have J : Inv X pins σ' H' sI := J'.ofTry ok
    rw [hs] at sky
    show wpAny (model X.prog X.w) X.A (noteFrame (.ref a) X.env) _ _ _
    refine Sky.land Zc.steady hfr hf sky fun h3 fl3 up3 => ?_
    have J3 : Inv X pins σ' H' { s' with heap := h3 } := J.landed nb fl3.1 (up.trans up3) os ag
    obtain ⟨oe3, vs3, he3, hz3, hd3⟩ := fl3.there
    have nfr : a ∉ frs (X.env :: X.outer) := fun hm => by
      obtain ⟨_, o', e', hnf⟩ := fl3.2.2.1.mem hm
      rw [he3] at e'
      cases e'
      exact hnf _ hd3
    have nL : a ≠ X.env.locals := fun z => nfr (List.mem_filterMap.mpr ⟨X.env, by simp, by rw [hf, z]⟩)
    have nF : a ∉ X.fs := fun hm => nfr (by
      obtain ⟨e, he, q⟩ := List.mem_filterMap.mp hm
      exact List.mem_filterMap.mpr ⟨e, List.mem_cons_of_mem _ he, q⟩)
    have S3 := J3.suite he3 hd3 na nL nF
    suffices go : ∀ {hds' : List ExceptHandler} {l' : List Cl}, ClsOk X hds' l' → wCls X.K Wout D l' cls d σ' H' → wpAny (model X.prog X.w) X.A (handleBy (.ref a) X.env hds') (SP X pins D) X.xe { s' with heap := h3 } from go hh w
    intro hds' l' hk
    induction hk with
    | nil =>
      intro w
      refine wpAny_handleBy_nil ?_
      obtain ⟨_, _, _, oe, vs, T, oT, ts', he, hz, hd, h1, hr⟩ := id fl3
      unfold PySem.passOn
      have fin : wpAny (model X.prog X.w) X.A (setFlight (.ref a) X.env.frame) (fun _ s4 => wpAny (model X.prog X.w) X.A (throw (.ref a) : Sem Flow) (SP X pins D) X.xe s4) X.xe { s' with heap := h3 } := by
        rw [hf]
        exact HandSPX.setFlight_upZ fl3 fun h4 hh4 up4 => wpAny_throw (tk _ _ ⟨a, B, sI, pins, σ', H', cls, d, rfl, J, nb, (up.trans up3).trans up4, .inr (.inr (by rw [hs]; exact hh4)), na, os, ag, w⟩)
      refine wpAny_bind (wpAny_field he hd h1 ?_)
      rw [if_neg (show ¬ ((Value.ref T == Value.none) = true) by simp)]
      first | exact wpAny_bind (wpAny_pure (wpAny_bind fin)) | exact wpAny_bind fin
    | @cons x n c i ts b₀ suite np pos' hds2 l2 hi hln hc hsu r ih =>
      rintro ⟨b, hb1, hyes, hno⟩
      refine wpAny_handleBy_cons (codeAny_handlers_test ?_) (by intro q; cases q)
      have LT : PySem.W.Looks (model X.prog X.w) h3 (typeOf (.ref a)) cls := fun A Q E s k q => wpAny_typeOf_ref (k _ _ he3) (by
        rw [hz3.1]; exact q)
      have LM := PySem.W.exm_one (M := model X.prog X.w) (J3.kIn) LT hb1
      have test : ∀ {Q E : Value → Shared → Prop}, Q c { s' with heap := h3 } → wpAny (model X.prog X.w) (X.A.mark (some (.ref a))) (eval (.Name x np) X.env) Q E { s' with heap := h3 } := fun {Q E} q => by
        obtain ⟨hg, hdbg, hm | ⟨hm, hv, hnn⟩⟩ := hc
        · exact ld_glob (X := X.suite a ((a, oe3) :: (X.pn ++ pins))) S3 hg hm q hdbg
        · exact ld_blt (X := X.suite a ((a, oe3) :: (X.pn ++ pins))) S3 hg hm hv q hnn hdbg
      refine test (LM.here ?_)
      cases b with
      | false => exact ih (hno rfl)
      | true =>
        refine codeAny_handlers_suite_as (HandSPX.lands_againZ fl3 fun h4 fl4 up4 => ?_)
        have J4 : Inv X pins σ' H' { s' with heap := h4 } := J.landed nb fl4.1 ((up.trans up3).trans up4) os ag
        obtain ⟨oe4, vs4, he4, hz4, hd4⟩ := fl4.there
        have S4 := J4.suite he4 hd4 na nL nF
        refine store_ok (X := X.suite a ((a, oe4) :: (X.pn ++ pins))) (v := .ref a) S4 hN hi (.inl hln) rfl (fun s5 S5 => ?_) (.inr hln)
        refine wpAny_mono ((hsu a oe4 cls d (X.pn ++ pins) hz4 ⟨_, hd4⟩).run [] s5 _ H' _ S5 (hyes rfl a na)) (fun f s6 hsp => ?_) (fun _ _ z => z.elim)
        have fini : ∀ {σ6 : S} {H6 : Hp} {Q : Shared → Prop}, Inv (X.suite a ((a, oe4) :: (X.pn ++ pins))) [] σ6 H6 s6 → (∀ s7, Inv X pins (σ6.set i none) H6 s7 → Q s7) →
            wpAny (model X.prog X.w) X.A (do bindName X.env n .none; unbindBehindTheSuite X.env n pos') (fun _ s7 => Q s7) X.xe s6 := fun S6 hq => gone_ok (S6.unsuite ok) hN hi hln hq
        cases f with
        | ret u => obtain ⟨v6, σ6, H6, S6, r6, q6⟩ := hsp; exact fini S6 fun s7 J7 => ⟨_, _, _, J7, r6, q6⟩
        | _ => obtain ⟨σ6, H6, S6, q6⟩ := hsp; exact fini S6 fun s7 J7 => ⟨_, _, J7, q6⟩
  · cases f with
    | next => obtain ⟨σ', H', J', q⟩ := hsp; exact wpAny_execs_nil ⟨σ', H', J'.ofTry ok, q⟩
    | ret u => obtain ⟨v, σ', H', J', r, q⟩ := hsp; exact ⟨v, σ', H', J'.ofTry ok, r, q⟩
    | _ => obtain ⟨σ', H', J', q⟩ := hsp; exact ⟨σ', H', J'.ofTry ok, q⟩
end
end VL

set_option Elab.async false
set_option linter.all false
set_option maxRecDepth 100000
set_option maxHeartbeats 4000000
/-! VE3: in a suite: isinstance(e, C) for a caught error that has fields. -/
namespace VL
open PySem PySem.Spec PyProof.Rows L2
/-- isinstance(e, c); e: the caught exception at a, of the class D, its dict at dd -/
def rIsD (K : Frag) (D a dd : Addr) : List V → Hp → VK → Prop := fun xs H Q => ∃ (c : V) (cv : Value) (b : Bool) (fs : List (Str × V)), xs = [.ref a, c] ∧ H dd = some (.xd fs) ∧ (∀ u, RelV c u → u = cv) ∧ PySem.W.kitOne K (.ref D) cv = some b ∧ Q (.bl b) H
theorem call_isD {X : Cx} {a D dd : Addr} {oe : Obj} {pn : List (Addr × Obj)} (C : ExcC X.K D) (hz : Zc (.ref D) (some dd) oe) (hf : ∃ vs, oe.data = .fields vs) : CallR (X.suite a ((a, oe) :: pn)) (.builtin "isinstance") (rIsD X.K D a dd) := by
  rintro pins s σ H xs us Q I r ⟨c, cv, b, fs, rfl, ed, hcv, e, q⟩
  match us, r with
  | [u1, u2], .cons rx (.cons rt .nil) =>
    obtain rfl : u1 = Value.ref a := rx
    obtain rfl := hcv _ rt
    have hget := (I.pin (a, oe) (List.mem_append_left _ List.mem_cons_self)).1
    obtain ⟨vs, hv⟩ := hf
    have hx : ObjOk X.prog X.w H s.heap dd (.xd fs) := I.hok dd _ ed
    obtain ⟨mA, hns, _⟩ := hx
    obtain ⟨od, ho, _⟩ := lookIn_ns hns
    have J : PySem.W.InstAt s.heap a oe D (some od) := ⟨hget, hz.1, by unfold PySem.W.notCls; rw [hv] <;> rfl, by rw [hz.2]; exact ho⟩
    have hcl : (PySem.W.clsIn X.K D).isSome = true := by
      obtain ⟨cd, hc, _⟩ := PySem.W.any_some C.hd
      rw [hc]; rfl
    exact PySem.W.kia_one (PySem.W.kitx_exc hcl C.hg C.hk C.hs C.ha C.hn C.ht C.hm) I.kIn J e (fun z => nomatch z) fun tk => ⟨.bl b, H, I.kept (t' := tk) fun _ _ z => z, rfl, q⟩
end VL

set_option Elab.async false
set_option linter.all false
set_option maxRecDepth 100000
set_option maxHeartbeats 4000000
/-! VE4: what a suite «except C as e» answers, when it answers by a row of plain values told of e. -/
namespace VL
open PySem PySem.Spec PyProof.Rows L2
/-- slot i holds the caught exception a; its dict, at dd, holds fs -/
def Hst (a dd : Addr) (i : Nat) (fs : List (Str × V)) (σ : S) (H : Hp) : Prop := σ[i]? = some (some (.ref a)) ∧ H dd = some (.xd fs)
/-- there e is v, and nothing else happens -/
def HE (X : Cx) (a dd : Addr) (i : Nat) (fs : List (Str × V)) (e : Expr) (v : V) : Prop := PE X e fun σ H Q => Hst a dd i fs σ H ∧ Q v H
def HA (X : Cx) (a dd : Addr) (i : Nat) (fs : List (Str × V)) (es : List Expr) (vs : List V) : Prop := PA X es fun σ H Q => Hst a dd i fs σ H ∧ Q vs H
section
variable {X : Cx} {a dd : Addr} {i : Nat} {fs : List (Str × V)} {e b : Expr} {es rest : List Expr} {v u : V} {vs : List V} {pos : Pos}
theorem he_k (h : PE X e (tC v)) : HE X a dd i fs e v := pe_mono h fun _ _ _ q => q.2
theorem he_var {n : Str} (hN : X.N[i]? = some n) (hv : Vis X.env.scope n) (hd : (n == ("__debug__" : Str)) = false := by decide) (hcd : (n == ("__classdict__" : Str)) = false := by decide) : HE X a dd i fs (.Name n pos) (.ref a) := pe_mono (pe_var hN hv hd hcd) fun _ _ _ q => ⟨_, q.1.1, q.2⟩
theorem he_not {c : Bool} (h : HE X a dd i fs e (.bl c)) : HE X a dd i fs (.UnaryOp .Not e pos) (.bl (!c)) := pe_mono (pe_not h) fun _ _ _ q => ⟨q.1, c, rfl, q.2⟩
theorem he_one {op} (h : HE X a dd i fs e v) : HE X a dd i fs (.BoolOp op [e] pos) v := pe_one h
theorem he_and {c c' : Bool} (h : HE X a dd i fs e (.bl c)) (h' : HE X a dd i fs (.BoolOp .And (b :: rest) pos) (.bl c')) : HE X a dd i fs (.BoolOp .And (e :: b :: rest) pos) (.bl (c && c')) := pe_mono (pe_and h h') fun σ H Q q => by
  refine ⟨q.1, c, rfl, ?_⟩
  cases c with
  | false => simpa using q.2
  | true => exact ⟨q.1, by simpa using q.2⟩
theorem ha_nil : HA X a dd i fs [] [] := pa_mono pa_nil fun _ _ _ q => q.2
theorem ha_cons (h : HE X a dd i fs e v) (r : HA X a dd i fs es vs) (hs : starEach (e :: es) X.env = (false, eval e X.env) :: starEach es X.env := by rfl) : HA X a dd i fs (e :: es) (v :: vs) := pa_mono (pa_cons h r hs) fun _ _ _ q => ⟨q.1, q.1, q.2⟩
/-- return (e, ..) -/
theorem hs_ret {x1 : Nat} {p2 : Pos} (h : HA X a dd i fs es vs) (hl : vs.length ≤ 1000) : PS X (.Return (some (.Tuple es x1 p2)) pos) fun D σ H => Hst a dd i fs σ H ∧ ∀ p, H p = none → D.rt (.ref p) (upd H p (.tup vs)) :=
  ps_mono (ps_ret (pe_tup h)) fun D σ H q => ⟨q.1, by rw [sizeLine_eq]; omega, q.2⟩
end
section
variable {X : Cx} {a dd C : Addr} {oe : Obj} {pn : List (Addr × Obj)} {i : Nat} {fs : List (Str × V)} {e b : Expr} {pos p : Pos}
/-- e.f -/
theorem he_fld {n : Str} {v : V} (T : XfC X.K C) (hno : PySem.W.findIn X.K (.ref C) n = some none) (hz : Zc (.ref C) (some dd) oe) (hf : ∃ vs, oe.data = .fields vs) (he : HE (X.suite a ((a, oe) :: pn)) a dd i fs e (.ref a)) (hl : fs.lookup n = some v)
    (hb : attributeBase e n X.env (eval e X.env) = eval e X.env := by rfl) : HE (X.suite a ((a, oe) :: pn)) a dd i fs (.Attribute e n pos) v :=
  pe_mono (pe_xf T hno hz hf he hb) fun _ _ _ q => ⟨q.1, rfl, rfl, dd, fs, v, rfl, q.1.2, hl, q.2⟩
/-- isinstance(e, c) -/
theorem he_isD {cv : V} {cu : Value} {k : Bool} (T : ExcC X.K C) (hz : Zc (.ref C) (some dd) oe) (hf : ∃ vs, oe.data = .fields vs) (hm : X.mg "isinstance" = none) (he : HE (X.suite a ((a, oe) :: pn)) a dd i fs e (.ref a)) (hc : PE (X.suite a ((a, oe) :: pn)) b (tC cv)) (hu : ∀ u, RelV cv u → u = cu)
    (hk : PySem.W.kitOne X.K (.ref C) cu = some k) (hg : Gl X "isinstance" := by rfl) (hs : starEach [e, b] X.env = (false, eval e X.env) :: starEach [b] X.env := by rfl) (hs2 : starEach [b] X.env = (false, eval b X.env) :: starEach [] X.env := by rfl)
    (hpl : (backTo pos (starEach [b] X.env)).any (·.1) = false := by rfl) : HE (X.suite a ((a, oe) :: pn)) a dd i fs (.Call (.Name "isinstance" p) [e, b] [] pos) (.bl k) :=
  pe_mono (pe_callB (X := X.suite a ((a, oe) :: pn)) (call_isD T hz hf) hg hm bt_isinstance (pa_cons he (pa_cons hc pa_nil hs2) hs) (by decide) (by decide) hs hpl) fun σ H Q q => ⟨q.1, cv, cu, k, fs, rfl, q.1.2, hu, hk, q.2⟩
end
end VL

set_option Elab.async false
set_option linter.all false
set_option maxRecDepth 100000
set_option maxHeartbeats 4000000
/-! VE5: try .. except C as e: return (..), as a combinator. -/
namespace VL
open PySem PySem.Spec PyProof.Rows L2
/-- a clause: its class, its name's slot, what it returns -/
structure HCl where
  cls : Str
  slot : Nat
  ret : Exn → Option (List D)
def hRun (sub : Str → Str → Option Bool) : List HCl → Exn → SC
  | [], x, ρ => .err x ρ
  | c :: r, x, ρ => match sub x.cls c.cls with
    | some true => match c.ret x with
      | some ds => if ds.all scal = true ∧ ds.length ≤ 1000 ∧ x.fs ≠ [] ∧ c.slot < ρ.length then .ret (.fz (.tuple ds)) else .stuck
      | none => .stuck
    | some false => hRun sub r x ρ
    | none => .stuck
def sTry (sub : Str → Str → Option Bool) (b : SC) (cl : List HCl) : SC := fun ρ => match b ρ with
  | .err x ρ' => hRun sub cl x ρ'
  | r => r
def FsR (fs : List (Str × V)) (gs : List (Str × D)) : Prop := ∀ f d, gs.lookup f = some d → scal d = true → fs.lookup f = some (vOf d)
theorem FsOk.fsR {K : Frag} {F : Hp} : ∀ {fs : List (Str × V)} {gs : List (Str × D)}, FsOk K F fs gs → FsR fs gs
  | [], _, .nil, _, _, h, _ => by cases h
  | p :: fs, q :: gs, .cons ⟨h1, h2⟩ r, f, d, h, s => by
    obtain ⟨n, v⟩ := p
    obtain ⟨m, g⟩ := q
    cases h1
    simp only [List.lookup_cons] at h ⊢
    cases e : f == n with
    | true =>
      rw [e] at h
      cases h
      have h3 : v = vOf d := Rp.scal_eq h2 s
      rw [h3]
    | false =>
      rw [e] at h
      exact FsOk.fsR r f d h s
/-- the suite returns what the clause says, for every exception that may come there -/
def tsOf (K : Frag) (mg : Str → Option Value) (sub : Str → Str → Option Bool) (c : HCl) (a : Addr) (cls : Value) (d : Option Addr) : TS := fun D σ H => ∃ (C dd : Addr) (fs : List (Str × V)) (x : Exn) (ds : List PyData),
  cls = .ref C ∧ mg x.cls = some (.ref C) ∧ d = some dd ∧ FsR fs x.fs ∧ sub x.cls c.cls = some true ∧ c.ret x = some ds ∧ ds.all scal = true ∧ ds.length ≤ 1000 ∧ Hst a dd c.slot fs σ H ∧ ∀ p, H p = none → D.rt (.ref p) (upd H p (.tup (ds.map vOf)))
def HClOk (X : Cx) (sub : Str → Str → Option Bool) (c : HCl) (suite : List Stmt) : Prop := ∀ (a dd C : Addr) (oe : Obj) (pn : List (Addr × Obj)) (x : Exn) (fs : List (Str × V)) (ds : List D), X.mg x.cls = some (.ref C) → Zc (.ref C) (some dd) oe → (∃ vs, oe.data = .fields vs) → FsR fs x.fs →
  sub x.cls c.cls = some true → c.ret x = some ds → ds.all scal = true → ds.length ≤ 1000 → PSs (X.suite a ((a, oe) :: pn)) suite fun D σ H => Hst a dd c.slot fs σ H ∧ ∀ p, H p = none → D.rt (.ref p) (upd H p (.tup (ds.map vOf)))
theorem hcl_ts {X : Cx} {sub : Str → Str → Option Bool} {c : HCl} {suite : List Stmt} (h : HClOk X sub c suite) (a : Addr) (oe : Obj) (cls : Value) (d : Option Addr) (pn : List (Addr × Obj)) (hz : Zc cls d oe) (hf : ∃ vs, oe.data = .fields vs) :
    PSs (X.suite a ((a, oe) :: pn)) suite (tsOf X.K X.mg sub c a cls d) := by
  refine ⟨fun pins s σ H D I q => ?_⟩
  obtain ⟨C, dd, fs, x, ds, rfl, q1, rfl, q2, q3, q4, q5, q6, q7⟩ := q
  exact (h a dd C oe pn x fs ds q1 hz hf q2 q3 q4 q5 q6).run pins s σ H D I q7
inductive HClsOk (X : Cx) (sub : Str → Str → Option Bool) : List ExceptHandler → List HCl → List Cl → Prop
  | nil : HClsOk X sub [] [] []
  | cons {x n : Str} {Cc : Addr} {c : HCl} {b₀ : Stmt} {suite : List Stmt} {np pos' : Pos} {hds : List ExceptHandler} {cl : List HCl} {l : List Cl} (hi : X.N[c.slot]? = some n) (hln : X.env.kindOf n = some .local) (hc : Names X x (.ref Cc))
      (hx : ∀ xc C k, sub xc c.cls = some k → X.mg xc = some (.ref C) → PySem.W.exmOne X.K (.ref C) (.ref Cc) = some k) (hsu : HClOk X sub c (b₀ :: suite)) (r : HClsOk X sub hds cl l) :
      HClsOk X sub (.ExceptHandler (some (.Name x np)) (some n) (b₀ :: suite) pos' :: hds) (c :: cl) ((.ref Cc, c.slot, tsOf X.K X.mg sub c) :: l)
theorem HClsOk.clsOk {X : Cx} {sub : Str → Str → Option Bool} : ∀ {hds : List ExceptHandler} {cl : List HCl} {l : List Cl}, HClsOk X sub hds cl l → ClsOk X hds l
  | _, _, _, .nil => .nil
  | _, _, _, .cons hi hln hc hx hsu r => .cons hi hln hc (fun a oe cls d pn hz hf => hcl_ts hsu a oe cls d pn hz hf) r.clsOk
section
variable {X : Cx} {sub : Str → Str → Option Bool} {W : WX} {D : Ends} {H0 F0 : Hp}
theorem hRun_ok {x : Exn} {cls : Value} {d : Option Addr} {σ : S} {H F : Hp} {ρ : Rho} (s : SR X.K H0 F0 σ H F ρ) (xo : XOk X.K X.mg F H cls d x) : ∀ {hds : List ExceptHandler} {cl : List HCl} {l : List Cl}, HClsOk X sub hds cl l → GoodS X.K X.mg H0 F0 W D (hRun sub cl x ρ) → wCls X.K W D l cls d σ H
  | _, _, _, .nil, g => g cls d σ H F s xo
  | _, c :: cl, _, .cons (Cc := Cc) hi hln hc hx hsu r, g => by
    obtain ⟨C, m1, rfl, fsx⟩ := id xo
    unfold hRun at g
    cases es : sub x.cls c.cls with
    | none => rw [es] at g; exact g.elim
    | some k =>
      rw [es] at g
      refine ⟨k, hx _ _ _ es m1, fun hk a ha => ?_, fun hk => ?_⟩
      · subst hk
        simp only at g
        cases er : c.ret x with
        | none => rw [er] at g; exact g.elim
        | some ds =>
          rw [er] at g
          simp only at g
          by_cases hcnd : ds.all scal = true ∧ ds.length ≤ 1000 ∧ x.fs ≠ [] ∧ c.slot < ρ.length
          · rw [if_pos hcnd] at g
            rcases fsx with z | ⟨dd, fs, rfl, hdd, hfs⟩
            · exact absurd z hcnd.2.2.1
            · refine ⟨C, dd, fs, x, ds, rfl, m1, rfl, hfs.fsR, es, er, hcnd.1, hcnd.2.1, ⟨?_, hdd⟩, fun p hp => ?_⟩
              · exact List.getElem?_set_self (by have := s.len; have := hcnd.2.2.2; omega)
              · have o : ORs X.K H F (ds.map vOf) (ds.map Ow.fz) [] := ORs.ofDp (RpAll.scal F hcnd.1)
                obtain ⟨F', C', g', oo, nn⟩ := fin_tup s o hp
                have mk : mkTup (ds.map Ow.fz) = .fz (.tuple ds) := by
                  unfold mkTup
                  rw [if_pos (by rw [List.all_map, List.all_eq_true]; intro _ _; rfl), toDs_fz]
                rw [mk] at oo
                refine g (.ref p) _ F' C' (s.gr.trans g') oo fun c hc => ?_
                rcases nn c hc with rfl | z
                · exact s.gr.hh.none hp
                · cases z
          · rw [if_neg hcnd] at g; exact g.elim
      · subst hk
        exact hRun_ok s xo r g
theorem sok_try {body : List Stmt} {b : SC} {h₀ : ExceptHandler} {hds : List ExceptHandler} {cl : List HCl} {l : List Cl} {pos : Pos} (hs : X.stack = X.env :: X.outer) (hf : X.env.frame = some X.env.locals) (hN : X.N.Nodup)
    (hb : ∀ (pn : List (Addr × Obj)) (xe : Value → Shared → Prop), PassesOwn (model X.prog X.w) X.A X.env xe → BOk (X.tr pn xe) body b) (hh : HClsOk X sub (h₀ :: hds) cl l) : SOk X (.Try body (h₀ :: hds) [] [] pos) (sTry sub b cl) := fun W tk =>
  ps_mono (ps_try_cls (tb := fun W' => rdS X.K X.mg b W') (Wout := W) hs hf hN tk (fun W' pn xe tk' hp => hb pn xe hp W' tk') hh.clsOk) fun D σ H ⟨H0, F0, F, ρ, s, h⟩ => by
    refine ⟨H0, F0, F, ρ, s, ?_⟩
    unfold sTry at h
    cases e : b ρ with
    | err x ρ' =>
      rw [e] at h
      exact fun cls d σ' H' F' s' xo => hRun_ok s' xo hh h
    | _ => rw [e] at h; exact h
end
end VL

set_option Elab.async false
set_option linter.all false
set_option maxRecDepth 100000
set_option maxHeartbeats 4000000
/-! VE6: raise C(e), where C's instances hold their one argument as a field. -/
namespace VL
open PySem PySem.Spec PyProof.Rows L2
def sRaise (x f : Str) (a : EC) : SC := fun ρ => match a ρ with
  | .ok rv => if scal rv.d = true then .err ⟨x, [(f, rv.d)]⟩ ρ else .stuck
  | .err z => .err z ρ
  | .stuck => .stuck
/-- what is wanted of the making of such an error (the call C(e)) -/
def Raiser (X : Cx) (x f : Str) (C : Addr) : Prop := ∃ R : V → Hp → XK → Prop, (∀ v H1 Q, (∀ dd, H1 dd = none → Q (.ref C) (some dd) (upd H1 dd (.xd [(f, v)]))) → R v H1 Q) ∧
  ∀ (e : Expr) (ta : TE) (p pos : Pos), PE X e ta → starEach [e] X.env = (false, eval e X.env) :: starEach [] X.env → (backTo pos (starEach [] X.env)).any (·.1) = false → PMk X (.Call (.Name x p) [e] [] pos) fun σ H Q => ta σ H fun v H1 => R v H1 Q
theorem sok_raise {X : Cx} {x f : Str} {C : Addr} {e : Expr} {ce : EC} {p pos pos' : Pos} (R : Raiser X x f C) (hm : X.mg x = some (.ref C)) (h : EOk X e ce) (hc : X.calm = true := by rfl) (he : starEach [e] X.env = (false, eval e X.env) :: starEach [] X.env := by rfl)
    (hpl : (backTo pos (starEach [] X.env)).any (·.1) = false := by rfl) : SOk X (.Raise (some (.Call (.Name x p) [e] [] pos)) none pos') (sRaise x f ce) := fun W tk => by
  obtain ⟨M, hM, R⟩ := R
  exact ps_mono (ps_raise hc tk (R e _ p pos (h W tk) he hpl)) fun D σ H ⟨H0, F0, F, ρ, s, h⟩ => by
    show rdE X.K X.mg ce W σ H fun v H1 => M v H1 fun cls d H' => W cls d σ H'
    unfold sRaise at h
    cases e1 : ce ρ with
    | stuck => rw [e1] at h; exact h.elim
    | err z => rw [e1] at h; exact rdE_err s e1 fun cls d H' F' g xo => h cls d σ H' F' (s.step g) xo
    | ok rv =>
      rw [e1] at h
      simp only at h
      refine rdE_ok s e1 fun v H1 F1 A g o n => hM v H1 _ fun dd hd => ?_
      by_cases hs : scal rv.d = true
      · rw [if_pos hs] at h
        have s1 := s.step g
        have pv := o.dp s1
        have ev := pv.scal_eq hs
        refine h (.ref C) (some dd) σ _ F1 (s1.step (Gr.laid s1.sub hd)) ⟨C, hm, rfl, .inr ⟨dd, [(f, v)], rfl, upd_same, .cons ⟨rfl, ?_⟩ .nil⟩⟩
        rw [ev]
        exact Rp.scal F1 hs
      · rw [if_neg hs] at h; exact h.elim
end VL

set_option Elab.async false
set_option linter.all false
set_option maxRecDepth 100000
set_option maxHeartbeats 4000000
/-! VE7: the making of an error, from the promise of its __init__. -/
namespace VL
open PySem PySem.Spec PyProof.Rows L2
/-- __init__(self, v): self's dict becomes {f: v} -/
def spI (C : Addr) (f : Str) : Sp := fun vs H Q _ => ∃ (a : Addr) (v : V), vs = [.ref a, v] ∧ H a = some (exo a C none) ∧ ∀ dx, H dx = none → dx ≠ a → Q .non (upd (upd H dx (exd dx [(f, v)])) a (exo a C (some dx)))
theorem raiser_of {X : Cx} {CX : CXT} {x f : Str} {C fI : Addr} {k : Nat} {fd : FuncData} {ps : List Str} (T : OexC X.K C) (iC : PySem.W.findIn X.K (.ref C) "__init__" = some (some (.ref fI))) (tI : PySem.W.typeIn X.K (.ref fI) = some (.type "function"))
    (F1 : FnOk X.prog X.w X.K X.mg X.base CX k fI fd ps (spI C f)) (hr : Room (k + 1) X.A) (hb : Binds X.K fd ps []) (hx : Passes CX X (fun _ _ _ => False)) (hg : Gl X x) (hm : X.mg x = some (.ref C)) (hdb : (x == ("__debug__" : Str)) = false := by decide) : Raiser X x f C := by
  refine ⟨fun v H1 Q => ([v] : List V).length ≤ 1000 ∧ ∀ a, H1 a = none → spI C f (.ref a :: ([v] ++ [])) (upd H1 a (exo a C none))
    (fun v H2 => v = .non ∧ ∃ (d : Addr) (fs : List (Str × V)), H2 a = some (exo a C (some d)) ∧ H2 d = some (exd d fs) ∧ H1 d = none ∧ Q (.ref C) (some d) (upd (del H2 a) d (.xd fs))) (fun _ _ _ => False), fun v H1 Q hv => ?_, fun e ta p pos he hs hpl => pmk_oex (pos := pos) (p := p) T iC tI F1 hr hb .nil hx hg hm (pa_cons he pa_nil hs) hdb hs hpl⟩
  refine ⟨by simp, fun a ha => ⟨a, v, rfl, upd_same, fun dx hdx hne => ?_⟩⟩
  have hd1 : H1 dx = none := by rw [upd_ne hne] at hdx; exact hdx
  refine ⟨rfl, dx, [(f, v)], upd_same, (upd_ne hne).trans upd_same, hd1, ?_⟩
  have e2 : upd (del (upd (upd (upd H1 a (exo a C none)) dx (exd dx [(f, v)])) a (exo a C (some dx))) a) dx (.xd [(f, v)]) = upd H1 dx (.xd [(f, v)]) := by
    funext b
    by_cases h1 : b = dx
    · subst h1; rw [upd_same, upd_same]
    · rw [upd_ne h1, upd_ne h1]
      by_cases h2 : b = a
      · subst h2; rw [del_same, ha]
      · rw [del_ne h2, upd_ne h2, upd_ne h1, upd_ne h2]
  rw [e2]
  exact hv dx hd1
end VL

set_option Elab.async false
set_option linter.all false
set_option maxRecDepth 100000
set_option maxHeartbeats 4000000
/-! VE8: an __init__ that says super().__init__(text) (it closes over __class__) and then sets fields: walked by hand. -/
namespace VL
open PySem PySem.Spec PyProof.Rows L2
/-- the context of such an __init__ -/
def cxI (P : Program) (w : World) (K : Frag) (mg : Str → Option Value) (base : Heap) (N : List Str) (qual : Str) (scope : Scope) (f : Addr) (cd : Value) (cc : Addr) (A : Around) (outer : List Env) (s : Shared) (H : Hp) : Cx where
  prog := P
  w := w
  K := K
  mg := mg
  base := base
  A := A.deeper (PySem.W.ksEnv qual scope s.heap.objs.size f cd cc)
  N := N
  s_0 := s
  H_0 := H
  env := PySem.W.ksEnv qual scope s.heap.objs.size f cd cc
  outer := outer
  stack := PySem.W.ksEnv qual scope s.heap.objs.size f cd cc :: outer
  ex := []
  calm := true
  fn := fun _ => false
  pn := []
  xe := fun _ _ => False
structure InScope (ps : List Str) (sc : Scope) : Prop where
  kind : sc.kind = .function
  co : sc.isCoroutine = false
  gen : sc.isGenerator = false
  nd : ps.Nodup
  ks : sc.names.lookup ("super" : Str) = some .globalImplicit
  kc : sc.names.lookup ("__class__" : Str) = some .free
  par : ∀ x ∈ ps, sc.names.lookup x = some .local
  nocell : ∀ y ∈ sc.names, y.2 ≠ .cell
  free : ∀ y ∈ sc.names, y.2 = .free → y.1 = ("__class__" : Str)
theorem lookup_notin {x : Str} : ∀ {l : List (Str × Value)}, x ∉ l.map Prod.fst → l.lookup x = none
  | [], _ => rfl
  | (n, v) :: r, h => by
    have h1 : x ≠ n := fun e => h (by rw [e]; exact List.mem_cons_self)
    have e : (x == n) = false := by simpa using h1
    rw [List.lookup_cons, e]
    exact lookup_notin fun z => h (List.mem_cons_of_mem _ z)
theorem lookup_rev {x : Str} {u : Value} : ∀ {ps : List Str} {us : List Value} {i : Nat}, ps.Nodup → ps[i]? = some x → us[i]? = some u → (ps.zip us).reverse.lookup x = some u
  | [], _, _, _, h, _ => by simp at h
  | _ :: _, [], _, _, _, h => by simp at h
  | p :: ps, v :: us, 0, nd, h1, h2 => by
    simp at h1 h2; subst h1; subst h2
    rw [List.zip_cons_cons, List.reverse_cons, List.lookup_append]
    have : (ps.zip us).reverse.lookup p = none := lookup_notin fun z => by
      rw [List.map_reverse, List.mem_reverse, List.mem_map] at z
      obtain ⟨⟨a, b⟩, hm, e⟩ := z
      cases e
      exact (List.nodup_cons.mp nd).1 (List.of_mem_zip hm).1
    rw [this]
    simp
  | p :: ps, v :: us, i + 1, nd, h1, h2 => by
    rw [List.zip_cons_cons, List.reverse_cons, List.lookup_append, lookup_rev (i := i) (List.nodup_cons.mp nd).2 (by simpa using h1) (by simpa using h2)]
    rfl
section
variable {P : Program} {w : World} {K : Frag} {mg : Str → Option Value} {base : Heap} {ps : List Str} {qual : Str} {scope : Scope} {f cc C : Addr} {cd : Value} {A : Around} {outer : List Env} {s : Shared} {H : Hp}
theorem inv_startI {us : List Value} {vs : List V} {cl : Value} {cld : Option Addr} {csl : Array (Option Value)} {h1 : Heap} {tk : Nat} (S : InScope ps scope) (hd : A.handled = none) (e0 : Env0 P w K mg base A outer s H)
    (hcell : K.lookup cc = some ⟨cl, cld, .cell (some (.ref C)), csl⟩) (hl : vs.length = ps.length) (r : Vals vs us) (hns : h1.Ns s.heap.objs.size (fun x => (ps.zip us).reverse.lookup x)) (hk : ∀ b o, s.heap.get? b = some o → h1.get? b = some o) :
    Inv (cxI P w K mg base ps qual scope f cd cc A outer s H) [] (vs.map some) H { s with heap := h1, toks := tk } := by
  have noA : ∀ b : Addr, b ∉ (cxI P w K mg base ps qual scope f cd cc A outer s H).ex := fun b z => absurd (show b ∈ ([] : List Addr) from z) (by simp)
  have bc : base.get? cc = some ⟨cl, cld, .cell (some (.ref C)), csl⟩ := e0.mod.kin _ _ hcell
  have sc := (e0.bs _ _ bc).1
  have cell : ∀ (y : Str) (c : Addr), (cxI P w K mg base ps qual scope f cd cc A outer s H).env.cells.lookup y = some c → y = ("__class__" : Str) ∧ c = cc := fun y c e => by
    have e : ([("__class__", cc)] : List (Str × Addr)).lookup y = some c := e
    rw [List.lookup_cons] at e
    split at e
    · rename_i q
      cases e
      exact ⟨by simpa using q, rfl⟩
    · cases e
  refine ⟨⟨e0.mod, S.kind, rfl, rfl, Nat.le_refl _, fun y z c h1 h2 => (cell y c h1).1.trans (cell z c h2).1.symm, fun y hy => ?_, fun y c h _ => absurd h Bool.false_ne_true, fun _ => hd, Around.frames_deeper e0.frames, .inr ⟨rfl, rfl⟩, fun b z => absurd z (noA b), e0.bs, e0.bsz, fun b _ _ => noA b, fun b z => absurd z (noA b), e0.funs, e0.frf⟩,
    rfl, e0.bare, Un.kept hk, ⟨_, hns, fun i y v h1 h2 h3 => ?_⟩, fun y c h => ?_, e0.hok.fresh (Nat.le_refl _), fun y c h => ?_, fun p hp => absurd (show p ∈ ([] : List (Addr × Obj)) from hp) (by simp), e0.hok.kept hk, ?_⟩
  · have hy : scope.names.lookup y = some .cell ∨ scope.names.lookup y = some .free := hy
    rcases hy with hy | hy
    · exact absurd rfl (S.nocell _ (PySem.mem_of_lookup hy))
    · have e := S.free _ (PySem.mem_of_lookup hy) rfl
      have e : y = "__class__" := e
      subst e
      exact ⟨cc, rfl⟩
  · have h1 : ps[i]? = some y := h1
    have h2' : vs[i]? = some v := by
      rw [List.getElem?_map] at h2
      cases e : vs[i]? with
      | none => rw [e] at h2; cases h2
      | some a => rw [e] at h2; cases h2; rfl
    obtain ⟨u, hu, rv⟩ := r.get h2'
    exact ⟨u, rv, .inl ⟨S.par y (List.mem_of_getElem? h1), lookup_rev S.nd h1 hu⟩⟩
  · obtain ⟨rfl, rfl⟩ := cell y c h
    exact ⟨_, _, hk _ _ sc, rfl⟩
  · obtain ⟨rfl, rfl⟩ := cell y c h
    exact (e0.bs _ _ bc).2
  · show (vs.map some).length = ps.length
    rw [List.length_map]; exact hl
end
/-- what the written part says of such an __init__: f, of the class C -/
structure IniC (P : Program) (K : Frag) (C f : Addr) (fd : FuncData) (qual : Str) (st : Stmt) : Prop where
  ex : ∃ (oc : Value) (od : Option Addr) (kV doc pm ct : Value) (an : Option Addr) (cda cc : Addr) (osl : Array (Option Value)) (ccl : Value) (cdd : Option Addr) (vs : Array Value) (ccs : Array (Option Value)) (file : Str) (tf : Tok) (cl : Value) (cld : Option Addr) (csl : Array (Option Value)),
    fd = PySem.W.ksFn "__init__" qual (defArgs st) (defBody st) (defScope st) .none kV doc pm an (.ref cda) ct cc ∧ K.lookup f = some ⟨oc, od, .func fd, osl⟩ ∧ PySem.W.codeIn K (.ref cda) qual = true ∧
    K.lookup cda = some ⟨ccl, cdd, .fields vs, ccs⟩ ∧ vs[2]? = some (.str file tf) ∧ ((P.main.file : Str) == file) = true ∧ K.lookup cc = some ⟨cl, cld, .cell (some (.ref C)), csl⟩
  op : PySem.W.nsIn K PySem.cStatics "thirdparty.any" = some none
  ms : PySem.W.ks_superIn K C C "__init__" = some (some (.builtin "ValueError.__init__"))
  top : (P.main.scope.names.lookup ("super" : Str)).isSome = false
/-- how the call super().__init__(text) is run there: by rfl for a text at hand -/
def SupEv (qual : Str) (scope : Scope) (txt : Str) (j : Nat) (p0 p1 p2 p3 p4 : Pos) : Prop := ∀ (L f : Addr) (cd : Value) (cc : Addr), ∃ pl : Sem Bool, eval (.Call (.Attribute (.Call (.Name "super" p0) [] [] p1) "__init__" p2) [.Constant (.str txt) j p3] [] p4) (PySem.W.ksEnv qual scope L f cd cc) = (do
  let ov ← attributeBase (.Call (.Name "super" p0) [] [] p1) "__init__" (PySem.W.ksEnv qual scope L f cd cc) (eval (.Call (.Name "super" p0) [] [] p1) (PySem.W.ksEnv qual scope L f cd cc))
  standAt p2.atName
  let (f', first) ← holding [ov] (getMethod ov "__init__" pl)
  callWith p4 f' first (backTo p4 (starEach [.Constant (.str txt) j p3] (PySem.W.ksEnv qual scope L f cd cc))) [])
section
open PySem.W
variable {P : Program} {w : World} {K : Frag} {mg : Str → Option Value} {base : Heap} {ps : List Str} {qual : Str} {params : Arguments} {body : List Stmt} {scope : Scope} {f cc C cda : Addr} {A : Around} {outer : List Env} {s s1 : Shared} {H H1 : Hp} {σ : L2.St} {pins : List (Addr × Obj)}
theorem super_step {a : Addr} {ar : Arg} {oc ccl cl kV doc pm ct : Value} {od an cdd cld : Option Addr} {osl ccs csl : Array (Option Value)} {vs : Array Value} {file : Str} {tf : Tok} {txt : Str} {j : Nat} {p0 p1 p2 p3 p4 p5 : Pos} {E : Value → Shared → Prop}
    (hev : SupEv qual scope txt j p0 p1 p2 p3 p4) (S : InScope ps scope) (T : OexC K C) (hmg : mg "super" = none) (hlk : K.lookup f = some ⟨oc, od, .func (ksFn "__init__" qual params body scope .none kV doc pm an (.ref cda) ct cc), osl⟩) (hp : (params.posonlyargs ++ params.args).head? = some ar) (hps : ps[0]? = some ar.arg)
    (hcode : K.lookup cda = some ⟨ccl, cdd, .fields vs, ccs⟩) (hvs : vs[2]? = some (.str file tf)) (hfile : ((P.main.file : Str) == file) = true) (hcell : K.lookup cc = some ⟨cl, cld, .cell (some (.ref C)), csl⟩) (hop : nsIn K cStatics "thirdparty.any" = some none)
    (hms : ks_superIn K C C "__init__" = some (some (.builtin "ValueError.__init__"))) (htop : (P.main.scope.names.lookup ("super" : Str)).isSome = false)
    (I : Inv (cxI P w K mg base ps qual scope f (.ref cda) cc A outer s H) pins σ H1 s1) (ea : H1 a = some (exo a C none)) (hσ : σ[0]? = some (some (.ref a))) :
    _root_.PySem.wpAt (model P w) (A.deeper (ksEnv qual scope s.heap.objs.size f (.ref cda) cc)) (.func body (ksEnv qual scope s.heap.objs.size f (.ref cda) cc))
      (exec (.Expr (.Call (.Attribute (.Call (.Name "super" p0) [] [] p1) "__init__" p2) [.Constant (.str txt) j p3] [] p4) p5) (ksEnv qual scope s.heap.objs.size f (.ref cda) cc))
      (fun fl s' => fl = .next ∧ Inv (cxI P w K mg base ps qual scope f (.ref cda) cc A outer s H) pins σ H1 s') E s1 := by
  obtain ⟨nm, q, N, bs, bm, sn, sub, ab, col, dd, k0, k1, k2, k3, k5, hC, hbm⟩ := T.cls
  obtain ⟨t1, ho⟩ := exo_at I.hok ea
  have hcl : clsIn K C = some { name := nm, bases := bs, mro := .ref C :: bm, ns := N, qualname := q, hasDict := true, slotNames := sn, subclasses := sub, abstract := ab, collection := col, hasDel := false } := by unfold clsIn; rw [hC] <;> rfl
  have hsub : mroIn K C (.ref C) = some true := by
    unfold mroIn
    rw [hcl, Option.bind_some, if_neg (by simp), List.contains_cons]
    simp
  have hve : mroIn K C (.type "ValueError") = some true := by
    unfold mroIn
    have h1 : (Value.ref C :: bm).contains (.type "ValueError") = true := (PySem.HandSPX.refsVE_contains "ValueError" (Value.ref C :: bm) (show PySem.HandSPX.refsVE (.ref C :: bm) = true from hbm)).trans (by decide +kernel)
    rw [hcl, Option.bind_some, if_neg (by simp)]
    exact congrArg some h1
  obtain ⟨h, g, d, t, os⟩ := s1
  have X : K.In h := I.kIn
  have KC := X _ _ hC
  obtain ⟨mb, hb1, hb2⟩ := I.mod.blt
  obtain ⟨m, hm1, hm2⟩ := id I.loc
  have hself : m ar.arg = some (.ref a) := by
    obtain ⟨u, ru, lk⟩ := hm2 0 ar.arg (.ref a) hps hσ (.inl (S.par _ (List.mem_of_getElem? hps)))
    obtain rfl : u = Value.ref a := ru
    rcases lk with ⟨_, e⟩ | ⟨k, _⟩
    · exact e
    · have e : scope.names.lookup ar.arg = some .cell ∨ scope.names.lookup ar.arg = some .free := k
      rw [S.par _ (List.mem_of_getElem? hps)] at e
      rcases e with e | e <;> cases e
  have Ia : InstAt h a { cls := .ref C, dict := none, data := .fields #[.ref t1, .none, .none, .none, .bool false, .none] } C none := ⟨ho, rfl, rfl, trivial⟩
  have hne : a ≠ C := ks_ne X Ia hcl
  refine ks_wpAt_Expr_any ?_ (hi := I.quiet)
  obtain ⟨pl, he⟩ := hev s.heap.objs.size f (.ref cda) cc
  refine ks_wpAt_MethodCall (pl := pl) ?_ (he := he)
  refine ks_wpAt_super_base (env := ksEnv qual scope s.heap.objs.size f (.ref cda) cc) S.ks S.kc (by decide) rfl (X _ _ hlk) rfl hp rfl (X _ _ hcode) rfl hvs hfile htop ?_
  refine ks_loadName_global S.kind S.ks (PySem.Calls.loadGlobal_builtin (env := ksEnv qual scope s.heap.objs.size f (.ref cda) cc) (I.mod.glob.keeps I.bk) hmg (hb1.keeps I.bk) ((hb2 _ (by decide +kernel)).trans (by first | rfl | kernel_rfl)) ⟨rfl, ?_⟩)
  refine wpAny_loadName_free S.kind S.kc rfl ⟨_, X _ _ hcell, rfl⟩ ?_
  refine wpAny_loadName_local S.kind (S.par _ (List.mem_of_getElem? hps)) hm1 hself ?_
  refine ks_wpAny_isType_cls KC rfl ⟨rfl, ?_⟩
  refine ks_wpAny_call_super KC rfl ho rfl (fun c e => by cases e) (looks_mroIn X hsub) (fun h2 e2 k2 => ?_)
  have X2 : K.In h2 := X.keeps k2
  have Ia2 : InstAt h2 a { cls := .ref C, dict := none, data := .fields #[.ref t1, .none, .none, .none, .bool false, .none] } C none := ⟨k2 _ _ ho, rfl, rfl, trivial⟩
  have hm3 : alongIn K "__init__" (((Value.ref C :: bm).dropWhile (· != .ref C)).drop 1) = some (some (.builtin "ValueError.__init__")) := by
    unfold ks_superIn at hms
    rw [hcl, Option.bind_some] at hms
    exact hms
  refine PySem.VEX.getMethod_supV (l₀ := .ref C :: bm) e2 (looks_opaque X2 hop) (fun A Q E s k q => wpAny_bind ((looks_clsIn X2 hcl) A _ E s k (wpAny_pure q))) rfl X2 hm3 hne (by decide) (Ia2.type.andThen (looks_mroIn X2 hve)) ?_
  let h3 := h2.push (PySem.VEX.wrapV a)
  have k3 : ∀ b o, h2.get? b = some o → h3.get? b = some o := fun b o e => Heap.get?_push_of_some _ e
  have hu3 : h3.get? h2.objs.size = some (PySem.VEX.wrapV a) := Heap.get?_push_at rfl rfl
  show wpAny _ _ (callWith p4 (.ref h2.objs.size) [] (backTo p4 (starEach [.Constant (.str txt) j p3] _)) []) _ _ _
  have hst : backTo p4 (starEach [(.Constant (.str txt) j p3 : Expr)] (ksEnv qual scope s.heap.objs.size f (.ref cda) cc)) = [(false, eval (.Constant (.str txt) j p3) (ksEnv qual scope s.heap.objs.size f (.ref cda) cc))] := rfl
  rw [hst]
  refine PySem.VEX.callWith_wrapV rfl (PySem.Calls.evalArgs_plain (PySem.Calls.spliced_cons (PySem.Calls.Constant_str (PySem.Calls.spliced_nil ⟨hu3, ?_⟩))))
  refine PySem.VEX.call_wrapV (k3 _ _ (k2 _ _ KC)) (k3 _ _ (k2 _ _ ho)) hu3 (by show 1 ≤ sizeLine; rw [sizeLine_eq]; decide) fun h4 t4 k4 e4 => ?_
  refine ⟨rfl, ?_⟩
  have J := I.write (h' := h4) (t' := t + 1 + 1) (x := a) (e := a) (o := exo a C none) (by rw [ea]; exact True.intro) (.inl rfl) (fun b o hb q => k4 b o hb (k3 _ _ (k2 _ _ q))) ⟨_, e4⟩ (exo_ok e4)
  have eu : upd H1 a (exo a C none) = H1 := by
    funext b
    by_cases hb : b = a
    · rw [hb, upd_same, ea]
    · rw [upd_ne hb]
  rw [eu] at J
  exact J
end
end VL

set_option Elab.async false
set_option linter.all false
set_option maxRecDepth 100000
set_option maxHeartbeats 4000000
/-! VE9: the promise of such an __init__ (one parameter, two); the classes of errors, ready to be raised. -/
namespace VL
open PySem PySem.Spec PyProof.Rows L2
section
open PySem.W
variable {P : Program} {w : World} {K : Frag} {mg : Str → Option Value} {base : Heap} {ps : List Str} {qual : Str} {st : Stmt} {f C : Addr} {fd : FuncData}
theorem fnok_init {sp : Sp} {self : Str} {rest : List Stmt} {txt : Str} {j : Nat} {p0 p1 p2 p3 p4 p5 : Pos} {k : Nat} (hev : SupEv qual (defScope st) txt j p0 p1 p2 p3 p4) (S : InScope ps (defScope st)) (T : OexC K C) (F : IniC P K C f fd qual st) (hmg : mg "super" = none)
    (hbody : defBody st = .Expr (.Call (.Attribute (.Call (.Name "super" p0) [] [] p1) "__init__" p2) [.Constant (.str txt) j p3] [] p4) p5 :: rest) (hp : ((defArgs st).posonlyargs ++ (defArgs st).args).head?.map (·.arg) = some self) (hps : ps[0]? = some self)
    (len : ∀ vs H Q E, sp vs H Q E → vs.length = ps.length) (hsp : ∀ vs H Q E, sp vs H Q E → ∃ a, vs[0]? = some (.ref a) ∧ H a = some (exo a C none))
    (hrest : ∀ (X : Cx) (vs : List V) (H : Hp) (Q : VK) (E : XK), X.K = K → X.N = ps → X.env.scope = defScope st → sp vs H Q E → ∃ t, PSs X rest t ∧ t { nx := fun _ H' => Q .non H', rt := Q } (vs.map some) H) :
    FnOk P w K mg base CX0 k f fd ps sp := by
  obtain ⟨oc, od, kV, doc, pm, ct, an, cda, cc, osl, ccl, cdd, vsc, ccs, file, tf, cl, cld, csl, rfl, lk, hcd, hcode, hvs, hfile, hcell⟩ := F.ex
  refine ⟨len, fun A outer s H args us vs Q E hr e0 hb r hs => ?_⟩
  have hl := len _ _ _ _ hs
  obtain ⟨a, h0, ea⟩ := hsp _ _ _ _ hs
  have KX : K.In s.heap := e0.mod.kin.keeps fun b o e => (e0.bs b o e).1
  have lim : s.heap.NoLimit := e0.mod.nolimit.keeps fun b o e => (e0.bs b o e).1
  cases ha : ((defArgs st).posonlyargs ++ (defArgs st).args).head? with
  | none => rw [ha] at hp; cases hp
  | some ar =>
    rw [ha] at hp
    obtain rfl : ar.arg = self := Option.some.inj hp
    refine ks_codeAny_call_defAt (fd := ksFn "__init__" qual (defArgs st) (defBody st) (defScope st) .none kV doc pm an (.ref cda) ct cc) (body := defBody st) (binds := ps.zip us) hr.depth (KX _ _ lk) rfl lim (codeRec_of KX hcd) rfl hb S.nocell
      (fun y hy => S.par _ (List.of_mem_zip (show (y.1, y.2) ∈ ps.zip us from hy)).1) (fun h₀ hns hk => ?_) S.co S.gen S.kind
    have I := inv_startI (P := P) (w := w) (mg := mg) (base := base) (qual := qual) (f := f) (cd := .ref cda) (A := A) (outer := outer) (C := C) (h1 := h₀) (tk := s.toks + (ps.zip us).length) S hr.hd e0 hcell hl r hns hk
    obtain ⟨t, ht, q⟩ := hrest (cxI P w K mg base ps qual (defScope st) f (.ref cda) cc A outer s H) vs H Q E rfl rfl rfl hs
    have key : _root_.PySem.wpAt (model P w) (A.deeper (ksEnv qual (defScope st) s.heap.objs.size f (.ref cda) cc)) (.func (defBody st) (ksEnv qual (defScope st) s.heap.objs.size f (.ref cda) cc)) (execs (defBody st) (ksEnv qual (defScope st) s.heap.objs.size f (.ref cda) cc))
        (SP (cxI P w K mg base ps qual (defScope st) f (.ref cda) cc A outer s H) [] { nx := fun _ H' => Q .non H', rt := Q }) (fun _ _ => False) { s with heap := h₀, toks := s.toks + (ps.zip us).length } := by
      have hb2 : execs (defBody st) (ksEnv qual (defScope st) s.heap.objs.size f (.ref cda) cc) = execs (.Expr (.Call (.Attribute (.Call (.Name "super" p0) [] [] p1) "__init__" p2) [.Constant (.str txt) j p3] [] p4) p5 :: rest) (ksEnv qual (defScope st) s.heap.objs.size f (.ref cda) cc) := by rw [hbody]
      rw [hb2]
      refine ks_wpAt_execs_cons (ks_wpAt_mono (super_step (ps := ps) hev S T hmg lk ha hps hcode hvs hfile hcell F.op F.ms F.top I ea (by rw [List.getElem?_map, h0]; rfl)) (fun fl s' hj => ?_) fun _ _ x => x)
      obtain ⟨rfl, J⟩ := hj
      exact PySem.wpAt_of_wpAny (ht.run [] s' _ H _ J q)
    refine ks_wpAt_mono key (fun fl s' hs => ?_) fun _ _ x => x.elim
    have fin : ∀ {σ' : L2.St} {H' : Hp} {v : V} {u : Value}, Inv (cxI P w K mg base ps qual (defScope st) f (.ref cda) cc A outer s H) [] σ' H' s' → RelV v u → Q v H' → CE outer P w H s Q u s' :=
      fun {σ' H' v u} J rv q => ⟨v, H', J.os, J.bare, J.base, J.hok, rv, q⟩
    cases fl with
    | ret u =>
      obtain ⟨v, σ', H', J, rv, q⟩ := hs
      exact fin J rv q
    | next =>
      obtain ⟨σ', H', J, q⟩ := hs
      exact fin (v := V.non) (u := Value.none) J rfl q
    | brk =>
      obtain ⟨_, _, _, q⟩ := hs
      exact False.elim q
    | cont =>
      obtain ⟨_, _, _, q⟩ := hs
      exact False.elim q
/-- one parameter: self.fld = v -/
theorem fnok_init1 {self v fld txt : Str} {j k : Nat} {p0 p1 p2 p3 p4 p5 q1 q2 q3 q4 : Pos} (hev : SupEv qual (defScope st) txt j p0 p1 p2 p3 p4) (S : InScope [self, v] (defScope st)) (T : OexC K C) (F : IniC P K C f fd qual st) (hmg : mg "super" = none) (hno : findIn K (.ref C) fld = some none)
    (hbody : defBody st = [.Expr (.Call (.Attribute (.Call (.Name "super" p0) [] [] p1) "__init__" p2) [.Constant (.str txt) j p3] [] p4) p5, .Assign [.Attribute (.Name self q1) fld q2] (.Name v q3) q4])
    (hp : ((defArgs st).posonlyargs ++ (defArgs st).args).head?.map (·.arg) = some self) (hd1 : (self == ("__debug__" : Str)) = false := by decide) (hd2 : (self == ("__classdict__" : Str)) = false := by decide) (hd3 : (v == ("__debug__" : Str)) = false := by decide) (hd4 : (v == ("__classdict__" : Str)) = false := by decide) :
    FnOk P w K mg base CX0 k f fd [self, v] (spI C fld) :=
  fnok_init hev S T F hmg hbody hp rfl (fun vs H Q E ⟨a, u, e, _⟩ => by rw [e]; rfl) (fun vs H Q E ⟨a, u, e, h, _⟩ => ⟨a, by rw [e]; rfl, h⟩) fun X vs H Q E e1 e2 e3 ⟨a, u, e, h, q⟩ => by
    subst e1; subst e
    exact ⟨_, pss_one (ps_ost (pe_var (i := 0) (by rw [e2]; rfl) (.inl (by rw [e3]; exact S.par _ (by simp))) hd1 hd2) (pe_var (i := 1) (by rw [e2]; rfl) (.inl (by rw [e3]; exact S.par _ (by simp))) hd3 hd4)), u, rfl, .ref a, rfl, a, C, rfl, T, hno, .inl ⟨h, q⟩⟩
end
/-- a class of errors, ready to be raised: C(e), e kept as the field fld -/
def Rz (P : Program) (w : World) (K : Frag) (mg : Str → Option Value) (base : Heap) (x fld : Str) : Prop := ∃ (C fI : Addr) (fd : FuncData) (ps : List Str), OexC K C ∧ PySem.W.findIn K (.ref C) "__init__" = some (some (.ref fI)) ∧ PySem.W.typeIn K (.ref fI) = some (.type "function") ∧
  FnOk P w K mg base CX0 0 fI fd ps (spI C fld) ∧ Binds K fd ps [] ∧ mg x = some (.ref C)
theorem Rz.raise {X : Cx} {x fld : Str} {k : Nat} {e : Expr} {ce : EC} {p pos pos' : Pos} (R : Rz X.prog X.w X.K X.mg X.base x fld) (hr : Room k X.A) (h : EOk X e ce) (hk : 1 ≤ k := by decide) (hg : Gl X x := by rfl) (hdb : (x == ("__debug__" : Str)) = false := by decide) (hc : X.calm = true := by rfl)
    (he : starEach [e] X.env = (false, eval e X.env) :: starEach [] X.env := by rfl) (hpl : (backTo pos (starEach [] X.env)).any (·.1) = false := by rfl) : SOk X (.Raise (some (.Call (.Name x p) [e] [] pos)) none pos') (sRaise x fld ce) := by
  obtain ⟨C, fI, fd, ps, T, iC, tI, F, hb, hm⟩ := R
  exact sok_raise (raiser_of T iC tI F (hr.mono hk) hb pass0 hg hm hdb) hm h hc he hpl
end VL

set_option Elab.async false
set_option linter.all false
set_option maxRecDepth 100000
set_option maxHeartbeats 4000000
/-! VE10: the clauses of a try: what they tell of the caught exception, as a small language; try as a combinator. -/
namespace VL
open PySem PySem.Spec PyProof.Rows L2
/-- in a clause: the plain values of some slots -/
abbrev Tau := List (Nat × D)
def Hs2 (a dd : Addr) (i : Nat) (fs : List (Str × V)) (τ : Tau) (σ : S) (H : Hp) : Prop := Hst a dd i fs σ H ∧ ∀ j d, (j, d) ∈ τ → σ[j]? = some (some (vOf d))
abbrev HC := Exn → Tau → Option D
def tHC (a dd : Addr) (i : Nat) (fs : List (Str × V)) (x : Exn) (c : HC) : TE := fun σ H Q => ∃ τ d, c x τ = some d ∧ scal d = true ∧ Hs2 a dd i fs τ σ H ∧ ∀ H', Sub H H' → Q (vOf d) H'
theorem Hs2.sub {a dd : Addr} {i : Nat} {fs : List (Str × V)} {τ : Tau} {σ : S} {H H' : Hp} (h : Hs2 a dd i fs τ σ H) (k : Sub H H') : Hs2 a dd i fs τ σ H' := ⟨⟨h.1.1, k _ _ h.1.2⟩, h.2⟩
structure HCx (X : Cx) (a dd C : Addr) (oe : Obj) (x : Exn) (fs : List (Str × V)) : Prop where
  m : X.mg x.cls = some (.ref C)
  z : Zc (.ref C) (some dd) oe
  f : ∃ vs, oe.data = .fields vs
  r : FsR fs x.fs
def HEOk (X : Cx) (i : Nat) (e : Expr) (c : HC) : Prop := ∀ (a dd C : Addr) (oe : Obj) (pn : List (Addr × Obj)) (x : Exn) (fs : List (Str × V)), HCx X a dd C oe x fs → PE (X.suite a ((a, oe) :: pn)) e (tHC a dd i fs x c)
/-- a class by its name: an own one, a built-in one -/
def NameU (mg : Str → Option Value) (y : Str) (u : Value) : Prop := mg y = some u ∨ (mg y = none ∧ bootBuiltins y = some u ∧ y ≠ "__name__")
/-- what the written part says of the classes of errors -/
structure ErrF (K : Frag) (mg : Str → Option Value) (cls ys flds : List Str) (sub : Str → Str → Option Bool) : Prop where
  ex : ∀ x ∈ cls, ∀ C, mg x = some (.ref C) → ExcC K C ∧ XfC K C ∧ ∀ f ∈ flds, PySem.W.findIn K (.ref C) f = some none
  nm : ∀ y ∈ ys, ∃ v u, NameU mg y u ∧ ClsV v u
  is : ∀ x y b, sub x y = some b → x ∈ cls ∧ y ∈ ys ∧ ∀ C v u, mg x = some (.ref C) → NameU mg y u → ClsV v u → PySem.W.kitOne K (.ref C) u = some b ∧ PySem.W.exmOne K (.ref C) u = some b
theorem clsV_rel {v : V} {u : Value} (h : ClsV v u) : RelV v u := by
  cases h <;> rfl
theorem NameU.one {mg : Str → Option Value} {y : Str} {u u' : Value} (h : NameU mg y u) (h' : NameU mg y u') : u = u' := by
  rcases h with h | ⟨h, k, _⟩ <;> rcases h' with h' | ⟨h', k', _⟩
  · exact Option.some.inj (h.symm.trans h')
  · rw [h] at h'; cases h'
  · rw [h] at h'; cases h'
  · exact Option.some.inj (k.symm.trans k')
section
variable {X : Cx} {i : Nat} {e b : Expr} {es rest : List Expr} {pos p p1 p2 : Pos} {c c' : HC} {d : D}
theorem pe_name {a : Addr} {pn : List (Addr × Obj)} {y : Str} {u : Value} {v : V} (hn : NameU X.mg y u) (hv : ClsV v u) (hg : Gl X y) (hdb : (y == ("__debug__" : Str)) = false) : PE (X.suite a pn) (.Name y p) (tC v) := by
  rcases hn with h | ⟨h1, h2, h3⟩
  · exact pe_glob (X := X.suite a pn) hg h (clsV_rel hv) hdb
  · exact pe_bltn (X := X.suite a pn) hg h1 h2 (clsV_rel hv) h3 hdb
theorem heok_k (h : ∀ a pn, PE (X.suite a pn) e (tC (vOf d))) : HEOk X i e (fun _ _ => some d) := fun a dd C oe pn x fs hx => pe_mono (h a _) fun σ H Q ⟨τ, d', e1, _, _, q⟩ => by
  cases e1; exact q H (Sub.refl H)
theorem heok_int {n : Int} {j} : HEOk X i (.Constant (.int n) j pos) (fun _ _ => some (.int n)) := heok_k fun _ _ => pe_int
theorem heok_str {n : Str} {j} : HEOk X i (.Constant (.str n) j pos) (fun _ _ => some (.str n)) := heok_k fun _ _ => pe_str
theorem heok_bool {n : Bool} {j} : HEOk X i (.Constant (.bool n) j pos) (fun _ _ => some (.bool n)) := heok_k fun _ _ => pe_bl
theorem heok_none {j} : HEOk X i (.Constant .none j pos) (fun _ _ => some .none) := heok_k fun _ _ => pe_non
def hVar (j : Nat) : HC := fun _ τ => τ.lookup j
theorem lookup_mem {j : Nat} {d : D} : ∀ {τ : Tau}, τ.lookup j = some d → (j, d) ∈ τ
  | [], h => by cases h
  | (k, g) :: r, h => by
    rw [List.lookup_cons] at h
    split at h
    · rename_i e
      cases h
      have : j = k := by simpa using e
      rw [this]; exact List.mem_cons_self
    · exact List.mem_cons_of_mem _ (lookup_mem h)
theorem heok_var {n : Str} (j : Nat) (hN : X.N[j]? = some n := by rfl) (hv : Vis X.env.scope n := by first | exact Or.inl rfl | exact Or.inr (Or.inl rfl) | exact Or.inr (Or.inr rfl)) (hd : (n == ("__debug__" : Str)) = false := by decide) (hcd : (n == ("__classdict__" : Str)) = false := by decide) : HEOk X i (.Name n pos) (hVar j) :=
  fun a dd C oe pn x fs hx => pe_mono (pe_var (X := X.suite a ((a, oe) :: pn)) (i := j) hN hv hd hcd) fun σ H Q ⟨τ, d', e1, _, h2, q⟩ => ⟨_, h2.2 j d' (lookup_mem e1), q H (Sub.refl H)⟩
def hNot (c : HC) : HC := fun x τ => match c x τ with
  | some (.bool b) => some (.bool (!b))
  | _ => none
theorem heok_not (h : HEOk X i e c) : HEOk X i (.UnaryOp .Not e pos) (hNot c) := fun a dd C oe pn x fs hx => pe_mono (pe_not (h a dd C oe pn x fs hx)) fun σ H Q ⟨τ, d', e1, s1, h2, q⟩ => by
  unfold hNot at e1
  split at e1
  · rename_i b eb
    cases e1
    exact ⟨τ, .bool b, eb, rfl, h2, fun H' k => ⟨b, rfl, q H' k⟩⟩
  · cases e1
def hAnd (c c' : HC) : HC := fun x τ => match c x τ with
  | some (.bool true) => c' x τ
  | some (.bool false) => some (.bool false)
  | _ => none
def hOr (c c' : HC) : HC := fun x τ => match c x τ with
  | some (.bool true) => some (.bool true)
  | some (.bool false) => c' x τ
  | _ => none
theorem heok_one {op} (h : HEOk X i e c) : HEOk X i (.BoolOp op [e] pos) c := fun a dd C oe pn x fs hx => pe_one (h a dd C oe pn x fs hx)
theorem heok_and (h : HEOk X i e c) (h' : HEOk X i (.BoolOp .And (b :: rest) pos) c') : HEOk X i (.BoolOp .And (e :: b :: rest) pos) (hAnd c c') := fun a dd C oe pn x fs hx => pe_mono (pe_and (h a dd C oe pn x fs hx) (h' a dd C oe pn x fs hx)) fun σ H Q ⟨τ, d', e1, s1, h2, q⟩ => by
  unfold hAnd at e1
  split at e1
  · rename_i eb
    exact ⟨τ, .bool true, eb, rfl, h2, fun H' k => ⟨true, rfl, by rw [if_pos rfl]; exact ⟨τ, d', e1, s1, h2.sub k, fun H2 k2 => q H2 (k.trans k2)⟩⟩⟩
  · rename_i eb
    cases e1
    exact ⟨τ, .bool false, eb, rfl, h2, fun H' k => ⟨false, rfl, by rw [if_neg Bool.false_ne_true]; exact q H' k⟩⟩
  · cases e1
theorem heok_or (h : HEOk X i e c) (h' : HEOk X i (.BoolOp .Or (b :: rest) pos) c') : HEOk X i (.BoolOp .Or (e :: b :: rest) pos) (hOr c c') := fun a dd C oe pn x fs hx => pe_mono (pe_or (h a dd C oe pn x fs hx) (h' a dd C oe pn x fs hx)) fun σ H Q ⟨τ, d', e1, s1, h2, q⟩ => by
  unfold hOr at e1
  split at e1
  · rename_i eb
    cases e1
    exact ⟨τ, .bool true, eb, rfl, h2, fun H' k => ⟨true, rfl, by rw [if_pos rfl]; exact q H' k⟩⟩
  · rename_i eb
    exact ⟨τ, .bool false, eb, rfl, h2, fun H' k => ⟨false, rfl, by rw [if_neg Bool.false_ne_true]; exact ⟨τ, d', e1, s1, h2.sub k, fun H2 k2 => q H2 (k.trans k2)⟩⟩⟩
  · cases e1
variable {cls ys flds : List Str} {sub : Str → Str → Option Bool}
/-- e.f -/
def hFld (cls : List Str) (f : Str) : HC := fun x _ => if x.cls ∈ cls then x.fs.lookup f else none
theorem heok_fld {n f : Str} (G : ErrF X.K X.mg cls ys flds sub) (hf : f ∈ flds) (hN : X.N[i]? = some n := by rfl) (hv : Vis X.env.scope n := by first | exact Or.inl rfl | exact Or.inr (Or.inl rfl) | exact Or.inr (Or.inr rfl)) (hd : (n == ("__debug__" : Str)) = false := by decide) (hcd : (n == ("__classdict__" : Str)) = false := by decide)
    (hb : attributeBase (.Name n p) f X.env (eval (.Name n p) X.env) = eval (.Name n p) X.env := by rfl) : HEOk X i (.Attribute (.Name n p) f pos) (hFld cls f) := fun a dd C oe pn x fs hx => by
  by_cases hc : x.cls ∈ cls
  · obtain ⟨_, T, g⟩ := G.ex x.cls hc C hx.m
    exact pe_mono (pe_xf T (g f hf) hx.z hx.f (pe_var (X := X.suite a ((a, oe) :: pn)) (i := i) hN hv hd hcd) hb) fun σ H Q ⟨τ, d', e1, s1, h2, q⟩ => by
      unfold hFld at e1
      rw [if_pos hc] at e1
      exact ⟨_, h2.1.1, rfl, rfl, dd, fs, vOf d', rfl, h2.1.2, hx.r f d' e1 s1, q H (Sub.refl H)⟩
  · refine ⟨fun pins s σ H Q I ⟨τ, d', e1, _⟩ => ?_⟩
    unfold hFld at e1
    rw [if_neg hc] at e1
    cases e1
/-- isinstance(e, C) -/
def hIs (sub : Str → Str → Option Bool) (y : Str) : HC := fun x _ => (sub x.cls y).map PyData.bool
theorem heok_is {n y : Str} (G : ErrF X.K X.mg cls ys flds sub) (hm : X.mg "isinstance" = none) (hN : X.N[i]? = some n := by rfl) (hv : Vis X.env.scope n := by first | exact Or.inl rfl | exact Or.inr (Or.inl rfl) | exact Or.inr (Or.inr rfl)) (hd : (n == ("__debug__" : Str)) = false := by decide)
    (hcd : (n == ("__classdict__" : Str)) = false := by decide) (hgy : Gl X y := by rfl) (hdy : (y == ("__debug__" : Str)) = false := by decide) (hg : Gl X "isinstance" := by rfl)
    (hs : starEach [(.Name n p1 : Expr), .Name y p2] X.env = (false, eval (.Name n p1) X.env) :: starEach [.Name y p2] X.env := by rfl) (hs2 : starEach [(.Name y p2 : Expr)] X.env = (false, eval (.Name y p2) X.env) :: starEach [] X.env := by rfl)
    (hpl : (backTo pos (starEach [(.Name y p2 : Expr)] X.env)).any (·.1) = false := by rfl) : HEOk X i (.Call (.Name "isinstance" p) [.Name n p1, .Name y p2] [] pos) (hIs sub y) := fun a dd C oe pn x fs hx => by
  cases es : sub x.cls y with
  | none =>
    refine ⟨fun pins s σ H Q I ⟨τ, d', e1, _⟩ => ?_⟩
    unfold hIs at e1
    rw [es] at e1
    cases e1
  | some k =>
    obtain ⟨hc, hy, hk⟩ := G.is x.cls y k es
    obtain ⟨v, u, hu, hvu⟩ := G.nm y hy
    obtain ⟨T, _, _⟩ := G.ex x.cls hc C hx.m
    refine pe_mono (pe_callB (X := X.suite a ((a, oe) :: pn)) (call_isD T hx.z hx.f) hg hm bt_isinstance (pa_cons (pe_var (X := X.suite a ((a, oe) :: pn)) (i := i) hN hv hd hcd) (pa_cons (pe_name hu hvu hgy hdy) pa_nil hs2) hs) (by decide) (by decide) hs hpl) fun σ H Q ⟨τ, d', e1, s1, h2, q⟩ => ?_
    unfold hIs at e1
    rw [es] at e1
    cases e1
    exact ⟨_, h2.1.1, v, u, k, fs, rfl, h2.1.2, fun w r => hvu.eq r, (hk C v u hx.m hu hvu).1, q H (Sub.refl H)⟩
/-- isinstance(e, (C, ..)) -/
def rIsDT (K : Frag) (D a dd : Addr) : List V → Hp → VK → Prop := fun xs H Q => ∃ (tp : Addr) (cs : List V) (us : List Value) (b : Bool) (fs : List (Str × V)), xs = [.ref a, .ref tp] ∧ H tp = some (.tup cs) ∧ Paired ClsV cs us ∧ H dd = some (.xd fs) ∧ PySem.W.kitAny K (.ref D) us = some b ∧ Q (.bl b) H
theorem call_isDT {a D dd : Addr} {oe : Obj} {pn : List (Addr × Obj)} (C : ExcC X.K D) (hz : Zc (.ref D) (some dd) oe) (hf : ∃ vs, oe.data = .fields vs) : CallR (X.suite a ((a, oe) :: pn)) (.builtin "isinstance") (rIsDT X.K D a dd) := by
  rintro pins s σ H xs us Q I r ⟨tp, cs, ws, b, fs, rfl, hT, k, ed, e, q⟩
  match us, r with
  | [u1, u2], .cons rx (.cons rt .nil) =>
    obtain rfl : u1 = Value.ref a := rx
    obtain rfl : u2 = Value.ref tp := rt
    have hget := (I.pin (a, oe) (List.mem_append_left _ List.mem_cons_self)).1
    obtain ⟨vs, hv⟩ := hf
    have hx : ObjOk X.prog X.w H s.heap dd (.xd fs) := I.hok dd _ ed
    obtain ⟨mA, hns, _⟩ := hx
    obtain ⟨od, ho, _⟩ := lookIn_ns hns
    have J : PySem.W.InstAt s.heap a oe D (some od) := ⟨hget, hz.1, by unfold PySem.W.notCls; rw [hv] <;> rfl, by rw [hz.2]; exact ho⟩
    have hcl : (PySem.W.clsIn X.K D).isSome = true := by
      obtain ⟨cd, hc, _⟩ := PySem.W.any_some C.hd
      rw [hc]; rfl
    obtain ⟨_, its, rv, o, h1, h2, n, h3⟩ := (show ObjOk X.prog X.w H s.heap tp (.tup cs) from I.hok tp _ hT)
    have e3 := ClsV.all k rv
    subst e3
    obtain ⟨oc, od', dt, sl⟩ := o
    simp only at h2 h3
    subst h2 h3
    exact PySem.W.kia_tup (PySem.W.kitx_exc hcl C.hg C.hk C.hs C.ha C.hn C.ht C.hm) I.kIn J h1 e (fun z => nomatch z) fun tk => ⟨.bl b, H, I.kept (t' := tk) fun _ _ z => z, rfl, q⟩
def isAny (sub : Str → Str → Option Bool) (x : Str) : List Str → Option Bool
  | [] => some false
  | y :: r => match sub x y with
    | some true => some true
    | some false => isAny sub x r
    | none => none
def hIsT (sub : Str → Str → Option Bool) (l : List Str) : HC := fun x _ => (isAny sub x.cls l).map PyData.bool
/-- a row of class names, laid as a tuple -/
inductive Nms (X : Cx) (ys : List Str) : List Expr → List Str → Prop
  | nil : Nms X ys [] []
  | cons {y : Str} {p : Pos} {es : List Expr} {l : List Str} (hy : y ∈ ys) (hg : Gl X y) (hd : (y == ("__debug__" : Str)) = false) (hs : starEach ((.Name y p : Expr) :: es) X.env = (false, eval (.Name y p) X.env) :: starEach es X.env) (r : Nms X ys es l) : Nms X ys (.Name y p :: es) (y :: l)
theorem nms_ok {a : Addr} {pn : List (Addr × Obj)} (G : ErrF X.K X.mg cls ys flds sub) : ∀ {es : List Expr} {l : List Str}, Nms X ys es l → ∃ cs us, Paired ClsV cs us ∧ cs.length = l.length ∧ PA (X.suite a pn) es (fun σ H Q => Q cs H) ∧
    ∀ (xc : Str) (C : Addr) (k : Bool), X.mg xc = some (.ref C) → isAny sub xc l = some k → PySem.W.kitAny X.K (.ref C) us = some k
  | _, _, .nil => ⟨[], [], .nil, rfl, pa_mono pa_nil fun _ _ _ q => q, fun xc C k hm h => h⟩
  | _, _, .cons (y := y) hy hg hd hs r => by
    obtain ⟨cs, us, hp, hl, hpa, hk⟩ := nms_ok (a := a) (pn := pn) G r
    obtain ⟨v, u, hu, hvu⟩ := G.nm y hy
    refine ⟨v :: cs, u :: us, .cons hvu hp, by simp [hl], pa_mono (pa_cons (pe_name hu hvu hg hd) hpa hs) fun σ H Q q => q, fun xc C k hm h => ?_⟩
    unfold isAny at h
    unfold PySem.W.kitAny
    cases e1 : sub xc y with
    | none => rw [e1] at h; cases h
    | some b =>
      obtain ⟨_, _, hk1⟩ := G.is xc y b e1
      rw [(hk1 C v u hm hu hvu).1]
      rw [e1] at h
      cases b with
      | true => exact h
      | false => exact hk xc C k hm h
theorem heok_isT {n : Str} {l : List Str} {x1 : Nat} {p3 : Pos} (G : ErrF X.K X.mg cls ys flds sub) (hl : Nms X ys es l) (hll : l.length ≤ 1000) (hcl : ∀ (xc : Str) (k : Bool), isAny sub xc l = some k → xc ∈ cls) (hm : X.mg "isinstance" = none) (hN : X.N[i]? = some n := by rfl) (hv : Vis X.env.scope n := by first | exact Or.inl rfl | exact Or.inr (Or.inl rfl) | exact Or.inr (Or.inr rfl)) (hd : (n == ("__debug__" : Str)) = false := by decide)
    (hcd : (n == ("__classdict__" : Str)) = false := by decide) (hg : Gl X "isinstance" := by rfl)
    (hs : starEach [(.Name n p1 : Expr), .Tuple es x1 p3] X.env = (false, eval (.Name n p1) X.env) :: starEach [.Tuple es x1 p3] X.env := by rfl) (hs2 : starEach [(.Tuple es x1 p3 : Expr)] X.env = (false, eval (.Tuple es x1 p3) X.env) :: starEach [] X.env := by rfl)
    (hpl : (backTo pos (starEach [(.Tuple es x1 p3 : Expr)] X.env)).any (·.1) = false := by rfl) : HEOk X i (.Call (.Name "isinstance" p) [.Name n p1, .Tuple es x1 p3] [] pos) (hIsT sub l) := fun a dd C oe pn x fs hx => by
  cases es : isAny sub x.cls l with
  | none =>
    refine ⟨fun pins s σ H Q I ⟨τ, d', e1, _⟩ => ?_⟩
    unfold hIsT at e1
    rw [es] at e1
    cases e1
  | some k =>
    obtain ⟨T, _, _⟩ := G.ex x.cls (hcl _ _ es) C hx.m
    obtain ⟨cs, us, hp, hle, hpa, hk⟩ := nms_ok (a := a) (pn := (a, oe) :: pn) G hl
    refine pe_mono (pe_callB (X := X.suite a ((a, oe) :: pn)) (call_isDT T hx.z hx.f) hg hm bt_isinstance (pa_cons (pe_var (X := X.suite a ((a, oe) :: pn)) (i := i) hN hv hd hcd) (pa_cons (pe_tup hpa) pa_nil hs2) hs) (by decide) (by decide) hs hpl) fun σ H Q ⟨τ, d', e1, s1, h2, q⟩ => ?_
    unfold hIsT at e1
    rw [es] at e1
    cases e1
    refine ⟨_, h2.1.1, by rw [sizeLine_eq]; omega, fun p hp' => ⟨p, cs, us, k, fs, rfl, upd_same, hp, ?_, hk x.cls C k hx.m es, ?_⟩⟩
    · rw [upd_ne (ne_of_none h2.1.2 hp')]
      exact h2.1.2
    · exact q _ fun b o e => by rw [upd_ne (ne_of_none e hp')]; exact e
end
end VL

set_option Elab.async false
set_option linter.all false
set_option maxRecDepth 100000
set_option maxHeartbeats 4000000
/-! VE11: what a clause does: return a plain value or a row of plain values, set a name to such a row; try as a combinator. -/
namespace VL
open PySem PySem.Spec PyProof.Rows L2
inductive HAct where
  | ret (d : D)
  | set (j : Nat) (d : D)
abbrev HSC := Exn → Tau → Option HAct
def rowD : D → Option (List D)
  | .tuple ds => some ds
  | _ => none
def tAct (act : HAct) (D : Ends) (σ : S) (H : Hp) : Prop := match act with
  | .ret d => (scal d = true ∧ ∀ H', Sub H H' → D.rt (vOf d) H') ∨ ∃ ds, d = .tuple ds ∧ ds.all scal = true ∧ ds.length ≤ 1000 ∧ ∀ p H', Sub H H' → H' p = none → D.rt (.ref p) (upd H' p (.tup (ds.map vOf)))
  | .set j d => ∃ ds, d = .tuple ds ∧ ds.all scal = true ∧ ds.length ≤ 1000 ∧ ∀ p H', Sub H H' → H' p = none → D.nx (σ.set j (some (.ref p))) (upd H' p (.tup (ds.map vOf)))
def tHS (a dd : Addr) (i : Nat) (fs : List (Str × V)) (x : Exn) (n : Nat) (c : HSC) : TS := fun D σ H => n ≤ σ.length ∧ ∃ τ act, c x τ = some act ∧ Hs2 a dd i fs τ σ H ∧ tAct act D σ H
def HSOk (X : Cx) (i : Nat) (suite : List Stmt) (c : HSC) : Prop := ∀ (a dd C : Addr) (oe : Obj) (pn : List (Addr × Obj)) (x : Exn) (fs : List (Str × V)), HCx X a dd C oe x fs → PSs (X.suite a ((a, oe) :: pn)) suite (tHS a dd i fs x X.N.length c)
def evalH : List HC → Exn → Tau → Option (List D)
  | [], _, _ => some []
  | c :: cs, x, τ => match c x τ with
    | some d => if scal d = true then (evalH cs x τ).map (d :: ·) else none
    | none => none
theorem evalH_all : ∀ {cs : List HC} {x : Exn} {τ : Tau} {ds : List D}, evalH cs x τ = some ds → ds.all scal = true ∧ ds.length = cs.length
  | [], _, _, _, h => by cases h; exact ⟨rfl, rfl⟩
  | c :: cs, x, τ, ds, h => by
    unfold evalH at h
    split at h
    · rename_i d e
      split at h
      · rename_i hs
        cases e2 : evalH cs x τ with
        | none => rw [e2] at h; cases h
        | some r =>
          rw [e2] at h
          cases h
          obtain ⟨h1, h2⟩ := evalH_all e2
          exact ⟨by simp [hs, h1], by simp [h2]⟩
      · cases h
    · cases h
def tHA (a dd : Addr) (i : Nat) (fs : List (Str × V)) (x : Exn) (cs : List HC) : TA := fun σ H Q => ∃ τ ds, evalH cs x τ = some ds ∧ Hs2 a dd i fs τ σ H ∧ ∀ H', Sub H H' → Q (ds.map vOf) H'
def HAOk (X : Cx) (i : Nat) (es : List Expr) (cs : List HC) : Prop := ∀ (a dd C : Addr) (oe : Obj) (pn : List (Addr × Obj)) (x : Exn) (fs : List (Str × V)), HCx X a dd C oe x fs → PA (X.suite a ((a, oe) :: pn)) es (tHA a dd i fs x cs)
section
variable {X : Cx} {i j : Nat} {e : Expr} {es : List Expr} {rest : List Stmt} {pos p p1 p2 p3 : Pos} {c : HC} {cs : List HC} {r : HSC} {x1 : Nat}
theorem haok_nil : HAOk X i [] [] := fun a dd C oe pn x fs hx => pa_mono pa_nil fun σ H Q ⟨τ, ds, e1, h2, q⟩ => by
  cases e1; exact q H (Sub.refl H)
theorem haok_cons (h : HEOk X i e c) (r : HAOk X i es cs) (hs : starEach (e :: es) X.env = (false, eval e X.env) :: starEach es X.env := by rfl) : HAOk X i (e :: es) (c :: cs) := fun a dd C oe pn x fs hx =>
  pa_mono (pa_cons (h a dd C oe pn x fs hx) (r a dd C oe pn x fs hx) hs) fun σ H Q ⟨τ, ds, e1, h2, q⟩ => by
    unfold evalH at e1
    split at e1
    · rename_i d e2
      split at e1
      · rename_i s1
        cases e3 : evalH cs x τ with
        | none => rw [e3] at e1; cases e1
        | some rr =>
          rw [e3] at e1
          cases e1
          exact ⟨τ, d, e2, s1, h2, fun H1 k1 => ⟨τ, rr, e3, h2.sub k1, fun H2 k2 => q H2 (k1.trans k2)⟩⟩
      · cases e1
    · cases e1
def hsRetT (cs : List HC) : HSC := fun x τ => (evalH cs x τ).map fun ds => .ret (.tuple ds)
def hsRet (c : HC) : HSC := fun x τ => match c x τ with
  | some d => if scal d = true then some (.ret d) else none
  | none => none
def hsSetT (j : Nat) (cs : List HC) : HSC := fun x τ => (evalH cs x τ).map fun ds => .set j (.tuple ds)
def hsLet (i j : Nat) (c : HC) (r : HSC) : HSC := fun x τ => match c x τ with
  | some d => if scal d = true ∧ j ≠ i then (match r x [(j, d)] with
    | some (.ret d') => some (.ret d')
    | _ => none) else none
  | none => none
theorem hs_retT (h : HAOk X i es cs) (hl : cs.length ≤ 1000) : HSOk X i [.Return (some (.Tuple es x1 p2)) pos] (hsRetT cs) := fun a dd C oe pn x fs hx =>
  pss_mono (pss_one (ps_ret (pe_tup (h a dd C oe pn x fs hx)))) fun D σ H ⟨hn, τ, act, e1, h2, q⟩ => by
    unfold hsRetT at e1
    cases e2 : evalH cs x τ with
    | none => rw [e2] at e1; cases e1
    | some ds =>
      rw [e2] at e1
      cases e1
      have hz := (evalH_all e2).2
      rcases q with ⟨s1, _⟩ | ⟨ds', e3, _, _, q⟩
      · cases s1
      · cases e3
        exact ⟨τ, ds, e2, h2, fun H' k => ⟨by rw [List.length_map, sizeLine_eq]; omega, fun p hp => q p H' k hp⟩⟩
theorem hs_ret1 (h : HEOk X i e c) : HSOk X i [.Return (some e) pos] (hsRet c) := fun a dd C oe pn x fs hx =>
  pss_mono (pss_one (ps_ret (h a dd C oe pn x fs hx))) fun D σ H ⟨hn, τ, act, e1, h2, q⟩ => by
    unfold hsRet at e1
    split at e1
    · rename_i d e2
      split at e1
      · rename_i s1
        cases e1
        rcases q with ⟨_, q⟩ | ⟨ds', e3, _, _, q⟩
        · exact ⟨τ, d, e2, s1, h2, q⟩
        · subst e3; cases s1
      · cases e1
    · cases e1
theorem hs_setT {y : Str} (hnd : X.N.Nodup) (h : HAOk X i es cs) (hl : cs.length ≤ 1000) (hN : X.N[j]? = some y := by rfl) (hx : Loc X.env.scope y := by first | exact Or.inl rfl | exact Or.inr rfl) (hs : swapsWith (.Tuple es x1 p3) (some (.Name y p2)) pos.line X.env = pure false := by rfl)
    (hf : X.fn y = true ∨ X.env.scope.names.lookup y = some .local := by first | exact .inl rfl | exact .inr rfl) : HSOk X i [.Assign [.Name y p2] (.Tuple es x1 p3) pos] (hsSetT j cs) := fun a dd C oe pn x fs hx' =>
  pss_mono (pss_one (ps_set (X := X.suite a ((a, oe) :: pn)) hnd hN hx (pe_tup (h a dd C oe pn x fs hx')) hs hf)) fun D σ H ⟨hn, τ, act, e1, h2, q⟩ => by
    unfold hsSetT at e1
    cases e2 : evalH cs x τ with
    | none => rw [e2] at e1; cases e1
    | some ds =>
      rw [e2] at e1
      cases e1
      have hz := (evalH_all e2).2
      obtain ⟨ds', e3, _, _, q⟩ := q
      cases e3
      exact ⟨τ, ds, e2, h2, fun H' k => ⟨by rw [List.length_map, sizeLine_eq]; omega, fun p hp => q p H' k hp⟩⟩
theorem hs_let {y : Str} (j : Nat) (hnd : X.N.Nodup) (h : HEOk X i e c) (hr : HSOk X i rest r) (hN : X.N[j]? = some y := by rfl) (hx : Loc X.env.scope y := by first | exact Or.inl rfl | exact Or.inr rfl) (hs : swapsWith e (some (.Name y p2)) pos.line X.env = pure false := by rfl)
    (hf : X.fn y = true ∨ X.env.scope.names.lookup y = some .local := by first | exact .inl rfl | exact .inr rfl) : HSOk X i (.Assign [.Name y p2] e pos :: rest) (hsLet i j c r) := fun a dd C oe pn x fs hx' =>
  pss_mono (pss_cons (ps_set (X := X.suite a ((a, oe) :: pn)) hnd hN hx (h a dd C oe pn x fs hx') hs hf) (hr a dd C oe pn x fs hx')) fun D σ H ⟨hn, τ, act, e1, h2, q⟩ => by
    have hj : j < σ.length := Nat.lt_of_lt_of_le (List.getElem?_eq_some_iff.mp hN).1 hn
    unfold hsLet at e1
    split at e1
    · rename_i d e2
      split at e1
      · rename_i s1
        split at e1
        · rename_i d' e3
          cases e1
          refine ⟨τ, d, e2, s1.1, h2, fun H' k => ⟨by rw [List.length_set]; exact hn, [(j, d)], .ret d', e3, ⟨⟨?_, k _ _ h2.1.2⟩, fun j' d2 hm => ?_⟩, ?_⟩⟩
          · rw [List.getElem?_set_ne s1.2]; exact h2.1.1
          · simp at hm
            obtain ⟨rfl, rfl⟩ := hm
            exact List.getElem?_set_self hj
          · rcases q with ⟨s2, q⟩ | ⟨ds, e4, s2, s3, q⟩
            · exact .inl ⟨s2, fun H2 k2 => q H2 (k.trans k2)⟩
            · exact .inr ⟨ds, e4, s2, s3, fun p H2 k2 hp => q p H2 (k.trans k2) hp⟩
        · cases e1
      · cases e1
    · cases e1
end
/-! ### try -/
structure HCl2 where
  cls : Str
  slot : Nat
  act : HSC
def okTup (d : D) : Bool := match d with
  | .tuple ds => ds.all scal && decide (ds.length ≤ 1000)
  | _ => false
def hRun2 (sub : Str → Str → Option Bool) : List HCl2 → Exn → SC
  | [], x, ρ => .err x ρ
  | c :: r, x, ρ => match sub x.cls c.cls with
    | some true => if x.fs ≠ [] ∧ c.slot < ρ.length then (match c.act x [] with
      | some (.ret d) => if scal d = true ∨ okTup d = true then .ret (.fz d) else .stuck
      | some (.set j d) => if okTup d = true then .next ((ρ.set j (some (.own (.fz d)))).set c.slot none) else .stuck
      | none => .stuck) else .stuck
    | some false => hRun2 sub r x ρ
    | none => .stuck
def sTry2 (sub : Str → Str → Option Bool) (b : SC) (cl : List HCl2) : SC := fun ρ => match b ρ with
  | .err x ρ' => hRun2 sub cl x ρ'
  | r => r
def tsOf2 (K : Frag) (mg : Str → Option Value) (sub : Str → Str → Option Bool) (c : HCl2) (a : Addr) (cls : Value) (d : Option Addr) : TS := fun D σ H => ∃ (C dd : Addr) (fs : List (Str × V)) (x : Exn) (act : HAct),
  cls = .ref C ∧ mg x.cls = some (.ref C) ∧ d = some dd ∧ FsR fs x.fs ∧ c.act x [] = some act ∧ Hst a dd c.slot fs σ H ∧ tAct act D σ H
theorem hcl_ts2 {X : Cx} {sub : Str → Str → Option Bool} {c : HCl2} {suite : List Stmt} (h : HSOk X c.slot suite c.act) (a : Addr) (oe : Obj) (cls : Value) (d : Option Addr) (pn : List (Addr × Obj)) (hz : Zc cls d oe) (hf : ∃ vs, oe.data = .fields vs) :
    PSs (X.suite a ((a, oe) :: pn)) suite (tsOf2 X.K X.mg sub c a cls d) := by
  refine ⟨fun pins s σ H D I q => ?_⟩
  obtain ⟨C, dd, fs, x, act, rfl, q1, rfl, q2, q3, q4, q5⟩ := q
  exact (h a dd C oe pn x fs ⟨q1, hz, hf, q2⟩).run pins s σ H D I ⟨Nat.le_of_eq I.len.symm, [], act, q3, ⟨q4, fun _ _ z => by cases z⟩, q5⟩
inductive HClsOk2 (X : Cx) (sub : Str → Str → Option Bool) : List ExceptHandler → List HCl2 → List Cl → Prop
  | nil : HClsOk2 X sub [] [] []
  | cons {x n : Str} {u : Value} {c : HCl2} {b₀ : Stmt} {suite : List Stmt} {np pos' : Pos} {hds : List ExceptHandler} {cl : List HCl2} {l : List Cl} (hi : X.N[c.slot]? = some n) (hln : X.env.kindOf n = some .local) (hc : Names X x u)
      (hx : ∀ xc C k, sub xc c.cls = some k → X.mg xc = some (.ref C) → PySem.W.exmOne X.K (.ref C) u = some k) (hsu : HSOk X c.slot (b₀ :: suite) c.act) (r : HClsOk2 X sub hds cl l) :
      HClsOk2 X sub (.ExceptHandler (some (.Name x np)) (some n) (b₀ :: suite) pos' :: hds) (c :: cl) ((u, c.slot, tsOf2 X.K X.mg sub c) :: l)
theorem HClsOk2.clsOk {X : Cx} {sub : Str → Str → Option Bool} : ∀ {hds : List ExceptHandler} {cl : List HCl2} {l : List Cl}, HClsOk2 X sub hds cl l → ClsOk X hds l
  | _, _, _, .nil => .nil
  | _, _, _, .cons hi hln hc hx hsu r => .cons hi hln hc (fun a oe cls d pn hz hf => hcl_ts2 hsu a oe cls d pn hz hf) r.clsOk
/-- clauses, those whose classes stand in ErrF -/
inductive HCs (X : Cx) (sub : Str → Str → Option Bool) : List ExceptHandler → List HCl2 → Prop
  | nil : HCs X sub [] []
  | cons {n : Str} {c : HCl2} {b₀ : Stmt} {suite : List Stmt} {np pos' : Pos} {hds : List ExceptHandler} {cl : List HCl2} (hi : X.N[c.slot]? = some n) (hln : X.env.kindOf n = some .local) (hg : Gl X c.cls) (hdb : (c.cls == ("__debug__" : Str)) = false)
      (hsu : HSOk X c.slot (b₀ :: suite) c.act) (r : HCs X sub hds cl) : HCs X sub (.ExceptHandler (some (.Name c.cls np)) (some n) (b₀ :: suite) pos' :: hds) (c :: cl)
theorem HCs.ok2 {X : Cx} {sub : Str → Str → Option Bool} {cls ys flds : List Str} (G : ErrF X.K X.mg cls ys flds sub) : ∀ {hds : List ExceptHandler} {cl : List HCl2}, HCs X sub hds cl → (∀ c ∈ cl, c.cls ∈ ys) → ∃ l, HClsOk2 X sub hds cl l
  | _, _, .nil, _ => ⟨_, .nil⟩
  | _, _, .cons (c := c) hi hln hg hdb hsu r, hy => by
    obtain ⟨l, hl⟩ := HCs.ok2 G r fun c hc => hy c (List.mem_cons_of_mem _ hc)
    obtain ⟨v, u, hu, hv⟩ := G.nm c.cls (hy c List.mem_cons_self)
    exact ⟨_, .cons (u := u) hi hln ⟨hg, hdb, hu⟩ (fun xc C k hs hm => ((G.is xc c.cls k hs).2.2 C v u hm hu hv).2) hsu hl⟩
section
variable {X : Cx} {sub : Str → Str → Option Bool} {W : WX} {D : Ends} {H0 F0 : Hp}
theorem fz_tup {K : Frag} {H F : Hp} {ds : List PyData} {p : Addr} (hs : ds.all scal = true) (hf : Sub F H) (hp : H p = none) : ∃ F', Gr H F (upd H p (.tup (ds.map vOf))) F' ∧ OR K (upd H p (.tup (ds.map vOf))) F' (.ref p) (.fz (.tuple ds)) [] := by
  have g : Gr H F (upd H p (.tup (ds.map vOf))) F := Gr.laid hf hp
  have fp := hf.none hp
  have g2 := g.frozen (A := [p]) (fun a h => by simp at h; subst h; exact hp) (fun a h => by simp at h; subst h; exact fp)
  exact ⟨_, g2, OR.fz (.tup (.of (by rw [frz_in (by simp)]; exact upd_same)) (RpAll.scal _ hs))⟩
theorem hRun2_ok {x : Exn} {cls : Value} {d : Option Addr} {σ : S} {H F : Hp} {ρ : Rho} (s : SR X.K H0 F0 σ H F ρ) (xo : XOk X.K X.mg F H cls d x) : ∀ {hds : List ExceptHandler} {cl : List HCl2} {l : List Cl}, HClsOk2 X sub hds cl l → GoodS X.K X.mg H0 F0 W D (hRun2 sub cl x ρ) → wCls X.K W D l cls d σ H
  | _, _, _, .nil, g => g cls d σ H F s xo
  | _, c :: cl, _, .cons hi hln hc hx hsu r, g => by
    obtain ⟨C, m1, rfl, fsx⟩ := id xo
    unfold hRun2 at g
    cases es : sub x.cls c.cls with
    | none => rw [es] at g; exact g.elim
    | some k =>
      rw [es] at g
      refine ⟨k, hx _ _ _ es m1, fun hk a ha => ?_, fun hk => ?_⟩
      · subst hk
        simp only at g
        by_cases hcnd : x.fs ≠ [] ∧ c.slot < ρ.length
        · rw [if_pos hcnd] at g
          rcases fsx with z | ⟨dd, fs, rfl, hdd, hfs⟩
          · exact absurd z hcnd.1
          · have hst : Hst a dd c.slot fs (σ.set c.slot (some (.ref a))) H := ⟨List.getElem?_set_self (by have := s.len; have := hcnd.2; omega), hdd⟩
            have grow : ∀ {H' : Hp}, Sub H H' → Gr H F H' F := fun {H'} k => ⟨k, Sub.refl _, fun _ h => .inl h, s.sub.trans k⟩
            cases er : c.act x [] with
            | none => rw [er] at g; exact g.elim
            | some act =>
              rw [er] at g
              cases act with
              | ret d' =>
                simp only at g
                by_cases ho : scal d' = true ∨ okTup d' = true
                · rw [if_pos ho] at g
                  refine ⟨C, dd, fs, x, .ret d', rfl, m1, rfl, hfs.fsR, er, hst, ?_⟩
                  by_cases hsc : scal d' = true
                  · exact .inl ⟨hsc, fun H' k => g (vOf d') H' F [] (s.gr.trans (grow k)) (OR.fz (Rp.scal F hsc)) fun _ z => by cases z⟩
                  · have ht : okTup d' = true := ho.resolve_left hsc
                    cases d' with
                    | tuple ds =>
                      have ht : (ds.all scal && decide (ds.length ≤ 1000)) = true := ht
                      rw [Bool.and_eq_true, decide_eq_true_eq] at ht
                      refine .inr ⟨ds, rfl, ht.1, ht.2, fun p H' k hp => ?_⟩
                      obtain ⟨F', g', oo⟩ := fz_tup (K := X.K) (F := F) ht.1 (s.sub.trans k) hp
                      exact g (.ref p) _ F' [] ((s.gr.trans (grow k)).trans g') oo fun _ z => by cases z
                    | _ => cases ht
                · rw [if_neg ho] at g; exact g.elim
              | set j d' =>
                simp only at g
                by_cases ht : okTup d' = true
                · rw [if_pos ht] at g
                  refine ⟨C, dd, fs, x, .set j d', rfl, m1, rfl, hfs.fsR, er, hst, ?_⟩
                  cases d' with
                  | tuple ds =>
                    have ht : (ds.all scal && decide (ds.length ≤ 1000)) = true := ht
                    rw [Bool.and_eq_true, decide_eq_true_eq] at ht
                    refine ⟨ds, rfl, ht.1, ht.2, fun p H' k hp => ?_⟩
                    obtain ⟨F', g', oo⟩ := fz_tup (K := X.K) (F := F) ht.1 (s.sub.trans k) hp
                    obtain ⟨A0, sa0⟩ := (s.step ((grow k).trans g')).sra
                    obtain ⟨A1, sa1, _⟩ := sa0.wipe1 c.slot
                    obtain ⟨A2, sa2, _⟩ := sa1.set (i := j) (x := .ref p) (sl := .own (.fz (.tuple ds))) (B := []) ⟨oo, fun _ z => by cases z⟩ fun _ z => by cases z
                    obtain ⟨A3, sa3, _⟩ := sa2.wipe1 c.slot
                    have e1 : ∀ {α : Type} (l : List (Option α)) (v : Option α), ((l.set c.slot none).set j v).set c.slot none = (l.set j v).set c.slot none := fun l v => by
                      by_cases hj : j = c.slot
                      · subst hj; simp
                      · rw [List.set_comm _ _ (Ne.symm hj)]; simp
                    have e2 : ((σ.set c.slot (some (.ref a))).set j (some (.ref p))).set c.slot none = (σ.set j (some (.ref p))).set c.slot none := by
                      by_cases hj : j = c.slot
                      · subst hj; simp
                      · rw [List.set_comm _ _ (Ne.symm hj)]; simp
                    show D.nx (((σ.set c.slot (some (.ref a))).set j (some (.ref p))).set c.slot none) _
                    rw [e2]
                    have s3 := sa3.sr
                    rw [e1, e1] at s3
                    exact g _ _ _ s3
                  | _ => cases ht
                · rw [if_neg ht] at g; exact g.elim
        · rw [if_neg hcnd] at g; exact g.elim
      · subst hk
        exact hRun2_ok s xo r g
theorem sok_try2 {cls ys flds : List Str} {body : List Stmt} {b : SC} {h₀ : ExceptHandler} {hds : List ExceptHandler} {cl : List HCl2} {pos : Pos} (G : ErrF X.K X.mg cls ys flds sub) (hs : X.stack = X.env :: X.outer) (hf : X.env.frame = some X.env.locals) (hN : X.N.Nodup)
    (hb : ∀ (pn : List (Addr × Obj)) (xe : Value → Shared → Prop), PassesOwn (model X.prog X.w) X.A X.env xe → BOk (X.tr pn xe) body b) (hh : HCs X sub (h₀ :: hds) cl) (hy : ∀ c ∈ cl, c.cls ∈ ys) : SOk X (.Try body (h₀ :: hds) [] [] pos) (sTry2 sub b cl) := fun W tk => by
  obtain ⟨l, hl⟩ := hh.ok2 G hy
  exact ps_mono (ps_try_cls (tb := fun W' => rdS X.K X.mg b W') (Wout := W) hs hf hN tk (fun W' pn xe tk' hp => hb pn xe hp W' tk') hl.clsOk) fun D σ H ⟨H0, F0, F, ρ, s, h⟩ => by
    refine ⟨H0, F0, F, ρ, s, ?_⟩
    unfold sTry2 at h
    cases e : b ρ with
    | err x ρ' =>
      rw [e] at h
      exact fun cls d σ' H' F' s' xo => hRun2_ok s' xo hl h
    | _ => rw [e] at h; exact h
end
end VL

set_option Elab.async false
set_option linter.all false
set_option maxRecDepth 100000
set_option maxHeartbeats 4000000
/-! VE12: a def called within a clause (it raises nothing, walks no loop). -/
namespace VL
open PySem PySem.Spec PyProof.Rows L2
structure FnW (P : Program) (w : World) (K : Frag) (mg : Str → Option Value) (base : Heap) (k : Nat) (f : Addr) (fd : FuncData) (ps : List Str) (sp : Sp) : Prop where
  len : ∀ vs H Q E, sp vs H Q E → vs.length = ps.length
  run : ∀ (A : Around) (outer : List Env) (s : Shared) (H : Hp) (args : Args) (us : List Value) (vs : List V) (Q : VK) (E : XK), L2H.RoomH k A → Env0 P w K mg base A outer s H →
    BindsTo s fd args (ps.zip us) → Vals vs us → sp vs H Q E → codeAny (model P w) A (.call (.ref f) args) (CR (L2.CX P w) outer P w H s Q E) s
/-- the context of such a def's body -/
def cxW (P : Program) (w : World) (K : Frag) (mg : Str → Option Value) (base : Heap) (N : List Str) (qual : Str) (scope : Scope) (f : Addr) (cd : Value) (A : Around) (outer : List Env) (s : Shared) (H : Hp) (E : XK) : Cx :=
  { cxOf (L2.CX P w) P w K mg base N qual scope f cd A outer s H E with calm := false }
section
variable {P : Program} {w : World} {K : Frag} {mg : Str → Option Value} {base : Heap}
theorem inv_cool {N : List Str} {qual : Str} {scope : Scope} {f : Addr} {cd : Value} {A A0 : Around} {outer : List Env} {s s1 : Shared} {H : Hp} {E : XK} {σ : S}
    (I : Inv (cxOf (L2.CX P w) P w K mg base N qual scope f cd A0 outer s H E) [] σ H s1) (hf : A.frames = some outer) : Inv (cxW P w K mg base N qual scope f cd A outer s H E) [] σ H s1 :=
  have k := I.ok
  ⟨⟨k.mod, k.kind, k.glob, k.blt, k.above, k.inj, k.has, k.cab, fun z => absurd (show false = true from z) Bool.false_ne_true, Around.frames_deeper hf, .inr ⟨rfl, rfl⟩, k.exf, k.bs, k.bsz, k.noex, k.exfs, k.funs, k.frf⟩, I.os, I.bare, I.base, I.loc, I.cell, I.free, I.freeC, I.pin, I.hok, I.len⟩
theorem fnw_of {k : Nat} {f : Addr} {fd : FuncData} {x qual : Str} {st : Stmt} {N ps : List Str} {sp : Sp} (F : Fun K x qual st f fd) (S : FnScope N ps (defScope st)) (len : ∀ vs H Q E, sp vs H Q E → vs.length = ps.length)
    (hbody : ∀ (cdv : Value) (A : Around) (outer : List Env) (s : Shared) (H : Hp) (vs : List V) (Q : VK) (E : XK), sp vs H Q E →
      ∃ t, PSs (cxW P w K mg base N qual (defScope st) f cdv A outer s H E) (defBody st) t ∧ t { nx := fun _ H' => Q .non H', rt := Q } (L2.start N vs) H) : FnW P w K mg base (k + 1) f fd ps sp := by
  obtain ⟨oc, od, kV, doc, pm, an, cdv, ct, osl, rfl, lk, hcd⟩ := F.ex
  refine ⟨len, fun A outer s H args us vs Q E hr e0 hb r hs => ?_⟩
  have KX : K.In s.heap := e0.mod.kin.keeps fun b o e => (e0.bs b o e).1
  have lim := e0.mod.nolimit.keeps fun b o e => (e0.bs b o e).1
  refine codeAny_call_function hr.depth (KX _ _ lk) rfl S.co S.gen rfl (PySem.W.codeRec_of KX hcd) (hb _ _ _ _ (wpAny_newFunctionEnv_cells S.kind (fun ⟨n, v⟩ hy => ?_) fun env he s1 x => ?_))
  · exact (S.par n (List.of_mem_zip hy).1).imp id fun q => ⟨q, PySem.W.cellsFrom_some _ _ _ (.inl q)⟩
  · subst he
    refine ⟨lim.keeps x.toInCall.keep, codeAny_func ?_⟩
    obtain ⟨t, ht, hq⟩ := hbody cdv A outer s H vs Q E hs
    have e1 : Env0 P w K mg base { A with handled := none } outer s H := ⟨e0.frames, e0.mod, e0.bs, e0.bsz, e0.funs, e0.frf, e0.hok, e0.bare⟩
    have I := inv_cool (A := A) (inv_start (CX := L2.CX P w) (E := E) (qual := qual) (f := f) (cd := cdv) S rfl e1 (len _ _ _ _ hs) r x) e0.frames
    refine wpAny_mono (ht.run [] s1 (L2.start N vs) H _ I hq) (fun fl s' hz => ?_) fun e s' hz => hz
    cases fl with
    | ret u =>
      obtain ⟨v, σ', H', J, rv, q⟩ := hz
      exact ⟨v, H', J.os, J.bare, J.base, J.hok, rv, q⟩
    | next =>
      obtain ⟨σ', H', J, q⟩ := hz
      exact ⟨V.non, H', J.os, J.bare, J.base, J.hok, rfl, q⟩
    | brk =>
      obtain ⟨_, _, _, q⟩ := hz
      exact q.elim
    | cont =>
      obtain ⟨_, _, _, q⟩ := hz
      exact q.elim
abbrev FOkW (P : Program) (w : World) (K : Frag) (mg : Str → Option Value) (base : Heap) (k : Nat) (f : Addr) (fd : FuncData) (ps : List Str) (φ : Fn) : Prop := FnW P w K mg base k f fd ps (spV K mg ps.length φ)
theorem fokw_of {x qual : Str} {st : Stmt} {f : Addr} {fd : FuncData} {N ps : List Str} {k : Nat} {b : SC} (F : Fun K x qual st f fd) (S : FnScope N ps (defScope st))
    (hb : ∀ (cdv : Value) (A : Around) (outer : List Env) (s : Shared) (H : Hp) (E : XK), BOk (cxW P w K mg base N qual (defScope st) f cdv A outer s H E) (defBody st) b) :
    FOkW P w K mg base (k + 1) f fd ps (runBody b N.length) := by
  refine fnw_of F S (fun vs H Q E h => ?_) (fun cdv A outer s H vs Q E h => ?_)
  · obtain ⟨_, as, _, hl, hp, _⟩ := h
    rw [Paired.length hp, hl]
  · refine ⟨_, hb cdv A outer s H E (fun cls d _ H => E cls d H) (takes_of rfl rfl rfl rfl), ?_⟩
    obtain ⟨F0, as, hF, hl, hp, h⟩ := h
    have hpl : ps.length ≤ N.length := by have := congrArg List.length S.pre; rw [List.length_take] at this; omega
    have hvl := Paired.length hp
    refine ⟨H, F0, F0, as.map some ++ List.replicate (N.length - as.length) none, ⟨?_, Gr.refl hF, fun _ => [], fun i => ?_, fun _ _ _ _ z => by cases z⟩, ?_⟩
    · unfold L2.start
      simp only [List.length_append, List.length_map, List.length_replicate]
      omega
    · by_cases hi : i < as.length
      · rw [List.getElem?_append_left (by simpa using hi), List.getElem?_map, List.getElem?_eq_getElem hi]
        obtain ⟨v, hv, ho⟩ := ArgOk.get hp (List.getElem?_eq_getElem hi)
        have e0 : (L2.start N vs)[i]? = some (some v) := by rw [start_get, if_pos (by omega), hv]; rfl
        show SlOk K H H F0 (L2.start N vs) i [] (some (some as[i]))
        match as[i], ho with
        | .own (.fz d), ho => exact ⟨v, e0, OR.fz ho, fun _ z => by cases z⟩
        | .bor d, ho => exact ⟨rfl, v, e0, ho⟩
      · rw [List.getElem?_append_right (by simpa using Nat.le_of_not_lt hi), List.getElem?_replicate]
        split
        · rfl
        · rfl
    · unfold runBody at h
      cases e : b (as.map some ++ List.replicate (N.length - as.length) none) with
      | next ρ' => rw [e] at h; exact fun σ' H' F' s' => h .non H' F' [] s'.gr (OR.fz .non) fun _ z => by cases z
      | ret ow => rw [e] at h; exact h
      | brk _ => rw [e] at h; exact h.elim
      | cont _ => rw [e] at h; exact h.elim
      | err x ρ' => rw [e] at h; exact fun cls d σ' H' F' s' xo => h cls d H' F' s'.gr xo
      | stuck => rw [e] at h; exact h.elim
end
structure DfW (P : Program) (w : World) (K : Frag) (mg : Str → Option Value) (base : Heap) (k : Nat) (f : Addr) (fd : FuncData) (x : Str) (ps : List Str) (φ : Fn) : Prop where
  ok : FOkW P w K mg base k f fd ps φ
  hm : mg x = some (.ref f)
  hk : PySem.W.keepIn K (.ref f) = true
  hb : Binds K fd ps []
theorem DfW.mk' {P : Program} {w : World} {K : Frag} {mg : Str → Option Value} {base : Heap} {k : Nat} {f : Addr} {fd : FuncData} {x : Str} {ps : List Str} {φ : Fn} {qual : Str} {st : Stmt} (F : Fun K x qual st f fd) (hm : mg x = some (.ref f)) (hb : Binds K fd ps []) (ok : FOkW P w K mg base k f fd ps φ) : DfW P w K mg base k f fd x ps φ := ⟨ok, hm, F.kp, hb⟩
def hCall (φ : Fn) (c : HC) : HC := fun x τ => match c x τ with
  | some d => if scal d = true then (match φ [.own (.fz d)] with
    | .ok (.fz d') => some d'
    | _ => none) else none
  | none => none
theorem heok_call {X : Cx} {k k' i : Nat} {f : Addr} {fd : FuncData} {y : Str} {φ : Fn} {x : Str} {p pos : Pos} {e : Expr} {c : HC} (D : DfW X.prog X.w X.K X.mg X.base k f fd x [y] φ) (hr : Room k' X.A) (h : HEOk X i e c) (hk : k ≤ k' := by decide)
    (hg : Gl X x := by rfl) (hdb : (x == ("__debug__" : Str)) = false := by decide) (he : starEach [e] X.env = (false, eval e X.env) :: starEach [] X.env := by rfl) (hpl : (backTo pos (starEach [] X.env)).any (·.1) = false := by rfl) : HEOk X i (.Call (.Name x p) [e] [] pos) (hCall φ c) := fun a dd C oe pn z fs hx => by
  refine ⟨fun pins s σ H Q I ⟨τ, d', e1, s1, h2, q⟩ => ?_⟩
  unfold hCall at e1
  split at e1
  · rename_i d e2
    split at e1
    · rename_i sd
      split at e1
      · rename_i d2 e3
        cases e1
        refine wpAny_Call_Name_kw (ld_glob (X := X.suite a ((a, oe) :: pn)) I hg D.hm ?_ hdb)
        refine PySem.W.callWith_K (h₀ := X.base) I.ok.mod.kin D.hk (thn ((pa_cons (h a dd C oe pn z fs hx) pa_nil he).run pos pins s σ H (fun vs H1 => vs = [vOf d] ∧ Sub H H1) I ⟨τ, d, e2, sd, h2, fun H1 k1 => ⟨rfl, k1⟩⟩) fun us s1' ⟨vs, H1, I1, r, e4, k1⟩ => ⟨I1.kIn, ?_⟩) he hpl
        subst e4
        have hl : us.length = [y].length := by rw [← r.length]; rfl
        have b := D.hb s1' us I1.kIn (by rw [List.append_nil]; exact hl)
        rw [List.append_nil] at b
        have hsp : spV X.K X.mg [y].length φ [vOf d] H1 (fun v H' => v = vOf d' ∧ Sub H1 H') (fun _ _ _ => False) := by
          refine ⟨fun _ => none, [.own (.fz d)], (fun _ _ z => by cases z), rfl, .cons (Rp.scal _ sd) .nil, ?_⟩
          rw [e3]
          intro v H' F' A g o _
          exact ⟨(OR.fz_inv o).2.scal_eq s1, g.hh⟩
        have hroom : L2H.RoomH k (X.suite a ((a, oe) :: pn)).A := ⟨(L2H.roomH_of (hr.mono hk)).dp, (L2H.roomH_of (hr.mono hk)).un⟩
        refine wpAny_call (codeAny_mono (D.ok.run (X.suite a ((a, oe) :: pn)).A X.stack s1' H1 ⟨us, []⟩ us _ _ _ hroom I1.env0 b r hsp) fun rr s' hq => ?_)
        cases rr with
        | error er =>
          have tk : Takes (X.suite a ((a, oe) :: pn)) (fun _ _ _ _ => False) := fun u s' ⟨_, _, _, _, _, _, _, _, _, _, _, _, _, _, _, _, w⟩ => w
          exact passAt tk σ pins H1 s1' er s' I1 hq
        | ok fl =>
          cases fl with
          | ret u =>
            obtain ⟨v, H2, J2, r2, e5, k2⟩ := I1.after hq
            refine ⟨v, H2, J2, r2, ?_⟩
            subst e5
            exact q H2 (k1.trans k2)
          | next => exact False.elim hq
          | brk => exact False.elim hq
          | cont => exact False.elim hq
      · cases e1
    · cases e1
  · cases e1
end VL

set_option Elab.async false
set_option linter.all false
set_option maxRecDepth 100000
set_option maxHeartbeats 4000000
/-! VE13: for the head: from the facts of the written part to Rz and ErrF. -/
namespace VL
open PySem PySem.Spec PyProof.Rows L2
theorem oexC_mk {K : Frag} {nm q : Str} {C N : Addr} {bs bm : List Value} {sn : List Str} {sub : List Value} {ab : Bool} {col : Option Bool} {dd : Option Addr} {k0 k1 k2 k3 k5 : Option Value} (l : K.lookup C = some (excClassObj nm q C N bs bm true sn sub ab col dd k0 k1 k2 k3 k5 "ValueError.__new__"))
    (b : PySem.HandSPX.refsVE bm = true) (sa : PySem.W.findIn K (.ref C) "__setattr__" = some (some (.builtin "object.__setattr__"))) (ex : PySem.W.subIn K (.ref C) (.type "BaseException") = some true) (ty : PySem.W.typeIn K (.ref C) = some (.type "type")) (kp : PySem.W.keepIn K (.ref C) = true) : OexC K C :=
  ⟨⟨nm, q, N, bs, bm, sn, sub, ab, col, dd, k0, k1, k2, k3, k5, l, b⟩, sa, ex, ty, kp⟩
theorem iniC_mk {P : Program} {K : Frag} {C f cda cc : Addr} {qual : Str} {st : Stmt} {oc kV doc pm ct ccl cl : Value} {od an cdd cld : Option Addr} {osl ccs csl : Array (Option Value)} {vs : Array Value} {file : Str} {tf : Tok}
    (lf : K.lookup f = some ⟨oc, od, .func (PySem.W.ksFn "__init__" qual (defArgs st) (defBody st) (defScope st) .none kV doc pm an (.ref cda) ct cc), osl⟩) (cd : PySem.W.codeIn K (.ref cda) qual = true) (lc : K.lookup cda = some ⟨ccl, cdd, .fields vs, ccs⟩)
    (v2 : vs[2]? = some (.str file tf)) (ff : ((P.main.file : Str) == file) = true) (le : K.lookup cc = some ⟨cl, cld, .cell (some (.ref C)), csl⟩) (op : PySem.W.nsIn K PySem.cStatics "thirdparty.any" = some none)
    (ms : PySem.W.ks_superIn K C C "__init__" = some (some (.builtin "ValueError.__init__"))) (top : (P.main.scope.names.lookup ("super" : Str)).isSome = false) :
    IniC P K C f (PySem.W.ksFn "__init__" qual (defArgs st) (defBody st) (defScope st) .none kV doc pm an (.ref cda) ct cc) qual st :=
  ⟨⟨oc, od, kV, doc, pm, ct, an, cda, cc, osl, ccl, cdd, vs, ccs, file, tf, cl, cld, csl, rfl, lf, cd, lc, v2, ff, le⟩, op, ms, top⟩
theorem rz_mk {P : Program} {w : World} {K : Frag} {mg : Str → Option Value} {base : Heap} {C f : Addr} {fd : FuncData} {qual x self v fld txt : Str} {st : Stmt} {j : Nat} {p0 p1 p2 p3 p4 p5 q1 q2 q3 q4 : Pos} (T : OexC K C) (F : IniC P K C f fd qual st) (m : mg x = some (.ref C))
    (ic : PySem.W.findIn K (.ref C) "__init__" = some (some (.ref f))) (ti : PySem.W.typeIn K (.ref f) = some (.type "function")) (hno : PySem.W.findIn K (.ref C) fld = some none) (hs : mg "super" = none)
    (hev : SupEv qual (defScope st) txt j p0 p1 p2 p3 p4) (S : InScope [self, v] (defScope st))
    (hbody : defBody st = [.Expr (.Call (.Attribute (.Call (.Name "super" p0) [] [] p1) "__init__" p2) [.Constant (.str txt) j p3] [] p4) p5, .Assign [.Attribute (.Name self q1) fld q2] (.Name v q3) q4])
    (hp : ((defArgs st).posonlyargs ++ (defArgs st).args).head?.map (·.arg) = some self)
    (hb : ∀ (kV doc pm : Value) (an : Option Addr) (cdv ct : Value) (cc : Addr) (us : List Value), us.length = [self, v].length → bindArgs (PySem.W.ksFn "__init__" qual (defArgs st) (defBody st) (defScope st) .none kV doc pm an cdv ct cc) ⟨us, []⟩ = pure (([self, v] : List Str).zip us))
    (hd1 : (self == ("__debug__" : Str)) = false := by decide) (hd2 : (self == ("__classdict__" : Str)) = false := by decide) (hd3 : (v == ("__debug__" : Str)) = false := by decide) (hd4 : (v == ("__classdict__" : Str)) = false := by decide) : Rz P w K mg base x fld := by
  refine ⟨C, f, fd, [self, v], T, ic, ti, fnok_init1 hev S T F hs hno hbody hp hd1 hd2 hd3 hd4, ?_, m⟩
  obtain ⟨oc, od, kV, doc, pm, ct, an, cda, cc, osl, ccl, cdd, vs, ccs, file, tf, cl, cld, csl, rfl, _⟩ := F.ex
  exact .all fun us hl => hb kV doc pm an (.ref cda) ct cc us hl
def AllP {α : Type} (P : α → Prop) : List α → Prop
  | [] => True
  | a :: r => P a ∧ AllP P r
theorem AllP.of {α : Type} {P : α → Prop} : ∀ {l : List α}, AllP P l → ∀ a ∈ l, P a
  | [], _, a, h => by cases h
  | b :: r, ⟨h1, h2⟩, a, h => by
    rcases List.mem_cons.mp h with rfl | h
    · exact h1
    · exact AllP.of h2 a h
/-- a class of errors: what the written part says for its caught instances -/
def EC1 (K : Frag) (mg : Str → Option Value) (flds : List Str) (p : Str × Addr) : Prop := mg p.1 = some (.ref p.2) ∧ ExcC K p.2 ∧ AllP (fun f => PySem.W.findIn K (.ref p.2) f = some none) flds
def bsub (x y : Str) : Bool := x == y || (y == ("VaultError" : Str) || y == ("ValueError" : Str))
def subOf (cls ys : List Str) (x y : Str) : Option Bool := if x ∈ cls ∧ y ∈ ys then some (bsub x y) else none
theorem nodup_fst {α β : Type} {l : List (α × β)} (h : (l.map Prod.fst).Nodup) : ∀ {a : α} {b c : β}, (a, b) ∈ l → (a, c) ∈ l → b = c := by
  induction l with
  | nil => intro a b c h1; cases h1
  | cons p r ih =>
    intro a b c h1 h2
    rw [List.map_cons, List.nodup_cons] at h
    rcases List.mem_cons.mp h1 with e1 | e1 <;> rcases List.mem_cons.mp h2 with e2 | e2
    · rw [← e1] at e2; cases e2; rfl
    · exact absurd (List.mem_map_of_mem (f := Prod.fst) e2) (by rw [← e1] at h; exact h.1)
    · exact absurd (List.mem_map_of_mem (f := Prod.fst) e1) (by rw [← e2] at h; exact h.1)
    · exact ih h.2 e1 e2
theorem errf_mk {K : Frag} {mg : Str → Option Value} {flds : List Str} (cls : List (Str × Addr)) (ys : List (Str × V × Value)) (h1 : AllP (EC1 K mg flds) cls) (h2 : AllP (fun q : Str × V × Value => NameU mg q.1 q.2.2 ∧ ClsV q.2.1 q.2.2) ys)
    (h3 : AllP (fun p : Str × Addr => AllP (fun q : Str × V × Value => PySem.W.kitOne K (.ref p.2) q.2.2 = some (bsub p.1 q.1) ∧ PySem.W.exmOne K (.ref p.2) q.2.2 = some (bsub p.1 q.1)) ys) cls) : ErrF K mg (cls.map Prod.fst) (ys.map Prod.fst) flds (subOf (cls.map Prod.fst) (ys.map Prod.fst)) where
  ex := fun x hx C hm => by
    obtain ⟨p, hp, rfl⟩ := List.mem_map.mp hx
    obtain ⟨m, E, f⟩ := h1.of p hp
    rw [m] at hm
    cases hm
    exact ⟨E, ⟨E.hg, E.hk, E.hs, E.hd⟩, f.of⟩
  nm := fun y hy => by
    obtain ⟨q, hq, rfl⟩ := List.mem_map.mp hy
    obtain ⟨a, b⟩ := h2.of q hq
    exact ⟨_, _, a, b⟩
  is := fun x y b hb => by
    unfold subOf at hb
    split at hb
    · rename_i hc
      cases hb
      refine ⟨hc.1, hc.2, fun C v u hm hu hv => ?_⟩
      obtain ⟨p, hp, rfl⟩ := List.mem_map.mp hc.1
      obtain ⟨q, hq, rfl⟩ := List.mem_map.mp hc.2
      obtain ⟨m, _⟩ := h1.of p hp
      obtain ⟨n, _⟩ := h2.of q hq
      rw [m] at hm
      cases hm
      obtain rfl := hu.one n
      exact (h3.of p hp).of q hq
    · cases hb
theorem isAny_in {K : Frag} {mg : Str → Option Value} {cls ys flds : List Str} {sub : Str → Str → Option Bool} (G : ErrF K mg cls ys flds sub) {l : List Str} (hl : l ≠ []) (xc : Str) (k : Bool) (h : isAny sub xc l = some k) : xc ∈ cls := by
  cases l with
  | nil => exact absurd rfl hl
  | cons y r =>
    unfold isAny at h
    cases e : sub xc y with
    | none => rw [e] at h; cases h
    | some b => exact (G.is xc y b e).1
end VL

set_option Elab.async false
set_option linter.all false
set_option maxRecDepth 100000
set_option maxHeartbeats 2000000
/-! VP1: plain lemmas: arguments by their data, loops that look for a fault, raise and try. -/
namespace VL
open PySem
/-- an argument that is the data d -/
theorem rv_bor (i : Nat) (d : D) : Sl.rv i (.bor d) = if VL.scal d = true then .val (.fz d) else .bor d := rfl
def Is (s : Sl) (d : D) : Prop := s = .own (.fz d) ∨ s = .bor d
theorem Is.own (d : D) : Is (.own (.fz d)) d := .inl rfl
theorem Is.bor (d : D) : Is (.bor d) d := .inr rfl
theorem Is.rvd {s : Sl} {d : D} (h : Is s d) (i : Nat) : (s.rv i).d = d := by
  rcases h with rfl | rfl
  · rfl
  · rw [rv_bor]
    split <;> rfl
theorem slBor_is (d : D) : Is (slBor d) d := by
  unfold slBor
  split
  · exact .inl rfl
  · exact .inr rfl
theorem Is.arg {s : Sl} {d : D} (h : Is s d) (i : Nat) : Is (s.rv i).arg d := by
  rcases h with rfl | rfl
  · exact .inl rfl
  · rw [rv_bor]
    split
    · exact .inl rfl
    · exact .inr rfl
theorem Is.intv {s : Sl} {n : Int} (h : Is s (.int n)) (i : Nat) : s.rv i = .val (.fz (.int n)) := by rcases h with rfl | rfl <;> rfl
theorem Is.strv {s : Sl} {n : Str} (h : Is s (.str n)) (i : Nat) : s.rv i = .val (.fz (.str n)) := by rcases h with rfl | rfl <;> rfl
theorem Is.boolv {s : Sl} {n : Bool} (h : Is s (.bool n)) (i : Nat) : s.rv i = .val (.fz (.bool n)) := by rcases h with rfl | rfl <;> rfl
theorem Is.nonev {s : Sl} (h : Is s .none) (i : Nat) : s.rv i = .val (.fz .none) := by rcases h with rfl | rfl <;> rfl
theorem Is.scal {s : Sl} {d : D} (h : Is s d) (hs : scal d = true) (i : Nat) : s.rv i = .val (.fz d) := by
  rcases h with rfl | rfl
  · rfl
  · rw [rv_bor, if_pos hs]
/-- what a loop walks over -/
theorem Is.iter {s : Sl} {d : D} {ds : List D} (h : Is s d) (e : rowOf d = some ds) (i : Nat) : ∃ ss, (s.rv i).iter = some ss ∧ ss.length = ds.length ∧ ∀ (k : Nat) (x : D), ds[k]? = some x → ∃ t, ss[k]? = some t ∧ Is t x := by
  rcases h with rfl | rfl
  · refine ⟨ds.map slOf, ?_, by simp, fun k x hx => ⟨slOf x, by rw [List.getElem?_map, hx]; rfl, .inl rfl⟩⟩
    show (match rowOf d with | some ds => some (ds.map slOf) | none => Option.none) = _
    rw [e]
  · by_cases hs : VL.scal d = true
    · cases d <;> first | (cases e; done) | (cases hs; done)
    · refine ⟨ds.map slBor, ?_, by simp, fun k x hx => ⟨slBor x, by rw [List.getElem?_map, hx]; rfl, slBor_is x⟩⟩
      have : Sl.rv i (.bor d) = .bor d := by rw [rv_bor, if_neg hs]
      rw [this]
      show (match rowOf d with | some ds => some (ds.map slBor) | none => Option.none) = _
      rw [e]
theorem ev_var {i : Nat} {ρ : Rho} {s : Sl} (h : ρ[i]? = some (some s)) : eVar i ρ = .ok (s.rv i) := by unfold eVar; rw [h]
theorem enum_is {ss : List Sl} {k : Nat} {v : List Sl} (h : (enumS 0 ss)[k]? = some v) : ∃ t, ss[k]? = some t ∧ v = [.own (.fz (.int k)), t] := by
  rw [enumS_get] at h
  cases e : ss[k]? with
  | none => rw [e] at h; cases h
  | some t =>
    rw [e] at h
    simp at h
    refine ⟨t, rfl, ?_⟩
    rw [← h]
    rfl
/-- a loop: turn after turn, up to the end or to a turn that does not go on -/
theorem forL_to {tg : List Nat} {b : SC} (I : Nat → Rho → Prop) {r : SRes} (hr : ∀ ρ, r ≠ .next ρ ∧ r ≠ .cont ρ ∧ r ≠ .brk ρ) : ∀ {vs : List (List Sl)} {ρ : Rho} (n : Nat) (v : List Sl), vs[n]? = some v → ∀ k0, I k0 ρ →
    (∀ k v ρ, k < n → vs[k]? = some v → I (k0 + k) ρ → ∃ ρ', (b (setAll tg v ρ) = .next ρ' ∨ b (setAll tg v ρ) = .cont ρ') ∧ I (k0 + k + 1) ρ') → (∀ ρ, I (k0 + n) ρ → b (setAll tg v ρ) = r) → forL tg b vs ρ = r
  | [], _, _, _, h, _, _, _, _ => by simp at h
  | w :: vs, ρ, 0, v, h, k0, hI, _, hn => by
    simp at h; subst h
    have e := hn ρ hI
    unfold forL
    rw [e]
    cases r with
    | next ρ => exact absurd rfl (hr ρ).1
    | cont ρ => exact absurd rfl (hr ρ).2.1
    | brk ρ => exact absurd rfl (hr ρ).2.2
    | _ => rfl
  | w :: vs, ρ, n + 1, v, h, k0, hI, st, hn => by
    obtain ⟨ρ1, e, h1⟩ := st 0 w ρ (by omega) rfl hI
    have ih := forL_to I hr (vs := vs) (ρ := ρ1) n v (by simpa using h) (k0 + 1) h1 (fun k x ρ hk hx hI' => by
      have := st (k + 1) x ρ (by omega) (by simpa using hx) (by rw [show k0 + (k + 1) = k0 + 1 + k by omega]; exact hI')
      rw [show k0 + (k + 1) + 1 = k0 + 1 + k + 1 by omega] at this
      exact this) fun ρ hI' => hn ρ (by rw [show k0 + (n + 1) = k0 + 1 + n by omega]; exact hI')
    unfold forL
    rcases e with e | e <;> rw [e] <;> exact ih
theorem for_to {tg : List Nat} {it : IC} {b : SC} {vs : List (List Sl)} {ρ : Rho} (I : Nat → Rho → Prop) {r : SRes} (h : it ρ = .ok vs) (hr : ∀ ρ, r ≠ .next ρ ∧ r ≠ .cont ρ ∧ r ≠ .brk ρ) (n : Nat) (v : List Sl) (hv : vs[n]? = some v) (h0 : I 0 ρ)
    (st : ∀ k v ρ, k < n → vs[k]? = some v → I k ρ → ∃ ρ', (b (setAll tg v ρ) = .next ρ' ∨ b (setAll tg v ρ) = .cont ρ') ∧ I (k + 1) ρ') (hn : ∀ ρ, I n ρ → b (setAll tg v ρ) = r) : sFor tg it b ρ = r := by
  unfold sFor
  rw [h]
  exact forL_to I hr n v hv 0 h0 (fun k v ρ hk hv hI => by simpa using st k v ρ hk hv (by simpa using hI)) fun ρ hI => hn ρ (by simpa using hI)
theorem ret_np (ow : Ow) : ∀ ρ, SRes.ret ow ≠ .next ρ ∧ SRes.ret ow ≠ .cont ρ ∧ SRes.ret ow ≠ .brk ρ := fun ρ => ⟨nofun, nofun, nofun⟩
theorem err_np (x : Exn) (ρ' : Rho) : ∀ ρ, SRes.err x ρ' ≠ .next ρ ∧ SRes.err x ρ' ≠ .cont ρ ∧ SRes.err x ρ' ≠ .brk ρ := fun ρ => ⟨nofun, nofun, nofun⟩
/-- .. an end that some state gives -/
theorem forL_err {tg : List Nat} {b : SC} (I : Nat → Rho → Prop) {x : Exn} : ∀ {vs : List (List Sl)} {ρ : Rho} (n : Nat) (v : List Sl), vs[n]? = some v → ∀ k0, I k0 ρ →
    (∀ k v ρ, k < n → vs[k]? = some v → I (k0 + k) ρ → ∃ ρ', (b (setAll tg v ρ) = .next ρ' ∨ b (setAll tg v ρ) = .cont ρ') ∧ I (k0 + k + 1) ρ') → (∀ ρ, I (k0 + n) ρ → ∃ ρ', b (setAll tg v ρ) = .err x ρ') → ∃ ρ', forL tg b vs ρ = .err x ρ'
  | [], _, _, _, h, _, _, _, _ => by simp at h
  | w :: vs, ρ, 0, v, h, k0, hI, _, hn => by
    simp at h; subst h
    obtain ⟨ρ', e⟩ := hn ρ hI
    refine ⟨ρ', ?_⟩
    unfold forL
    rw [e]
  | w :: vs, ρ, n + 1, v, h, k0, hI, st, hn => by
    obtain ⟨ρ1, e, h1⟩ := st 0 w ρ (by omega) rfl hI
    obtain ⟨ρ', ih⟩ := forL_err I (vs := vs) (ρ := ρ1) n v (by simpa using h) (k0 + 1) h1 (fun k x ρ hk hx hI' => by
      have := st (k + 1) x ρ (by omega) (by simpa using hx) (by rw [show k0 + (k + 1) = k0 + 1 + k by omega]; exact hI')
      rw [show k0 + (k + 1) + 1 = k0 + 1 + k + 1 by omega] at this
      exact this) fun ρ hI' => hn ρ (by rw [show k0 + (n + 1) = k0 + 1 + n by omega]; exact hI')
    refine ⟨ρ', ?_⟩
    unfold forL
    rcases e with e | e <;> rw [e] <;> exact ih
theorem for_err {tg : List Nat} {it : IC} {b : SC} {vs : List (List Sl)} {ρ : Rho} (I : Nat → Rho → Prop) {x : Exn} (h : it ρ = .ok vs) (n : Nat) (v : List Sl) (hv : vs[n]? = some v) (h0 : I 0 ρ)
    (st : ∀ k v ρ, k < n → vs[k]? = some v → I k ρ → ∃ ρ', (b (setAll tg v ρ) = .next ρ' ∨ b (setAll tg v ρ) = .cont ρ') ∧ I (k + 1) ρ') (hn : ∀ ρ, I n ρ → ∃ ρ', b (setAll tg v ρ) = .err x ρ') : ∃ ρ', sFor tg it b ρ = .err x ρ' := by
  unfold sFor
  rw [h]
  exact forL_err I n v hv 0 h0 (fun k v ρ hk hv hI => by simpa using st k v ρ hk hv (by simpa using hI)) fun ρ hI => hn ρ (by simpa using hI)
/-- for x in ..: if not p(x): return False -- then: return True -/
theorem for_all {tg : List Nat} {it : IC} {b : SC} {ρ : Rho} {vs : List (List Sl)} (p : List Sl → Bool) (h : it ρ = .ok vs) (hs : ∀ v ∈ vs, ∀ w ∈ vs, setAll tg w (setAll tg v ρ) = setAll tg w ρ)
    (hb : ∀ v ∈ vs, b (setAll tg v ρ) = if p v = true then .next (setAll tg v ρ) else .ret (.fz (.bool false))) : sSeq (sFor tg it b) (sRet (eK (.bool true))) ρ = .ret (.fz (.bool (vs.all p))) := by
  have key : ∀ (ws : List (List Sl)) (ρ' : Rho), (∀ w ∈ ws, w ∈ vs) → (∀ w ∈ vs, setAll tg w ρ' = setAll tg w ρ) → (ws.all p = true → ∃ ρ2, forL tg b ws ρ' = .next ρ2) ∧ (ws.all p = false → forL tg b ws ρ' = .ret (.fz (.bool false))) := by
    intro ws
    induction ws with
    | nil => intro ρ' _ _; exact ⟨fun _ => ⟨ρ', rfl⟩, fun h => by cases h⟩
    | cons w ws ih =>
      intro ρ' hm hρ
      have hw := hm w List.mem_cons_self
      have e := hb w hw
      obtain ⟨i1, i2⟩ := ih (setAll tg w ρ) (fun x hx => hm x (List.mem_cons_of_mem _ hx)) fun x hx => hs w hw x hx
      rw [List.all_cons]
      unfold forL
      rw [hρ w hw, e]
      cases hp : p w with
      | true => simpa only [Bool.true_and, if_true] using And.intro i1 i2
      | false => simp
  obtain ⟨k1, k2⟩ := key vs ρ (fun _ h => h) fun _ _ => rfl
  unfold sSeq sFor
  rw [h]
  show (match forL tg b vs ρ with | .next ρ' => sRet (eK (.bool true)) ρ' | r => r) = _
  cases hp : vs.all p with
  | true =>
    obtain ⟨ρ2, e⟩ := k1 hp
    rw [e]
    rfl
  | false => rw [k2 hp]
/-! ### tests -/
theorem tb_v {a : EC} {ρ : Rho} {b : Bool} (h : a ρ = .ok (.val (.fz (.bool b)))) : VL.tB a ρ = .ok b := by unfold VL.tB; rw [h]; rfl
theorem not_v {a : TC} {ρ : Rho} {b : Bool} (h : a ρ = .ok b) : VL.tNot a ρ = .ok (!b) := by unfold VL.tNot; rw [h]; rfl
theorem or_t {a b : TC} {ρ : Rho} (h : a ρ = .ok true) : VL.tOr a b ρ = .ok true := by unfold VL.tOr; rw [h]; rfl
theorem or_v {a b : TC} {ρ : Rho} {x y : Bool} (h : a ρ = .ok x) (k : x = false → b ρ = .ok y) : VL.tOr a b ρ = .ok (x || y) := by
  cases x with
  | true => exact or_t h
  | false => exact or_f h (k rfl)
theorem and_v {a b : TC} {ρ : Rho} {x y : Bool} (h : a ρ = .ok x) (k : x = true → b ρ = .ok y) : VL.tAnd a b ρ = .ok (x && y) := by
  cases x with
  | true => exact and_t h (k rfl)
  | false => exact and_f h
theorem eq_t {a b : EC} {ρ : Rho} {i j : Int} (h : a ρ = .ok (.val (.fz (.int i)))) (h' : b ρ = .ok (.val (.fz (.int j)))) : VL.tB (eBin fEq a b) ρ = .ok (decide (i = j)) := tb_v (bin_v h h' (fEq_int _ _))
theorem ne_t {a b : EC} {ρ : Rho} {i j : Int} (h : a ρ = .ok (.val (.fz (.int i)))) (h' : b ρ = .ok (.val (.fz (.int j)))) : VL.tB (eBin fNe a b) ρ = .ok (!decide (i = j)) := tb_v (bin_v h h' (fNe_int _ _))
theorem lt_t {a b : EC} {ρ : Rho} {i j : Int} (h : a ρ = .ok (.val (.fz (.int i)))) (h' : b ρ = .ok (.val (.fz (.int j)))) : VL.tB (eBin fLt a b) ρ = .ok (decide (i < j)) := tb_v (bin_v h h' (lt_s _ _))
theorem le_t {a b : EC} {ρ : Rho} {i j : Int} (h : a ρ = .ok (.val (.fz (.int i)))) (h' : b ρ = .ok (.val (.fz (.int j)))) : VL.tB (eBin fLe a b) ρ = .ok (decide (i ≤ j)) := tb_v (bin_v h h' (le_s _ _))
theorem gt_t {a b : EC} {ρ : Rho} {i j : Int} (h : a ρ = .ok (.val (.fz (.int i)))) (h' : b ρ = .ok (.val (.fz (.int j)))) : VL.tB (eBin fGt a b) ρ = .ok (decide (j < i)) := tb_v (bin_v h h' (gt_s _ _))
theorem ge_t {a b : EC} {ρ : Rho} {i j : Int} (h : a ρ = .ok (.val (.fz (.int i)))) (h' : b ρ = .ok (.val (.fz (.int j)))) : VL.tB (eBin fGe a b) ρ = .ok (decide (j ≤ i)) := tb_v (bin_v h h' (ge_s _ _))
/-- if, its test known by a bool -/
theorem if_b {t : TC} {a b : SC} {ρ : Rho} {c : Bool} {r : SRes} (h : t ρ = .ok c) (ht : c = true → a ρ = r) (hf : c = false → b ρ = r) : sIf t a b ρ = r := by
  cases c with
  | true => exact if_t h (ht rfl)
  | false => exact if_f h (hf rfl)
theorem dT {p : Prop} [Decidable p] (h : p) {x : Res Bool} (e : x = .ok (decide p)) : x = .ok true := by rw [e, decide_eq_true h]
theorem dF {p : Prop} [Decidable p] (h : ¬ p) {x : Res Bool} (e : x = .ok (decide p)) : x = .ok false := by rw [e, decide_eq_false h]
theorem nT {p : Prop} [Decidable p] (h : ¬ p) {x : Res Bool} (e : x = .ok (!decide p)) : x = .ok true := by rw [e, decide_eq_false h]; rfl
theorem nF {p : Prop} [Decidable p] (h : p) {x : Res Bool} (e : x = .ok (!decide p)) : x = .ok false := by rw [e, decide_eq_true h]; rfl
/-! ### raise, try -/
theorem raise_v {x f : Str} {a : EC} {ρ : Rho} {d : D} (h : a ρ = .ok (.val (.fz d))) (hs : scal d = true) : sRaise x f a ρ = .err ⟨x, [(f, d)]⟩ ρ := by
  unfold sRaise
  rw [h]
  show (if scal d = true then SRes.err ⟨x, [(f, d)]⟩ ρ else .stuck) = _
  rw [if_pos hs]
theorem seq_e {a b : SC} {ρ ρ' : Rho} {x : Exn} (h : a ρ = .err x ρ') : sSeq a b ρ = .err x ρ' := by
  unfold sSeq; rw [h]
theorem run_err {b : SC} {n : Nat} {as : List Sl} {x : Exn} {ρ' : Rho} (ρ : Rho) (h : b ρ = .err x ρ') (hρ : as.map some ++ List.replicate (n - as.length) none = ρ := by rfl) : runBody b n as = .err x := by
  unfold runBody
  rw [hρ, h]
theorem call_err {φ : Fn} {cs : List EC} {ρ : Rho} {xs : List RV} {x : Exn} (h : VL.evalAll cs ρ = .ok xs) (k : φ (xs.map RV.arg) = .err x) : eCall φ cs ρ = .err x := by
  unfold eCall
  rw [h]
  show (φ (xs.map RV.arg)).bind _ = _
  rw [k]; rfl
theorem ret_e {a : EC} {ρ : Rho} {x : Exn} (h : a ρ = .err x) : sRet a ρ = .err x ρ := by
  unfold sRet; rw [h]
theorem set_e {i : Nat} {a : EC} {ρ : Rho} {x : Exn} (h : a ρ = .err x) : sSet i a ρ = .err x ρ := by
  unfold sSet; rw [h]
theorem ex_v {a : EC} {ρ : Rho} {x : RV} (h : a ρ = .ok x) : sEx a ρ = .next ρ := by
  unfold sEx; rw [h]
theorem ex_e {a : EC} {ρ : Rho} {x : Exn} (h : a ρ = .err x) : sEx a ρ = .err x ρ := by
  unfold sEx; rw [h]
theorem unp_e {tg : List Nat} {a : EC} {ρ : Rho} {x : Exn} (h : a ρ = .err x) : sUnp tg a ρ = .err x ρ := by
  unfold sUnp; rw [h]
theorem if_e {t : TC} {a b : SC} {ρ : Rho} {x : Exn} (h : t ρ = .err x) : sIf t a b ρ = .err x ρ := by
  unfold sIf; rw [h]
theorem un_e {f : RV → Res RV} {a : EC} {ρ : Rho} {x : Exn} (h : a ρ = .err x) : eUn f a ρ = .err x := by
  unfold eUn; rw [h]; rfl
theorem bin_e {f : RV → RV → Res RV} {a b : EC} {ρ : Rho} {x : Exn} (h : a ρ = .err x) : eBin f a b ρ = .err x := by
  unfold eBin; rw [h]; rfl
theorem ev_e {c : EC} {cs : List EC} {ρ : Rho} {x : Exn} (h : c ρ = .err x) : VL.evalAll (c :: cs) ρ = .err x := by
  unfold VL.evalAll; rw [h]; rfl
theorem call_ae {φ : Fn} {cs : List EC} {ρ : Rho} {x : Exn} (h : VL.evalAll cs ρ = .err x) : eCall φ cs ρ = .err x := by
  unfold eCall; rw [h]; rfl
theorem try_n {sub : Str → Str → Option Bool} {b : SC} {cl : List HCl2} {ρ ρ' : Rho} (h : b ρ = .next ρ') : sTry2 sub b cl ρ = .next ρ' := by
  unfold sTry2; rw [h]
theorem try_r {sub : Str → Str → Option Bool} {b : SC} {cl : List HCl2} {ρ : Rho} {ow : Ow} (h : b ρ = .ret ow) : sTry2 sub b cl ρ = .ret ow := by
  unfold sTry2; rw [h]
theorem try_e {sub : Str → Str → Option Bool} {b : SC} {cl : List HCl2} {ρ ρ' : Rho} {x : Exn} {r : SRes} (h : b ρ = .err x ρ') (k : hRun2 sub cl x ρ' = r) : sTry2 sub b cl ρ = r := by
  unfold sTry2; rw [h]; exact k
/-- what is an int between two bounds -/
def isNum (d : D) (lo hi : Int) : Bool := match d with
  | .int v => decide (lo ≤ v) && decide (v ≤ hi)
  | _ => false
theorem isNum_scal {d : D} {lo hi : Int} (h : isNum d lo hi = true) : ∃ v, d = .int v ∧ lo ≤ v ∧ v ≤ hi := by
  cases d with
  | int v =>
    have h : (decide (lo ≤ v) && decide (v ≤ hi)) = true := h
    simp at h
    exact ⟨v, rfl, h⟩
  | _ => cases h
/-- the first member that is bad -/
def firstBad (p : D → Bool) : List D → Nat → Option Nat
  | [], _ => none
  | d :: r, k => if p d = true then firstBad p r (k + 1) else some k
theorem firstBad_none {p : D → Bool} : ∀ {ds : List D} {k : Nat}, firstBad p ds k = none → ∀ d ∈ ds, p d = true
  | [], _, _, d, h => by cases h
  | e :: r, k, h, d, hd => by
    unfold firstBad at h
    split at h
    · rename_i he
      rcases List.mem_cons.mp hd with rfl | hd
      · exact he
      · exact firstBad_none h d hd
    · cases h
theorem firstBad_some {p : D → Bool} : ∀ {ds : List D} {k n : Nat}, firstBad p ds k = some n → ∃ j d, n = k + j ∧ ds[j]? = some d ∧ p d = false ∧ ∀ i x, i < j → ds[i]? = some x → p x = true
  | [], _, _, h => by cases h
  | e :: r, k, n, h => by
    unfold firstBad at h
    split at h
    · rename_i he
      obtain ⟨j, d, h1, h2, h3, h4⟩ := firstBad_some h
      refine ⟨j + 1, d, by omega, by simpa using h2, h3, fun i x hi hx => ?_⟩
      cases i with
      | zero => simp at hx; subst hx; exact he
      | succ i => exact h4 i x (by omega) (by simpa using hx)
    · rename_i he
      cases h
      exact ⟨0, e, rfl, rfl, by simpa using he, fun i x hi => by omega⟩
theorem firstBad_all {p : D → Bool} : ∀ {ds : List D} {k : Nat}, (∀ d ∈ ds, p d = true) → firstBad p ds k = none
  | [], _, _ => rfl
  | e :: r, k, h => by
    unfold firstBad
    rw [if_pos (h e List.mem_cons_self)]
    exact firstBad_all fun d hd => h d (List.mem_cons_of_mem _ hd)
theorem firstBad_at {p : D → Bool} {x : D} (hx : p x = false) : ∀ {ds es : List D} {k : Nat}, (∀ d ∈ ds, p d = true) → firstBad p (ds ++ x :: es) k = some (k + ds.length)
  | [], es, k, _ => by show firstBad p (x :: es) k = _; unfold firstBad; rw [if_neg (by simp [hx])]; rfl
  | e :: r, es, k, h => by
    show firstBad p (e :: (r ++ x :: es)) k = _
    unfold firstBad
    rw [if_pos (h e List.mem_cons_self), firstBad_at hx fun d hd => h d (List.mem_cons_of_mem _ hd)]
    simp [List.length_cons]; omega
theorem len_is {s : Sl} {d : D} {ds : List D} (h : Is s d) (e : rowOf d = some ds) (i : Nat) : fLen (s.rv i) = .ok (.val (.fz (.int ds.length))) := by
  have : (s.rv i).d = d := h.rvd i
  unfold fLen
  rw [this]
  cases d with
  | list _ => cases e; rfl
  | tuple _ => cases e; rfl
  | _ => cases e
theorem list_is {s : Sl} {d : D} {ds : List D} (h : Is s d) (e : rowOf d = some ds) (hs : ds.all scal = true) (i : Nat) : fList (s.rv i) = .ok (.val (.ls (ds.map Ow.fz))) := by
  rcases h with rfl | rfl
  · exact list_s e
  · cases d with
    | list _ => cases e; show (match (if ds.all scal = true then some (ds.map Ow.fz) else none) with | some xs => Res.ok (RV.val (.ls xs)) | none => .stuck) = _; rw [if_pos hs]
    | tuple _ => cases e; show (match (if ds.all scal = true then some (ds.map Ow.fz) else none) with | some xs => Res.ok (RV.val (.ls xs)) | none => .stuck) = _; rw [if_pos hs]
    | _ => cases e
/-! data compared with itself -/
theorem fNe_self {x y : RV} (e : x.d = y.d) (h : SeqAt.shaped y.d = true) : fNe x y = .ok (.val (.fz (.bool false))) := by
  unfold fNe
  rw [e, if_pos ⟨h, h⟩, PySem.SeqAt.eqv_refl _ (SeqAt.canLay_of_shaped h)]
  rfl
theorem fEq_self {x y : RV} (e : x.d = y.d) (h : SeqAt.shaped y.d = true) : fEq x y = .ok (.val (.fz (.bool true))) := by
  unfold fEq
  rw [e, if_pos ⟨h, h⟩, PySem.SeqAt.eqv_refl _ (SeqAt.canLay_of_shaped h)]
  rfl
/-- a place in a row of whole numbers -/
theorem Is.ixI {s : Sl} {L : List Int} (h : Is s (.list (dI L))) (i : Nat) {k : Int} {x : Int} (h0 : 0 ≤ k) (hx : L[k.toNat]? = some x) : fIx (s.rv i) (.val (.fz (.int k))) = .ok (.val (.fz (.int x))) := by
  rcases h with rfl | rfl
  · exact ix_I h0 hx
  · have hk : k < (dI L).length := by
      have := (List.getElem?_eq_some_iff.mp hx).1
      rw [dI_len]; omega
    show fIx (.bor (.list (dI L))) _ = _
    unfold fIx
    simp only [RV.d, Ow.toD, atI_nat (dI L) h0 hk, dI_get, hx, Option.map_some]
    rfl
theorem Is.lenI {s : Sl} {L : List Int} (h : Is s (.list (dI L))) (i : Nat) : fLen (s.rv i) = .ok (.val (.fz (.int L.length))) := by
  rw [len_is h rfl i, dI_len]
theorem rng1_of {a : EC} {ρ : Rho} {n : Nat} (h : a ρ = .ok (.val (.fz (.int n)))) (hn : n ≤ 1000) : iRng1 a ρ = .ok (rangeS 0 n) := rng1_s h (by omega) (by omega)
theorem mem_rangeS {lo hi : Int} {v : List Sl} (h : v ∈ rangeS lo hi) : ∃ k : Nat, v = [.own (.fz (.int (lo + k)))] ∧ k < (hi - lo).toNat := by
  obtain ⟨k, hk, e⟩ := List.mem_map.mp h
  exact ⟨k, e.symm, List.mem_range.mp hk⟩
theorem mem_rangeS0 {n : Nat} {v : List Sl} (h : v ∈ rangeS 0 n) : ∃ k : Nat, v = [.own (.fz (.int k))] ∧ k < n := by
  obtain ⟨k, e, hk⟩ := mem_rangeS h
  exact ⟨k, by rw [e, Int.zero_add], by omega⟩
theorem all_true {α : Type} {l : List α} {p : α → Bool} (h : ∀ a ∈ l, p a = true) : l.all p = true := List.all_eq_true.mpr h
/-- for k in ..: if not ..: return False -- then: return True; all turns go on -/
theorem for_ok {tg : List Nat} {it : IC} {b : SC} {ρ : Rho} {vs : List (List Sl)} (h : it ρ = .ok vs) (hs : ∀ v ∈ vs, ∀ w ∈ vs, setAll tg w (setAll tg v ρ) = setAll tg w ρ) (hb : ∀ v ∈ vs, b (setAll tg v ρ) = .next (setAll tg v ρ)) :
    sSeq (sFor tg it b) (sRet (eK (.bool true))) ρ = .ret (.fz (.bool true)) := by
  rw [for_all (fun _ => true) h hs fun v hv => by rw [hb v hv]; rfl]
  rw [all_true fun _ _ => rfl]
end VL

set_option Elab.async false
set_option linter.all false
set_option maxRecDepth 100000
set_option maxHeartbeats 4000000
namespace PR
open PySem PySem.Spec PyProof.Rows L2 VL
/-! is_number -/
def b_is_number : SC := (sSeq (sIf (tOr (tNot (tB (eUn (fIsI .int) (eVar 0)))) (tB (eUn (fIsI .bool) (eVar 0)))) (sRet (eK (.bool false))) sPass) (sRet (eChain fLe fLe (eVar 1) (eVar 0) (eVar 2))))
def φ_is_number : Fn := runBody b_is_number 3
/-! is_row -/
def b_is_row : SC := (sRet (eUn (fIsIs [.list, .tuple]) (eVar 0)))
def φ_is_row : Fn := runBody b_is_row 1
/-! is_link -/
def b_is_link : SC := (sRet (eAnd (eCall φ_is_number [(eVar 2), (eK (.int 1)), (eVar 0)]) (eAnd (eCall φ_is_number [(eVar 1), (eK (.int 0)), (eVar 0)]) (eBin fNe (eVar 1) (eVar 2)))))
def φ_is_link : Fn := runBody b_is_link 3
/-! check_frame -/
def b_check_frame : SC := (sSeq (sIf (tOr (tNot (tB (eCall φ_is_row [(eVar 0)]))) (tB (eBin fNe (eUn fLen (eVar 0)) (eK (.int 2))))) (sRaise "BadHouse" "at" (eUn fNeg (eK (.int 1)))) sPass) (sSeq (sUnp [1, 2] (eVar 0)) (sSeq (sFrz 2 (sFrz 1 (sIf (tOr (tNot (tB (eCall φ_is_number [(eVar 1), (eK (.int 1)), (eK (.int 10))]))) (tNot (tB (eCall φ_is_row [(eVar 2)])))) (sRaise "BadHouse" "at" (eUn fNeg (eK (.int 1)))) sPass))) (sSeq (sIf (tB (eBin fGt (eUn fLen (eVar 2)) (eK (.int 30)))) (sRaise "TooMany" "limit" (eK (.int 30))) sPass) (sRetM [.mv 1, .mv 2])))))
def φ_check_frame : Fn := runBody b_check_frame 3
/-! check_house -/
def w_check_house_0 : SC := (sSeq (sIf (tOr (tNot (tB (eCall φ_is_row [(eVar 5)]))) (tB (eBin fNe (eUn fLen (eVar 5)) (eK (.int 3))))) (sRaise "BadHouse" "at" (eVar 4)) sPass) (sSeq (sUnp [6, 7, 8] (eVar 5)) (sSeq (sFrz 8 (sFrz 7 (sFrz 6 (sFrz 1 (sIf (tOr (tNot (tB (eCall φ_is_link [(eVar 1), (eVar 6), (eVar 7)]))) (tNot (tB (eCall φ_is_number [(eVar 8), (eK (.int 0)), (eK (.int 999))])))) (sRaise "BadHouse" "at" (eVar 4)) sPass))))) (sFrz 8 (sFrz 7 (sFrz 6 (sApp (eVar 3) (eTup [(eVar 6), (eVar 7), (eVar 8)]))))))))
def b_check_house : SC := (sSeq (sUnp [1, 2] (eCall φ_check_frame [(eVar 0)])) (sSeq (sSet 3 (eLst [])) (sSeq (sFrz 2 (sFor [4, 5] (iEnum (eVar 2)) w_check_house_0)) (sRetM [.mv 1, .mv 3]))))
def φ_check_house : Fn := runBody b_check_house 9
/-! first_fault -/
def w_first_fault_0 : SC := (sSeq (sIf (tNot (tB (eCall φ_is_number [(eVar 4), (eVar 1), (eVar 2)]))) (sRet (eVar 3)) sPass) (sIf (tAnd (tB (eBin fGt (eVar 3) (eK (.int 0)))) (tB (eBin fLe (eVar 4) (eBin fIx (eVar 0) (eBin fSub (eVar 3) (eK (.int 1))))))) (sRet (eVar 3)) sPass))
def b_first_fault : SC := (sSeq (sFor [3, 4] (iEnum (eVar 0)) w_first_fault_0) (sRet (eK .none)))
def φ_first_fault : Fn := runBody b_first_fault 5
/-! check_choice -/
def b_check_choice : SC := (sSeq (sIf (tNot (tB (eCall φ_is_row [(eVar 0)]))) (sRaise "BadChoice" "at" (eUn fNeg (eK (.int 1)))) sPass) (sSeq (sSet 3 (eCall φ_first_fault [(eVar 0), (eVar 1), (eVar 2)])) (sSeq (sIf (tB (eUn fNotN (eVar 3))) (sRaise "BadChoice" "at" (eVar 3)) sPass) (sRet (eUn fList (eVar 0))))))
def φ_check_choice : Fn := runBody b_check_choice 4
/-! check_kept -/
def b_check_kept : SC := (sSeq (sIf (tB (eUn fIsN (eVar 0))) (sRet (eUn fLRng1 (eVar 1))) sPass) (sRet (eCall φ_check_choice [(eVar 0), (eK (.int 0)), (eBin fSub (eVar 1) (eK (.int 1)))])))
def φ_check_kept : Fn := runBody b_check_kept 2
/-! enters -/
def b_enters : SC := (sRet (eAnd (eBin fIn (eBin fIx (eVar 0) (eK (.int 1))) (eVar 1)) (eBin fNotIn (eBin fIx (eVar 0) (eK (.int 0))) (eVar 1))))
def φ_enters : Fn := runBody b_enters 2
/-! entering_among -/
def b_entering_among : SC := (sRet (eComp [3] (iRow (eVar 1)) (tB (eCall φ_enters [(eBin fIx (eVar 0) (eVar 3)), (eVar 2)])) (eVar 3)))
def φ_entering_among : Fn := runBody b_entering_among 4
/-! cost_of -/
def b_cost_of : SC := (sRet (eUn fSum (eComp [2] (iRow (eVar 1)) tYes (eBin fIx (eBin fIx (eVar 0) (eVar 2)) (eK (.int 2))))))
def φ_cost_of : Fn := runBody b_cost_of 3
/-! part_of -/
def b_part_of : SC := (sSeq (sUnp [2, 3] (eCall φ_check_house [(eVar 0)])) (sSeq (sFrz 1 (sSet 1 (eCall φ_check_kept [(eVar 1), (eUn fLen (eVar 3))]))) (sFrz 1 (sRetM [.mv 2, .ev (eComp [4] (iRow (eVar 1)) tYes (eBin fIx (eVar 3) (eVar 4)))]))))
def φ_part_of : Fn := runBody b_part_of 5
/-! entering -/
def b_entering : SC := (sSeq (sUnp [3, 4] (eCall φ_check_house [(eVar 0)])) (sSeq (sFrz 1 (sSet 1 (eCall φ_check_kept [(eVar 1), (eUn fLen (eVar 4))]))) (sSeq (sFrz 3 (sFrz 2 (sSet 2 (eCall φ_check_choice [(eVar 2), (eK (.int 1)), (eVar 3)])))) (sFrz 2 (sFrz 1 (sFrz 4 (sRet (eCall φ_entering_among [(eVar 4), (eVar 1), (eVar 2)]))))))))
def φ_entering : Fn := runBody b_entering 5
/-! total_size -/
def b_total_size : SC := (sSeq (sSet 2 (eBin fIx (eCall φ_check_house [(eVar 0)]) (eK (.int 1)))) (sFrz 2 (sRet (eCall φ_cost_of [(eVar 2), (eCall φ_check_kept [(eVar 1), (eUn fLen (eVar 2))])]))))
def φ_total_size : Fn := runBody b_total_size 3
/-! check_number -/
def b_check_number : SC := (sIf (tNot (tB (eCall φ_is_number [(eVar 0), (eVar 1), (eVar 2)]))) (sRaise "BadNumber" "what" (eVar 3)) sPass)
def φ_check_number : Fn := runBody b_check_number 4
/-! without -/
def b_without : SC := (sRet (eComp [2] (iRow (eVar 0)) (tB (eBin fNotIn (eVar 2) (eVar 1))) (eVar 2)))
def φ_without : Fn := runBody b_without 3
/-! given_days -/
def w_given_days_0 : SC := (sIf (tAnd (tB (eBin fNotIn (eBin fIx (eVar 4) (eK (.int 1))) (eVar 2))) (tOr (tB (eBin fEq (eBin fIx (eVar 4) (eK (.int 0))) (eK (.int 0)))) (tB (eBin fIn (eBin fIx (eVar 4) (eK (.int 0))) (eVar 2))))) (sSeq (sApp (eVar 2) (eBin fIx (eVar 4) (eK (.int 1)))) (sSet 3 (eK (.bool true)))) sPass)
def w_given_days_1 : SC := (sSeq (sSet 3 (eK (.bool false))) (sFor [4] (iRow (eVar 0)) w_given_days_0))
def b_given_days : SC := (sSeq (sSet 2 (eUn fList (eVar 1))) (sSeq (sSet 3 (eK (.bool true))) (sSeq (sWhile (tB (eVar 3)) w_given_days_1) (sFrz 2 (sRet (eUn fSorted (eVar 2)))))))
def φ_given_days : Fn := runBody b_given_days 5
/-! days_of -/
def b_days_of : SC := (sRet (eCall φ_given_days [(eComp [2] (iRow (eVar 1)) tYes (eBin fIx (eVar 0) (eVar 2))), (eLst [])]))
def φ_days_of : Fn := runBody b_days_of 3
/-! days_left -/
def b_days_left : SC := (sRet (eComp [2] (iRng2 (eK (.int 1)) (eBin fAdd (eVar 0) (eK (.int 1)))) (tB (eBin fNotIn (eVar 2) (eVar 1))) (eVar 2)))
def φ_days_left : Fn := runBody b_days_left 3
/-! check_question -/
def b_check_question : SC := (sSeq (sUnp [3, 4] (eCall φ_check_house [(eVar 0)])) (sSeq (sFrz 1 (sSet 1 (eCall φ_check_kept [(eVar 1), (eUn fLen (eVar 4))]))) (sSeq (sFrz 3 (sEx (eCall φ_check_number [(eVar 2), (eK (.int 1)), (eVar 3), (eK (.str "day"))]))) (sRetM [.mv 3, .mv 4, .mv 1]))))
def φ_check_question : Fn := runBody b_check_question 5
/-! restorable -/
def b_restorable : SC := (sSeq (sSet 2 (eBin fIx (eCall φ_check_house [(eVar 0)]) (eK (.int 1)))) (sFrz 2 (sRet (eCall φ_days_of [(eVar 2), (eCall φ_check_kept [(eVar 1), (eUn fLen (eVar 2))])]))))
def φ_restorable : Fn := runBody b_restorable 3
/-! lost_days -/
def b_lost_days : SC := (sSeq (sUnp [2, 3] (eCall φ_check_house [(eVar 0)])) (sFrz 3 (sFrz 2 (sRet (eCall φ_days_left [(eVar 2), (eCall φ_days_of [(eVar 3), (eCall φ_check_kept [(eVar 1), (eUn fLen (eVar 3))])])])))))
def φ_lost_days : Fn := runBody b_lost_days 4
/-! single_points -/
def b_single_points : SC := (sSeq (sFrz 1 (sUnp [3, 1] (eSlice (eCall φ_check_question [(eVar 0), (eVar 1), (eVar 2)]) (some (eK (.int 1))) none))) (sSeq (sFrz 1 (sFrz 3 (sIf (tB (eBin fNotIn (eVar 2) (eCall φ_days_of [(eVar 3), (eVar 1)]))) (sRaise "Unrestorable" "day" (eVar 2)) sPass))) (sFrz 3 (sFrz 1 (sRet (eComp [4] (iRow (eVar 1)) (tB (eBin fNotIn (eVar 2) (eCall φ_days_of [(eVar 3), (eCall φ_without [(eVar 1), (eLst [(eVar 4)])])]))) (eVar 4)))))))
def φ_single_points : Fn := runBody b_single_points 5
/-! spare_copies -/
def b_spare_copies : SC := (sSeq (sSet 2 (eBin fIx (eCall φ_check_house [(eVar 0)]) (eK (.int 1)))) (sSeq (sFrz 1 (sSet 1 (eCall φ_check_kept [(eVar 1), (eUn fLen (eVar 2))]))) (sSeq (sFrz 1 (sFrz 2 (sSet 3 (eCall φ_days_of [(eVar 2), (eVar 1)])))) (sFrz 2 (sFrz 1 (sRet (eComp [4] (iRow (eVar 1)) (tB (eBin fEq (eCall φ_days_of [(eVar 2), (eCall φ_without [(eVar 1), (eLst [(eVar 4)])])]) (eVar 3))) (eVar 4))))))))
def φ_spare_copies : Fn := runBody b_spare_copies 5
/-! has_form -/
def b_has_form : SC := (sSeq (sIf (tB (eBin fEq (eVar 1) (eK (.int 1)))) (sRet (eAnd (eBin fEq (eBin fIx (eVar 0) (eK (.int 0))) (eK (.str "days"))) (eBin fEq (eUn fLen (eVar 0)) (eK (.int 2))))) sPass) (sSeq (sIf (tB (eBin fEq (eBin fIx (eVar 0) (eK (.int 0))) (eK (.str "whole")))) (sRet (eBin fEq (eUn fLen (eVar 0)) (eK (.int 3)))) sPass) (sRet (eAnd (eBin fEq (eBin fIx (eVar 0) (eK (.int 0))) (eK (.str "step"))) (eBin fEq (eUn fLen (eVar 0)) (eK (.int 4)))))))
def φ_has_form : Fn := runBody b_has_form 2
/-! gates_of -/
def w_gates_of_0 : SC := (sSeq (sSet 6 (eBin fIx (eBin fIx (eVar 0) (eVar 5)) (eK (.int 1)))) (sSeq (sSet 7 (eComp [8] (iRow (eVar 1)) (tB (eBin fNe (eBin fIx (eBin fIx (eVar 0) (eVar 8)) (eK (.int 1))) (eVar 6))) (eVar 8))) (sFrz 7 (sIf (tOr (tB (eBin fEq (eVar 6) (eVar 2))) (tB (eBin fNotIn (eVar 2) (eCall φ_days_of [(eVar 0), (eVar 7)])))) (sFrz 6 (sApp (eVar 4) (eVar 6))) sPass))))
def b_gates_of : SC := (sSeq (sSet 4 (eLst [])) (sSeq (sFor [5] (iRow (eVar 3)) w_gates_of_0) (sRet (eVar 4))))
def φ_gates_of : Fn := runBody b_gates_of 9
/-! frozen -/
def b_frozen : SC := (sRet (eUn fTuple (eComp [1] (iRow (eVar 0)) tYes (eTup [(eBin fIx (eVar 1) (eK (.int 0))), (eBin fIx (eVar 1) (eK (.int 1)))]))))
def φ_frozen : Fn := runBody b_frozen 2
/-! store_of -/
def b_store_of : SC := (sSeq (sIf (tB (eBin fEq (eVar 1) (eK (.int 0)))) (sRet (eTup [])) sPass) (sRet (eBin fIx (eVar 0) (eBin fSub (eVar 1) (eK (.int 1))))))
def φ_store_of : Fn := runBody b_store_of 2
/-! is_choice -/
def b_is_choice : SC := (sRet (eAnd (eCall φ_is_row [(eVar 0)]) (eUn fIsN (eCall φ_first_fault [(eVar 0), (eVar 1), (eVar 2)]))))
def φ_is_choice : Fn := runBody b_is_choice 3
/-! is_within -/
def w_is_within_0 : SC := (sIf (tB (eBin fNotIn (eVar 2) (eVar 1))) (sRet (eK (.bool false))) sPass)
def b_is_within : SC := (sSeq (sFor [2] (iRow (eVar 0)) w_is_within_0) (sRet (eK (.bool true))))
def φ_is_within : Fn := runBody b_is_within 3
/-! with_member -/
def b_with_member : SC := (sRet (eUn fSorted (eBin fAdd (eUn fList (eVar 0)) (eLst [(eVar 1)]))))
def φ_with_member : Fn := runBody b_with_member 2
/-! is_pair_row -/
def w_is_pair_row_0 : SC := (sIf (tOr (tNot (tB (eCall φ_is_row [(eVar 1)]))) (tB (eBin fNe (eUn fLen (eVar 1)) (eK (.int 2))))) (sRet (eK (.bool false))) sPass)
def b_is_pair_row : SC := (sSeq (sIf (tNot (tB (eCall φ_is_row [(eVar 0)]))) (sRet (eK (.bool false))) sPass) (sSeq (sFor [1] (iRow (eVar 0)) w_is_pair_row_0) (sRet (eK (.bool true)))))
def φ_is_pair_row : Fn := runBody b_is_pair_row 2
/-! sets_name -/
def w_sets_name_0 : SC := (sIf (tB (eBin fEq (eBin fIx (eVar 2) (eK (.int 0))) (eVar 1))) (sRet (eK (.bool true))) sPass)
def b_sets_name : SC := (sSeq (sFor [2] (iRow (eBin fIx (eVar 0) (eK (.int 2)))) w_sets_name_0) (sRet (eK (.bool false))))
def φ_sets_name : Fn := runBody b_sets_name 3
/-! set_value -/
def w_set_value_0 : SC := (sIf (tB (eBin fEq (eBin fIx (eVar 2) (eK (.int 0))) (eVar 1))) (sRet (eBin fIx (eVar 2) (eK (.int 1)))) sPass)
def b_set_value : SC := (sSeq (sFor [2] (iRow (eBin fIx (eVar 0) (eK (.int 2)))) w_set_value_0) (sRet (eK .none)))
def φ_set_value : Fn := runBody b_set_value 3
/-! part_by_name -/
def w_part_by_name_0 : SC := (sIf (tB (eCall φ_sets_name [(eBin fIx (eVar 0) (eVar 5)), (eVar 2)])) (sApp (eVar 3) (eVar 5)) (sApp (eVar 4) (eVar 5)))
def b_part_by_name : SC := (sSeq (sSet 3 (eLst [])) (sSeq (sSet 4 (eLst [])) (sSeq (sFor [5] (iRow (eVar 1)) w_part_by_name_0) (sRetM [.mv 3, .mv 4]))))
def φ_part_by_name : Fn := runBody b_part_by_name 6
/-! labels_of -/
def w_labels_of_0 : SC := (sSeq (sUnp [5, 6] (eTup [(eBin fIx (eVar 3) (eBin fIx (eBin fIx (eVar 1) (eVar 4)) (eK (.int 0)))), (eBin fIx (eVar 3) (eBin fIx (eBin fIx (eVar 1) (eVar 4)) (eK (.int 1))))])) (sIf (tB (eBin fNe (eVar 5) (eVar 6))) (sSeq (sFrz 6 (sFrz 5 (sUnp [7, 8] (eTup [(eBin fMin (eVar 5) (eVar 6)), (eBin fMax (eVar 5) (eVar 6))])))) (sFrz 7 (sFrz 3 (sSet 3 (eComp [9] (iRow (eVar 3)) tYes (eIf (tB (eBin fEq (eVar 9) (eVar 8))) (eVar 7) (eVar 9))))))) sPass))
def b_labels_of : SC := (sSeq (sSet 3 (eUn fLRng1 (eBin fAdd (eVar 0) (eK (.int 1))))) (sSeq (sFor [4] (iRow (eVar 2)) w_labels_of_0) (sRet (eVar 3))))
def φ_labels_of : Fn := runBody b_labels_of 10
/-! end_of -/
def b_end_of : SC := (sSeq (sIf (tNot (tB (eCall φ_is_number [(eVar 3), (eUn fNeg (eK (.int 1))), (eBin fSub (eUn fLen (eVar 0)) (eK (.int 1)))]))) (sRet (eK .none)) sPass) (sSeq (sIf (tB (eBin fEq (eVar 3) (eUn fNeg (eK (.int 1))))) (sRet (eTup [(eK (.int 0)), (eK .none)])) sPass) (sSeq (sIf (tOr (tB (eBin fNotIn (eVar 3) (eVar 1))) (tNot (tB (eCall φ_sets_name [(eBin fIx (eVar 0) (eVar 3)), (eVar 2)])))) (sRet (eK .none)) sPass) (sRet (eTup [(eBin fIx (eBin fIx (eVar 0) (eVar 3)) (eK (.int 1))), (eCall φ_set_value [(eBin fIx (eVar 0) (eVar 3)), (eVar 2)])])))))
def φ_end_of : Fn := runBody b_end_of 4
/-! place_behind -/
def b_place_behind : SC := (sSeq (sIf (tOr (tNot (tB (eCall φ_is_number [(eVar 3), (eK (.int 0)), (eBin fSub (eUn fLen (eVar 0)) (eK (.int 1)))]))) (tOr (tB (eBin fNotIn (eVar 3) (eVar 1))) (tB (eCall φ_sets_name [(eBin fIx (eVar 0) (eVar 3)), (eVar 2)])))) (sRet (eK .none)) sPass) (sSeq (sIf (tB (eBin fEq (eBin fIx (eBin fIx (eVar 0) (eVar 3)) (eK (.int 0))) (eVar 4))) (sRet (eBin fIx (eBin fIx (eVar 0) (eVar 3)) (eK (.int 1)))) sPass) (sSeq (sIf (tB (eBin fEq (eBin fIx (eBin fIx (eVar 0) (eVar 3)) (eK (.int 1))) (eVar 4))) (sRet (eBin fIx (eBin fIx (eVar 0) (eVar 3)) (eK (.int 0)))) sPass) (sRet (eK .none)))))
def φ_place_behind : Fn := runBody b_place_behind 5
/-! check_chain -/
def w_check_chain_0 : SC := (sSeq (sIf (tNot (tB (eCall φ_is_number [(eVar 5), (eK (.int 0)), (eBin fSub (eUn fLen (eVar 0)) (eK (.int 1)))]))) (sRaise "BadChoice" "at" (eVar 4)) sPass) (sSeq (sIf (tB (eBin fEq (eVar 4) (eK (.int 0)))) (sSet 2 (eBin fIx (eBin fIx (eVar 0) (eVar 5)) (eK (.int 0)))) (sIf (tB (eBin fNe (eBin fIx (eBin fIx (eVar 0) (eVar 5)) (eK (.int 0))) (eVar 3))) (sRaise "BadChoice" "at" (eVar 4)) sPass)) (sSet 3 (eBin fIx (eBin fIx (eVar 0) (eVar 5)) (eK (.int 1))))))
def b_check_chain : SC := (sSeq (sIf (tOr (tNot (tB (eCall φ_is_row [(eVar 1)]))) (tB (eBin fEq (eUn fLen (eVar 1)) (eK (.int 0))))) (sRaise "BadChoice" "at" (eUn fNeg (eK (.int 1)))) sPass) (sSeq (sSet 2 (eK .none)) (sSeq (sSet 3 (eK .none)) (sSeq (sFor [4, 5] (iEnum (eVar 1)) w_check_chain_0) (sSeq (sIf (tB (eBin fEq (eVar 3) (eVar 2))) (sRaise "BadChoice" "at" (eUn fLen (eVar 1))) sPass) (sRetM [.mv 2, .mv 3]))))))
def φ_check_chain : Fn := runBody b_check_chain 6
/-! rack_of -/
def w_rack_of_0 : SC := (sIf (tNot (tB (eCall φ_is_choice [(eVar 3), (eK (.int 0)), (eBin fSub (eUn fLen (eVar 0)) (eK (.int 1)))]))) (sRaise "BadRack" "at" (eVar 2)) sPass)
def b_rack_of : SC := (sSeq (sIf (tNot (tB (eCall φ_is_row [(eVar 1)]))) (sRaise "BadRack" "at" (eUn fNeg (eK (.int 1)))) sPass) (sSeq (sIf (tB (eBin fGt (eUn fLen (eVar 1)) (eK (.int 8)))) (sRaise "TooMany" "limit" (eK (.int 8))) sPass) (sSeq (sFor [2, 3] (iEnum (eVar 1)) w_rack_of_0) (sRet (eComp [3] (iRow (eVar 1)) tYes (eUn fList (eVar 3)))))))
def φ_rack_of : Fn := runBody b_rack_of 4
/-! check_rack -/
def b_check_rack : SC := (sRet (eCall φ_rack_of [(eBin fIx (eCall φ_check_house [(eVar 0)]) (eK (.int 1))), (eVar 1)]))
def φ_check_rack : Fn := runBody b_check_rack 2
/-! choices -/
def w_choices_0 : SC := (sApp (eVar 4) (eBin fAdd (eVar 5) (eLst [(eVar 7)])))
def w_choices_1 : SC := (sSeq (sSet 6 (eIf (tB (eVar 5)) (eBin fAdd (eBin fIx (eVar 5) (eUn fNeg (eK (.int 1)))) (eK (.int 1))) (eK (.int 0)))) (sFrz 6 (sFor [7] (iRng2 (eVar 6) (eBin fSub (eVar 0) (eBin fSub (eBin fSub (eVar 1) (eVar 3)) (eK (.int 1))))) w_choices_0)))
def w_choices_2 : SC := (sSeq (sSet 4 (eLst [])) (sSeq (sFrz 2 (sFor [5] (iRow (eVar 2)) w_choices_1)) (sSet 2 (eVar 4))))
def b_choices : SC := (sSeq (sSet 2 (eLst [(eLst [])])) (sSeq (sFor [3] (iRng1 (eVar 1)) w_choices_2) (sRet (eVar 2))))
def φ_choices : Fn := runBody b_choices 8
/-! check_wanted -/
def b_check_wanted : SC := (sSeq (sUnp [3, 4] (eCall φ_check_house [(eVar 0)])) (sSeq (sFrz 1 (sFrz 4 (sSet 1 (eCall φ_rack_of [(eVar 4), (eVar 1)])))) (sRetM [.mv 3, .mv 4, .mv 1, .ev (eCall φ_check_choice [(eVar 2), (eK (.int 1)), (eVar 3)])])))
def φ_check_wanted : Fn := runBody b_check_wanted 5
/-! holds_one -/
def w_holds_one_0 : SC := (sIf (tB (eCall φ_is_within [(eVar 2), (eVar 1)])) (sRet (eK (.bool true))) sPass)
def b_holds_one : SC := (sSeq (sFor [2] (iRow (eVar 0)) w_holds_one_0) (sRet (eK (.bool false))))
def φ_holds_one : Fn := runBody b_holds_one 3
/-! apart -/
def w_apart_0 : SC := (sIf (tB (eBin fIn (eVar 2) (eVar 1))) (sRet (eK (.bool false))) sPass)
def b_apart : SC := (sSeq (sFor [2] (iRow (eVar 0)) w_apart_0) (sRet (eK (.bool true))))
def φ_apart : Fn := runBody b_apart 3
/-! meets_all -/
def w_meets_all_0 : SC := (sIf (tB (eCall φ_apart [(eVar 0), (eVar 2)])) (sRet (eK (.bool false))) sPass)
def b_meets_all : SC := (sSeq (sFor [2] (iRow (eVar 1)) w_meets_all_0) (sRet (eK (.bool true))))
def φ_meets_all : Fn := runBody b_meets_all 3
/-! tapes_into -/
def w_tapes_into_0 : SC := (sIf (tB (eBin fGt (eUn fLen (eCall φ_entering_among [(eVar 0), (eVar 5), (eVar 2)])) (eK (.int 0)))) (sApp (eVar 3) (eVar 4)) sPass)
def b_tapes_into : SC := (sSeq (sSet 3 (eLst [])) (sSeq (sFor [4, 5] (iEnum (eVar 1)) w_tapes_into_0) (sRet (eVar 3))))
def φ_tapes_into : Fn := runBody b_tapes_into 6
/-! check_fees -/
def w_check_fees_0 : SC := (sIf (tNot (tB (eCall φ_is_number [(eVar 3), (eK (.int 0)), (eK (.int 99))]))) (sRaise "BadWeights" "at" (eVar 2)) sPass)
def b_check_fees : SC := (sSeq (sIf (tOr (tNot (tB (eCall φ_is_row [(eVar 1)]))) (tB (eBin fNe (eUn fLen (eVar 1)) (eVar 0)))) (sRaise "BadWeights" "at" (eUn fNeg (eK (.int 1)))) sPass) (sSeq (sFor [2, 3] (iEnum (eVar 1)) w_check_fees_0) (sRet (eUn fList (eVar 1)))))
def φ_check_fees : Fn := runBody b_check_fees 4
/-! fee_of -/
def b_fee_of : SC := (sRet (eUn fSum (eComp [2] (iRow (eVar 1)) tYes (eBin fIx (eVar 0) (eVar 2)))))
def φ_fee_of : Fn := runBody b_fee_of 3
/-! check_mount -/
def b_check_mount : SC := (sSeq (sFrz 2 (sFrz 1 (sUnp [4, 5, 1, 2] (eCall φ_check_wanted [(eVar 0), (eVar 1), (eVar 2)])))) (sRetM [.mv 4, .mv 5, .mv 1, .mv 2, .ev (eCall φ_check_fees [(eUn fLen (eVar 1)), (eVar 3)])]))
def φ_check_mount : Fn := runBody b_check_mount 6
/-! is_at_least -/
def b_is_at_least : SC := (sRet (eAnd (eUn (fIsI .int) (eVar 0)) (eAnd (eUn fNot (eUn (fIsI .bool) (eVar 0))) (eBin fGe (eVar 0) (eVar 1)))))
def φ_is_at_least : Fn := runBody b_is_at_least 2
/-! led_from -/
def w_led_from_0 : SC := (sIf (tAnd (tB (eBin fIn (eBin fIx (eBin fIx (eVar 0) (eVar 5)) (eK (.int 1))) (eVar 3))) (tAnd (tB (eBin fGt (eBin fIx (eBin fIx (eVar 0) (eVar 5)) (eK (.int 0))) (eK (.int 0)))) (tB (eBin fNotIn (eBin fIx (eBin fIx (eVar 0) (eVar 5)) (eK (.int 0))) (eVar 3))))) (sSeq (sApp (eVar 3) (eBin fIx (eBin fIx (eVar 0) (eVar 5)) (eK (.int 0)))) (sSet 4 (eK (.bool true)))) sPass)
def w_led_from_1 : SC := (sSeq (sSet 4 (eK (.bool false))) (sFor [5] (iRow (eVar 1)) w_led_from_0))
def b_led_from : SC := (sSeq (sSet 3 (eLst [(eVar 2)])) (sSeq (sSet 4 (eK (.bool true))) (sSeq (sWhile (tB (eVar 4)) w_led_from_1) (sFrz 3 (sRet (eUn fSorted (eVar 3)))))))
def φ_led_from : Fn := runBody b_led_from 6
/-! set_to_raise -/
def w_set_to_raise_0 : SC := (sSeq (sSet 5 (eCall φ_led_from [(eVar 0), (eVar 1), (eVar 4)])) (sIf (tOr (tB (eUn fIsN (eVar 3))) (tB (eBin fLt (eUn fLen (eVar 5)) (eUn fLen (eVar 3))))) (sFrz 5 (sSet 3 (eVar 5))) sPass))
def b_set_to_raise : SC := (sSeq (sSet 3 (eK .none)) (sSeq (sFor [4] (iRow (eVar 2)) w_set_to_raise_0) (sRet (eVar 3))))
def φ_set_to_raise : Fn := runBody b_set_to_raise 6
/-! drop_needless -/
def w_drop_needless_0 : SC := (sSeq (sFrz 3 (sSet 5 (eCall φ_without [(eVar 3), (eLst [(eVar 4)])]))) (sFrz 5 (sIf (tB (eBin fEq (eUn fLen (eCall φ_days_of [(eVar 1), (eVar 5)])) (eVar 0))) (sFrz 5 (sSet 3 (eVar 5))) sPass)))
def b_drop_needless : SC := (sSeq (sSet 3 (eUn fList (eVar 2))) (sSeq (sFor [4] (iRow (eUn fRev (eVar 2))) w_drop_needless_0) (sFrz 3 (sRet (eUn fSorted (eVar 3))))))
def φ_drop_needless : Fn := runBody b_drop_needless 6
/-! is_keep -/
def b_is_keep : SC := (sSeq (sUnp [3, 4] (eCall φ_check_house [(eVar 0)])) (sSeq (sEx (eCall φ_check_number [(eVar 1), (eK (.int 0)), (eK (.int 30000)), (eK (.str "budget"))])) (sSeq (sIf (tNot (tB (eCall φ_is_choice [(eVar 2), (eK (.int 0)), (eBin fSub (eUn fLen (eVar 4)) (eK (.int 1)))]))) (sRet (eK (.bool false))) sPass) (sFrz 4 (sRet (eAnd (eBin fEq (eUn fLen (eCall φ_days_of [(eVar 4), (eVar 2)])) (eVar 3)) (eBin fLe (eCall φ_cost_of [(eVar 4), (eVar 2)]) (eVar 1))))))))
def φ_is_keep : Fn := runBody b_is_keep 5
/-! is_better -/
def b_is_better : SC := (sRet (eAnd (eUn fNotN (eVar 0)) (eOr (eUn fIsN (eVar 1)) (eBin fLt (eBin fIx (eVar 0) (eK (.int 0))) (eBin fIx (eVar 1) (eK (.int 0)))))))
def φ_is_better : Fn := runBody b_is_better 2
/-! first_row -/
def w_first_row_0 : SC := (sIf (tB (eBin fEq (eVar 2) (eBin fShl (eK (.int 1)) (eVar 4)))) (sPut (eVar 3) (eVar 5) (eTup [(eK (.int 0)), (eLst [])])) sPass)
def b_first_row : SC := (sSeq (sSet 3 (eComp [6] (iRng1 (eBin fAdd (eVar 0) (eK (.int 1)))) tYes (eK .none))) (sSeq (sFor [4, 5] (iEnum (eVar 1)) w_first_row_0) (sRet (eVar 3))))
def φ_first_row : Fn := runBody b_first_row 7
/-! check_wish -/
def b_check_wish : SC := (sSeq (sUnp [3, 4] (eCall φ_check_house [(eVar 0)])) (sSeq (sFrz 1 (sSet 1 (eCall φ_check_kept [(eVar 1), (eUn fLen (eVar 4))]))) (sFrz 3 (sRetM [.mv 4, .mv 1, .ev (eCall φ_check_choice [(eVar 2), (eK (.int 1)), (eVar 3)])]))))
def φ_check_wish : Fn := runBody b_check_wish 5
/-! prune -/
def w_prune_0 : SC := (sSeq (sFrz 5 (sSet 7 (eCall φ_without [(eVar 5), (eLst [(eVar 6)])]))) (sFrz 7 (sFrz 3 (sFrz 2 (sIf (tB (eCall φ_is_within [(eVar 2), (eCall φ_days_of [(eVar 3), (eVar 7)])])) (sFrz 7 (sSet 5 (eVar 7))) sPass)))))
def b_prune : SC := (sSeq (sFrz 2 (sFrz 1 (sUnp [3, 1, 2] (eCall φ_check_wish [(eVar 0), (eVar 1), (eVar 2)])))) (sSeq (sFrz 1 (sFrz 3 (sFrz 2 (sSet 4 (eCall φ_without [(eVar 2), (eCall φ_days_of [(eVar 3), (eVar 1)])]))))) (sSeq (sIf (tB (eBin fGt (eUn fLen (eVar 4)) (eK (.int 0)))) (sRaise "Unrestorable" "day" (eBin fIx (eVar 4) (eK (.int 0)))) sPass) (sSeq (sFrz 1 (sSet 5 (eUn fList (eVar 1)))) (sSeq (sFrz 1 (sFor [6] (iRow (eUn fRev (eVar 1))) w_prune_0)) (sRet (eVar 5)))))))
def φ_prune : Fn := runBody b_prune 8
/-! is_lean -/
def w_is_lean_0 : SC := (sFrz 1 (sFrz 3 (sFrz 2 (sIf (tB (eCall φ_is_within [(eVar 2), (eCall φ_days_of [(eVar 3), (eCall φ_without [(eVar 1), (eLst [(eVar 4)])])])])) (sRet (eK (.bool false))) sPass))))
def b_is_lean : SC := (sSeq (sFrz 2 (sFrz 1 (sUnp [3, 1, 2] (eCall φ_check_wish [(eVar 0), (eVar 1), (eVar 2)])))) (sSeq (sFrz 1 (sFrz 3 (sFrz 2 (sIf (tNot (tB (eCall φ_is_within [(eVar 2), (eCall φ_days_of [(eVar 3), (eVar 1)])]))) (sRet (eK (.bool false))) sPass)))) (sSeq (sFrz 1 (sFor [4] (iRow (eVar 1)) w_is_lean_0)) (sRet (eK (.bool true))))))
def φ_is_lean : Fn := runBody b_is_lean 5
/-! starts_of -/
def w_starts_of_0 : SC := (sIf (tNot (tB (eCall φ_is_choice [(eVar 3), (eK (.int 1)), (eVar 0)]))) (sRaise "BadStarts" "at" (eVar 2)) sPass)
def b_starts_of : SC := (sSeq (sIf (tNot (tB (eCall φ_is_row [(eVar 1)]))) (sRaise "BadStarts" "at" (eUn fNeg (eK (.int 1)))) sPass) (sSeq (sIf (tB (eBin fGt (eUn fLen (eVar 1)) (eK (.int 6)))) (sRaise "TooMany" "limit" (eK (.int 6))) sPass) (sSeq (sFor [2, 3] (iEnum (eVar 1)) w_starts_of_0) (sRet (eComp [3] (iRow (eVar 1)) tYes (eUn fList (eVar 3)))))))
def φ_starts_of : Fn := runBody b_starts_of 4
/-! check_starts -/
def b_check_starts : SC := (sRet (eCall φ_starts_of [(eBin fIx (eCall φ_check_house [(eVar 0)]) (eK (.int 0))), (eVar 1)]))
def φ_check_starts : Fn := runBody b_check_starts 2
/-! shelf_days -/
def b_shelf_days : SC := (sSeq (sUnp [3, 4] (eCall φ_check_house [(eVar 0)])) (sSeq (sFrz 3 (sFrz 1 (sSet 1 (eCall φ_check_choice [(eVar 1), (eK (.int 1)), (eVar 3)])))) (sSeq (sFrz 2 (sSet 2 (eCall φ_check_kept [(eVar 2), (eUn fLen (eVar 4))]))) (sFrz 2 (sFrz 1 (sRet (eCall φ_given_days [(eComp [5] (iRow (eVar 2)) tYes (eBin fIx (eVar 4) (eVar 5))), (eVar 1)])))))))
def φ_shelf_days : Fn := runBody b_shelf_days 6
/-! bare_count -/
def b_bare_count : SC := (sRet (eUn fLen (eComp [2] (iRow (eVar 0)) (tB (eCall φ_apart [(eVar 2), (eVar 1)])) (eVar 2))))
def φ_bare_count : Fn := runBody b_bare_count 3
/-! bare_shelves -/
def b_bare_shelves : SC := (sSeq (sSet 3 (eBin fIx (eCall φ_check_house [(eVar 0)]) (eK (.int 0)))) (sSeq (sFrz 1 (sFrz 3 (sSet 1 (eCall φ_starts_of [(eVar 3), (eVar 1)])))) (sFrz 3 (sFrz 1 (sRet (eCall φ_bare_count [(eVar 1), (eCall φ_check_choice [(eVar 2), (eK (.int 1)), (eVar 3)])]))))))
def φ_bare_shelves : Fn := runBody b_bare_shelves 4
/-! arcs_around -/
def w_arcs_around_0 : SC := (sSeq (sApp (eBin fIx (eVar 2) (eBin fIx (eVar 4) (eK (.int 0)))) (eVar 3)) (sApp (eBin fIx (eVar 2) (eBin fIx (eVar 4) (eK (.int 1)))) (eVar 3)))
def b_arcs_around : SC := (sSeq (sSet 2 (eComp [5] (iRng1 (eVar 1)) tYes (eLst []))) (sSeq (sFor [3, 4] (iEnum (eVar 0)) w_arcs_around_0) (sRet (eVar 2))))
def φ_arcs_around : Fn := runBody b_arcs_around 6
/-! leading_to -/
def w_leading_to_0 : SC := (sSeq (sUnp [8, 9, 10] (eBin fIx (eVar 0) (eVar 7))) (sIf (tAnd (tB (eBin fEq (eVar 9) (eVar 6))) (tAnd (tB (eBin fLt (eBin fIx (eVar 2) (eVar 7)) (eVar 10))) (tB (eBin fNotIn (eVar 8) (eVar 4))))) (sFrz 8 (sApp (eVar 4) (eVar 8))) (sIf (tAnd (tB (eBin fEq (eVar 8) (eVar 6))) (tAnd (tB (eBin fGt (eBin fIx (eVar 2) (eVar 7)) (eK (.int 0)))) (tB (eBin fNotIn (eVar 9) (eVar 4))))) (sFrz 9 (sApp (eVar 4) (eVar 9))) sPass)))
def w_leading_to_1 : SC := (sSeq (sSet 6 (eBin fIx (eVar 4) (eVar 5))) (sSeq (sAug 5 (fun i j => i + j) (eK (.int 1))) (sFor [7] (iRow (eBin fIx (eVar 1) (eVar 6))) w_leading_to_0)))
def b_leading_to : SC := (sSeq (sSet 4 (eLst [(eVar 3)])) (sSeq (sSet 5 (eK (.int 0))) (sSeq (sWhile (tB (eBin fLt (eVar 5) (eUn fLen (eVar 4)))) w_leading_to_1) (sRet (eVar 4)))))
def φ_leading_to : Fn := runBody b_leading_to 11
/-! smallest_side -/
def b_smallest_side : SC := (sRet (eUn fSorted (eCall φ_leading_to [(eVar 0), (eCall φ_arcs_around [(eVar 0), (eVar 1)]), (eVar 2), (eVar 3)])))
def φ_smallest_side : Fn := runBody b_smallest_side 4
/-! leads_to -/
def w_leads_to_0 : SC := (sSeq (sIf (tOr (tNot (tB (eCall φ_is_number [(eVar 6), (eK (.int 0)), (eBin fSub (eUn fLen (eVar 0)) (eK (.int 1)))]))) (tB (eBin fNotIn (eVar 6) (eVar 1)))) (sRet (eK (.bool false))) sPass) (sSeq (sIf (tOr (tB (eBin fNe (eBin fIx (eBin fIx (eVar 0) (eVar 6)) (eK (.int 0))) (eVar 4))) (tB (eBin fIn (eBin fIx (eBin fIx (eVar 0) (eVar 6)) (eK (.int 1))) (eVar 5)))) (sRet (eK (.bool false))) sPass) (sSeq (sSet 4 (eBin fIx (eBin fIx (eVar 0) (eVar 6)) (eK (.int 1)))) (sFrz 4 (sApp (eVar 5) (eVar 4))))))
def b_leads_to : SC := (sSeq (sIf (tOr (tNot (tB (eCall φ_is_row [(eVar 3)]))) (tB (eBin fEq (eUn fLen (eVar 3)) (eK (.int 0))))) (sRet (eK (.bool false))) sPass) (sSeq (sSet 4 (eK (.int 0))) (sSeq (sSet 5 (eLst [])) (sSeq (sFor [6] (iRow (eVar 3)) w_leads_to_0) (sRet (eBin fEq (eVar 4) (eVar 2)))))))
def φ_leads_to : Fn := runBody b_leads_to 7
/-! check_strands -/
def b_check_strands : SC := (sSeq (sFrz 1 (sUnp [4, 5, 1] (eCall φ_check_question [(eVar 0), (eVar 1), (eVar 2)]))) (sSeq (sEx (eCall φ_check_number [(eVar 3), (eK (.int 0)), (eK (.int 8)), (eK (.str "count"))])) (sRetM [.mv 4, .mv 5, .mv 1])))
def φ_check_strands : Fn := runBody b_check_strands 6
/-! kept_arcs -/
def b_kept_arcs : SC := (sRet (eComp [2] (iRow (eVar 1)) tYes (eTup [(eBin fIx (eBin fIx (eVar 0) (eVar 2)) (eK (.int 0))), (eBin fIx (eBin fIx (eVar 0) (eVar 2)) (eK (.int 1))), (eK (.int 1))])))
def φ_kept_arcs : Fn := runBody b_kept_arcs 3
/-! is_thin_for -/
def b_is_thin_for : SC := (sSeq (sFrz 1 (sUnp [5, 6, 1] (eCall φ_check_strands [(eVar 0), (eVar 1), (eVar 2), (eVar 3)]))) (sSeq (sFrz 5 (sIf (tOr (tNot (tB (eCall φ_is_choice [(eVar 4), (eK (.int 1)), (eVar 5)]))) (tB (eBin fNotIn (eVar 2) (eVar 4)))) (sRet (eK (.bool false))) sPass)) (sFrz 1 (sFrz 6 (sRet (eBin fLt (eUn fLen (eCall φ_entering_among [(eVar 6), (eVar 1), (eVar 4)])) (eVar 3)))))))
def φ_is_thin_for : Fn := runBody b_is_thin_for 7
/-! network -/
def w_network_0 : SC := (sApp (eVar 4) (eTup [(eBin fAdd (eBin fAdd (eVar 0) (eK (.int 1))) (eVar 5)), (eVar 7), (eBin fAdd (eK (.int 6)) (eK (.int 1)))]))
def w_network_1 : SC := (sSeq (sApp (eVar 4) (eTup [(eK (.int 0)), (eBin fAdd (eBin fAdd (eVar 0) (eK (.int 1))) (eVar 5)), (eK (.int 1))])) (sFor [7] (iRow (eVar 6)) w_network_0))
def b_network : SC := (sSeq (sSet 4 (eComp [8] (iRow (eVar 2)) tYes (eTup [(eBin fIx (eBin fIx (eVar 1) (eVar 8)) (eK (.int 0))), (eBin fIx (eBin fIx (eVar 1) (eVar 8)) (eK (.int 1))), (eK (.int 1))]))) (sSeq (sFor [5, 6] (iEnum (eVar 3)) w_network_1) (sRet (eVar 4))))
def φ_network : Fn := runBody b_network 9
/-! is_lacking -/
def b_is_lacking : SC := (sSeq (sIf (tOr (tNot (tB (eCall φ_is_choice [(eVar 4), (eK (.int 1)), (eVar 0)]))) (tB (eBin fEq (eUn fLen (eVar 4)) (eK (.int 0))))) (sRet (eK (.bool false))) sPass) (sRet (eBin fLt (eUn fLen (eCall φ_entering_among [(eVar 1), (eVar 2), (eVar 4)])) (eCall φ_bare_count [(eVar 3), (eVar 4)]))))
def φ_is_lacking : Fn := runBody b_is_lacking 5
/-! is_thin -/
def b_is_thin : SC := (sSeq (sUnp [3, 4] (eCall φ_check_house [(eVar 0)])) (sSeq (sFrz 1 (sFrz 3 (sSet 1 (eCall φ_starts_of [(eVar 3), (eVar 1)])))) (sFrz 1 (sFrz 4 (sFrz 3 (sRet (eCall φ_is_lacking [(eVar 3), (eVar 4), (eUn fLRng1 (eUn fLen (eVar 4))), (eVar 1), (eVar 2)])))))))
def φ_is_thin : Fn := runBody b_is_thin 5
/-! check_mending -/
def b_check_mending : SC := (sSeq (sUnp [3, 4] (eCall φ_check_house [(eVar 0)])) (sSeq (sFrz 1 (sFrz 3 (sSet 1 (eCall φ_starts_of [(eVar 3), (eVar 1)])))) (sRetM [.mv 3, .mv 4, .mv 1, .ev (eCall φ_check_fees [(eVar 3), (eVar 2)])])))
def φ_check_mending : Fn := runBody b_check_mending 5
/-! lack_of -/
def b_lack_of : SC := (sRet (eBin fSub (eCall φ_bare_count [(eVar 1), (eVar 2)]) (eUn fLen (eCall φ_entering_among [(eVar 0), (eUn fLRng1 (eUn fLen (eVar 0))), (eVar 2)]))))
def φ_lack_of : Fn := runBody b_lack_of 3
/-! arcs_with -/
def w_arcs_with_0 : SC := (sIf (tB (eBin fGt (eVar 6) (eK (.int 0)))) (sApp (eVar 4) (eTup [(eK (.int 0)), (eBin fAdd (eVar 5) (eK (.int 1))), (eVar 6)])) sPass)
def b_arcs_with : SC := (sSeq (sSet 4 (eCall φ_network [(eVar 0), (eVar 1), (eUn fLRng1 (eUn fLen (eVar 1))), (eVar 2)])) (sSeq (sFor [5, 6] (iEnum (eVar 3)) w_arcs_with_0) (sRet (eVar 4))))
def φ_arcs_with : Fn := runBody b_arcs_with 7
/-! _wall -/
def w__wall_0 : SC := sPass
def b__wall : SC := (sWhile (tB (eK (.bool true))) w__wall_0)
def φ__wall : Fn := runBody b__wall 1
/-! days_at_hand -/
def b_days_at_hand : SC := (sSeq (sIf (tB (eBin fEq (eUn fLen (eVar 0)) (eK (.int 0)))) (sRet (eLst [])) sPass) (sRet (eCall φ_given_days [(eComp [2] (iRow (eVar 1)) (tB (eBin fEq (eBin fIx (eVar 2) (eK (.int 4))) (eK (.str "held")))) (eVar 2)), (eLst [(eUn fLen (eVar 0))])])))
def φ_days_at_hand : Fn := runBody b_days_at_hand 3
/-! with_state -/
def b_with_state : SC := (sRet (eTup [(eBin fIx (eVar 0) (eK (.int 0))), (eBin fIx (eVar 0) (eK (.int 1))), (eBin fIx (eVar 0) (eK (.int 2))), (eBin fIx (eVar 0) (eK (.int 3))), (eVar 1)]))
def φ_with_state : Fn := runBody b_with_state 2
/-! with_drop -/
def b_with_drop : SC := (sSeq (sIf (tB (eBin fGe (eVar 1) (eUn fLen (eVar 0)))) (sRaise "BadDeed" "why" (eK (.str "range"))) sPass) (sSeq (sIf (tB (eBin fNe (eBin fIx (eBin fIx (eVar 0) (eVar 1)) (eK (.int 4))) (eK (.str "held")))) (sRaise "BadDeed" "why" (eK (.str "held"))) sPass) (sRet (eBin fAdd (eBin fAdd (eSlice (eVar 0) none (some (eVar 1))) (eLst [(eCall φ_with_state [(eBin fIx (eVar 0) (eVar 1)), (eK (.str "dropped"))])])) (eSlice (eVar 0) (some (eBin fAdd (eVar 1) (eK (.int 1)))) none)))))
def φ_with_drop : Fn := runBody b_with_drop 2
/-! with_loss -/
def b_with_loss : SC := (sSeq (sIf (tB (eBin fGt (eVar 1) (eK (.int 7)))) (sRaise "BadDeed" "why" (eK (.str "range"))) sPass) (sRet (eComp [2] (iRow (eVar 0)) tYes (eIf (tAnd (tB (eBin fEq (eBin fIx (eVar 2) (eK (.int 3))) (eVar 1))) (tB (eBin fEq (eBin fIx (eVar 2) (eK (.int 4))) (eK (.str "held"))))) (eCall φ_with_state [(eVar 2), (eK (.str "lost"))]) (eVar 2)))))
def φ_with_loss : Fn := runBody b_with_loss 3
/-! check_small_row -/
def w_check_small_row_0 : SC := (sIf (tNot (tB (eCall φ_is_number [(eVar 3), (eK (.int 0)), (eK (.int 7))]))) (sRaise "BadLevels" "at" (eVar 2)) sPass)
def b_check_small_row : SC := (sSeq (sIf (tOr (tNot (tB (eCall φ_is_row [(eVar 0)]))) (tB (eBin fEq (eUn fLen (eVar 0)) (eK (.int 0))))) (sRaise "BadLevels" "at" (eUn fNeg (eK (.int 1)))) sPass) (sSeq (sIf (tB (eBin fGt (eUn fLen (eVar 0)) (eVar 1))) (sRaise "TooMany" "limit" (eVar 1)) sPass) (sSeq (sFor [2, 3] (iEnum (eVar 0)) w_check_small_row_0) (sRet (eUn fList (eVar 0))))))
def φ_check_small_row : Fn := runBody b_check_small_row 4
/-! check_levels -/
def b_check_levels : SC := (sRet (eCall φ_check_small_row [(eVar 0), (eK (.int 12))]))
def φ_check_levels : Fn := runBody b_check_levels 1
/-! base_list -/
def w_base_list_0 : SC := (sIf (tB (eBin fLt (eBin fIx (eVar 0) (eBin fSub (eVar 4) (eK (.int 1)))) (eBin fIx (eVar 0) (eBin fSub (eVar 2) (eK (.int 1)))))) (sSet 3 (eVar 4)) sPass)
def w_base_list_1 : SC := (sSeq (sSet 3 (eK (.int 0))) (sSeq (sFor [4] (iRng2 (eK (.int 1)) (eVar 2)) w_base_list_0) (sFrz 3 (sApp (eVar 1) (eVar 3)))))
def b_base_list : SC := (sSeq (sSet 1 (eLst [])) (sSeq (sFor [2] (iRng2 (eK (.int 1)) (eBin fAdd (eUn fLen (eVar 0)) (eK (.int 1)))) w_base_list_1) (sRet (eVar 1))))
def φ_base_list : Fn := runBody b_base_list 5
/-! chain_of -/
def w_chain_of_0 : SC := (sSeq (sFrz 3 (sApp (eVar 2) (eVar 3))) (sSet 3 (eBin fIx (eVar 0) (eBin fSub (eVar 3) (eK (.int 1))))))
def b_chain_of : SC := (sSeq (sSet 2 (eLst [])) (sSeq (sSet 3 (eVar 1)) (sSeq (sWhile (tB (eBin fGt (eVar 3) (eK (.int 0)))) w_chain_of_0) (sFrz 2 (sRet (eUn fRev (eVar 2)))))))
def φ_chain_of : Fn := runBody b_chain_of 4
/-! bases -/
def b_bases : SC := (sRet (eCall φ_base_list [(eCall φ_check_levels [(eVar 0)])]))
def φ_bases : Fn := runBody b_bases 1
/-! chain -/
def b_chain : SC := (sSeq (sFrz 0 (sSet 0 (eCall φ_check_levels [(eVar 0)]))) (sSeq (sEx (eCall φ_check_number [(eVar 1), (eK (.int 1)), (eUn fLen (eVar 0)), (eK (.str "day"))])) (sFrz 0 (sRet (eCall φ_chain_of [(eCall φ_base_list [(eVar 0)]), (eVar 1)])))))
def φ_chain : Fn := runBody b_chain 2
/-! future_days -/
def b_future_days : SC := (sSeq (sFrz 0 (sSet 0 (eCall φ_check_levels [(eVar 0)]))) (sSeq (sFrz 0 (sSet 1 (eCall φ_chain_of [(eCall φ_base_list [(eVar 0)]), (eUn fLen (eVar 0))]))) (sFrz 1 (sRet (eComp [2] (iRow (eVar 1)) (tB (eBin fLt (eBin fIx (eVar 0) (eBin fSub (eVar 2) (eK (.int 1)))) (eK (.int 7)))) (eVar 2))))))
def φ_future_days : Fn := runBody b_future_days 3
/-! is_sizes -/
def w_is_sizes_0 : SC := (sIf (tNot (tB (eCall φ_is_number [(eVar 2), (eK (.int 0)), (eK (.int 999))]))) (sRet (eK (.bool false))) sPass)
def b_is_sizes : SC := (sSeq (sIf (tOr (tNot (tB (eCall φ_is_row [(eVar 0)]))) (tB (eBin fNe (eUn fLen (eVar 0)) (eVar 1)))) (sRet (eK (.bool false))) sPass) (sSeq (sFor [2] (iRow (eVar 0)) w_is_sizes_0) (sRet (eK (.bool true)))))
def φ_is_sizes : Fn := runBody b_is_sizes 3
/-! check_weights -/
def w_check_weights_0 : SC := (sIf (tNot (tB (eCall φ_is_sizes [(eVar 2), (eBin fAdd (eVar 1) (eK (.int 1)))]))) (sRaise "BadWeights" "at" (eVar 1)) sPass)
def b_check_weights : SC := (sSeq (sIf (tOr (tNot (tB (eCall φ_is_row [(eVar 0)]))) (tB (eBin fEq (eUn fLen (eVar 0)) (eK (.int 0))))) (sRaise "BadWeights" "at" (eUn fNeg (eK (.int 1)))) sPass) (sSeq (sIf (tB (eBin fGt (eUn fLen (eVar 0)) (eK (.int 12)))) (sRaise "TooMany" "limit" (eK (.int 12))) sPass) (sSeq (sFor [1, 2] (iEnum (eVar 0)) w_check_weights_0) (sRet (eComp [2] (iRow (eVar 0)) tYes (eUn fList (eVar 2)))))))
def φ_check_weights : Fn := runBody b_check_weights 3
/-! check_plan -/
def b_check_plan : SC := (sSeq (sFrz 0 (sSet 0 (eCall φ_check_weights [(eVar 0)]))) (sSeq (sFrz 1 (sSet 1 (eCall φ_check_levels [(eVar 1)]))) (sSeq (sIf (tB (eBin fNe (eUn fLen (eVar 1)) (eUn fLen (eVar 0)))) (sRaise "BadLevels" "at" (eUn fNeg (eK (.int 1)))) sPass) (sRetM [.mv 0, .mv 1]))))
def φ_check_plan : Fn := runBody b_check_plan 2
/-! level_house -/
def w_level_house_0 : SC := (sApp (eVar 2) (eTup [(eVar 4), (eBin fAdd (eVar 3) (eK (.int 1))), (eBin fIx (eBin fIx (eVar 0) (eVar 3)) (eVar 4))]))
def b_level_house : SC := (sSeq (sFrz 1 (sFrz 0 (sUnp [0, 1] (eCall φ_check_plan [(eVar 0), (eVar 1)])))) (sSeq (sIf (tB (eBin fGt (eUn fLen (eVar 1)) (eK (.int 10)))) (sRaise "TooMany" "limit" (eK (.int 10))) sPass) (sSeq (sSet 2 (eLst [])) (sSeq (sFrz 1 (sFor [3, 4] (iEnum (eCall φ_base_list [(eVar 1)])) w_level_house_0)) (sRetM [.ev (eUn fLen (eVar 1)), .mv 2])))))
def φ_level_house : Fn := runBody b_level_house 5
/-! is_steady -/
def w_is_steady_0 : SC := (sIf (tB (eBin fGt (eBin fIx (eVar 1) (eVar 2)) (eBin fIx (eVar 1) (eBin fSub (eVar 2) (eK (.int 1)))))) (sRet (eK (.bool false))) sPass)
def w_is_steady_1 : SC := (sFor [2] (iRng2 (eK (.int 1)) (eUn fLen (eVar 1))) w_is_steady_0)
def b_is_steady : SC := (sSeq (sFor [1] (iRow (eCall φ_check_weights [(eVar 0)])) w_is_steady_1) (sRet (eK (.bool true))))
def φ_is_steady : Fn := runBody b_is_steady 3
/-! check_rotation -/
def b_check_rotation : SC := (sRet (eCall φ_check_small_row [(eVar 0), (eK (.int 16))]))
def φ_check_rotation : Fn := runBody b_check_rotation 1
/-! has_age -/
def w_has_age_0 : SC := (sIf (tB (eChain fLe fLe (eVar 1) (eVar 3) (eVar 2))) (sRet (eK (.bool true))) sPass)
def b_has_age : SC := (sSeq (sFor [3] (iRow (eVar 0)) w_has_age_0) (sRet (eK (.bool false))))
def φ_has_age : Fn := runBody b_has_age 4
/-! tape_of -/
def w_tape_of_0 : SC := (sSeq (sAug 2 (fun i j => i + j) (eK (.int 1))) (sSet 3 (eBin fDiv (eVar 3) (eK (.int 2)))))
def b_tape_of : SC := (sSeq (sSet 2 (eK (.int 0))) (sSeq (sSet 3 (eVar 1)) (sSeq (sWhile (tAnd (tB (eBin fLt (eVar 2) (eBin fSub (eVar 0) (eK (.int 1))))) (tB (eBin fEq (eBin fMod (eVar 3) (eK (.int 2))) (eK (.int 0))))) w_tape_of_0) (sRet (eVar 2)))))
def φ_tape_of : Fn := runBody b_tape_of 4
/-! hanoi_tape -/
def b_hanoi_tape : SC := (sSeq (sEx (eCall φ_check_number [(eVar 0), (eK (.int 1)), (eK (.int 8)), (eK (.str "tapes"))])) (sSeq (sEx (eCall φ_check_number [(eVar 1), (eK (.int 1)), (eK (.int 9999)), (eK (.str "day"))])) (sRet (eCall φ_tape_of [(eVar 0), (eVar 1)]))))
def φ_hanoi_tape : Fn := runBody b_hanoi_tape 2
/-! hanoi_cycle -/
def b_hanoi_cycle : SC := (sSeq (sEx (eCall φ_check_number [(eVar 0), (eK (.int 1)), (eK (.int 5)), (eK (.str "tapes"))])) (sRet (eComp [1] (iRng2 (eK (.int 1)) (eBin fAdd (eBin fShl (eK (.int 1)) (eBin fSub (eVar 0) (eK (.int 1)))) (eK (.int 1)))) tYes (eCall φ_tape_of [(eVar 0), (eVar 1)]))))
def φ_hanoi_cycle : Fn := runBody b_hanoi_cycle 2
/-! is_window -/
def b_is_window : SC := (sSeq (sIf (tOr (tNot (tB (eCall φ_is_row [(eVar 0)]))) (tB (eBin fNe (eUn fLen (eVar 0)) (eK (.int 2))))) (sRet (eK (.bool false))) sPass) (sRet (eAnd (eCall φ_is_number [(eBin fIx (eVar 0) (eK (.int 1))), (eK (.int 0)), (eK (.int 7))]) (eCall φ_is_number [(eBin fIx (eVar 0) (eK (.int 0))), (eK (.int 0)), (eBin fIx (eVar 0) (eK (.int 1)))]))))
def φ_is_window : Fn := runBody b_is_window 1
/-! check_windows -/
def w_check_windows_0 : SC := (sIf (tNot (tB (eCall φ_is_window [(eVar 2)]))) (sRaise "BadWindows" "at" (eVar 1)) sPass)
def b_check_windows : SC := (sSeq (sIf (tNot (tB (eCall φ_is_row [(eVar 0)]))) (sRaise "BadWindows" "at" (eUn fNeg (eK (.int 1)))) sPass) (sSeq (sIf (tB (eBin fGt (eUn fLen (eVar 0)) (eK (.int 4)))) (sRaise "TooMany" "limit" (eK (.int 4))) sPass) (sSeq (sFor [1, 2] (iEnum (eVar 0)) w_check_windows_0) (sRet (eComp [2] (iRow (eVar 0)) tYes (eTup [(eBin fIx (eVar 2) (eK (.int 0))), (eBin fIx (eVar 2) (eK (.int 1)))]))))))
def φ_check_windows : Fn := runBody b_check_windows 3
/-! check_promise -/
def b_check_promise : SC := (sSeq (sFrz 0 (sSet 0 (eCall φ_check_windows [(eVar 0)]))) (sSeq (sEx (eCall φ_check_number [(eVar 1), (eK (.int 0)), (eK (.int 8)), (eK (.str "tapes"))])) (sRet (eVar 0))))
def φ_check_promise : Fn := runBody b_check_promise 2
/-! mask_of -/
def b_mask_of : SC := (sRet (eUn fSum (eComp [1] (iRow (eVar 0)) tYes (eBin fShl (eK (.int 1)) (eVar 1)))))
def φ_mask_of : Fn := runBody b_mask_of 2
/-! free_tape -/
def w_free_tape_0 : SC := (sIf (tB (eBin fNotIn (eVar 3) (eVar 1))) (sRet (eVar 2)) sPass)
def b_free_tape : SC := (sSeq (sFor [2, 3] (iEnum (eVar 0)) w_free_tape_0) (sRet (eK .none)))
def φ_free_tape : Fn := runBody b_free_tape 4
/-! is_held -/
def b_is_held : SC := (sSeq (sIf (tOr (tNot (tB (eCall φ_is_row [(eVar 1)]))) (tOr (tB (eBin fNe (eUn fLen (eVar 1)) (eK (.int 2)))) (tNot (tB (eCall φ_is_number [(eBin fIx (eVar 1) (eK (.int 0))), (eK (.int 0)), (eBin fIx (eVar 0) (eK (.int 2)))]))))) (sRet (eK (.bool false))) sPass) (sRet (eOr (eCall φ_is_number [(eBin fIx (eVar 1) (eK (.int 1))), (eUn fNeg (eK (.int 1))), (eUn fNeg (eK (.int 1)))]) (eCall φ_is_number [(eBin fIx (eVar 1) (eK (.int 1))), (eBin fAdd (eBin fIx (eVar 1) (eK (.int 0))) (eK (.int 1))), (eBin fIx (eVar 0) (eK (.int 2)))]))))
def φ_is_held : Fn := runBody b_is_held 2
/-! held_pairs -/
def b_held_pairs : SC := (sRet (eComp [1] (iRow (eVar 0)) tYes (eTup [(eBin fIx (eVar 1) (eK (.int 0))), (eBin fIx (eVar 1) (eK (.int 1)))])))
def φ_held_pairs : Fn := runBody b_held_pairs 2
/-! inside_one -/
def w_inside_one_0 : SC := (sIf (tAnd (tB (eBin fGt (eUn fLen (eVar 2)) (eUn fLen (eVar 0)))) (tB (eCall φ_is_within [(eVar 0), (eVar 2)]))) (sRet (eK (.bool true))) sPass)
def b_inside_one : SC := (sSeq (sFor [2] (iRow (eVar 1)) w_inside_one_0) (sRet (eK (.bool false))))
def φ_inside_one : Fn := runBody b_inside_one 3
/-! all_broken -/
def w_all_broken_0 : SC := (sIf (tB (eBin fNotIn (eVar 2) (eVar 1))) (sRet (eK (.bool false))) sPass)
def b_all_broken : SC := (sSeq (sFor [2] (iRow (eVar 0)) w_all_broken_0) (sRet (eK (.bool true))))
def φ_all_broken : Fn := runBody b_all_broken 3
/-! contains_one -/
def w_contains_one_0 : SC := (sIf (tB (eCall φ_is_within [(eVar 2), (eVar 0)])) (sRet (eK (.bool true))) sPass)
def b_contains_one : SC := (sSeq (sFor [2] (iRow (eVar 1)) w_contains_one_0) (sRet (eK (.bool false))))
def φ_contains_one : Fn := runBody b_contains_one 3
end PR

set_option Elab.async false
set_option linter.all false
set_option maxRecDepth 100000
set_option maxHeartbeats 4000000
namespace PR
open PySem PySem.Spec PyProof.Rows L2 VL
/-! _law_mixed_k01 -/
def b__law_mixed_k01 : SC := (sSeq (sSet 2 (eBin fMod (eUn fInt (eBin fAdd (eBin fAdd (eBin fMul (eBin fMod (eUn fInt (eVar 0)) (eK (.int 2147483647))) (eK (.int 48271))) (eBin fMul (eVar 1) (eK (.int 69621)))) (eK (.int 11)))) (eK (.int 2147483647)))) (sSeq (sSet 2 (eBin fMod (eUn fInt (eBin fAdd (eBin fAdd (eBin fMul (eVar 2) (eVar 2)) (eBin fMul (eK (.int 13)) (eVar 1))) (eK (.int 5)))) (eK (.int 2147483629)))) (sRet (eBin fMod (eUn fInt (eBin fAdd (eBin fAdd (eBin fMul (eVar 2) (eVar 2)) (eBin fDiv (eVar 2) (eK (.int 1024)))) (eVar 1))) (eK (.int 2147483587))))))
def φ__law_mixed_k01 : Fn := runBody b__law_mixed_k01 3
/-! _law_cell_k01 -/
def b__law_cell_k01 : SC := (sSeq (sIf (tB (eBin fLt (eVar 1) (eUn fLen (eVar 0)))) (sRet (eBin fIx (eVar 0) (eVar 1))) sPass) (sSeq (sIf (tB (eBin fEq (eUn fLen (eVar 0)) (eK (.int 0)))) (sRet (eVar 1)) sPass) (sRet (eCall φ__law_mixed_k01 [(eBin fIx (eVar 0) (eBin fMod (eUn fInt (eVar 1)) (eUn fLen (eVar 0)))), (eBin fAdd (eK (.int 100)) (eVar 1))]))))
def φ__law_cell_k01 : Fn := runBody b__law_cell_k01 2
/-! _law_row_k01 -/
def w__law_row_k01_0 : SC := (sIf (tAnd (tB (eBin fGe (eVar 0) (eBin fPow (eK (.int 10)) (eK (.int 18))))) (tB (eBin fGt (eVar 4) (eK (.int 0))))) (sSeq (sApp (eVar 3) (eBin fMod (eUn fInt (eVar 4)) (eVar 2))) (sSet 4 (eBin fDiv (eVar 4) (eVar 2)))) (sApp (eVar 3) (eBin fMod (eUn fInt (eBin fAdd (eBin fMul (eCall φ__law_mixed_k01 [(eVar 0), (eBin fMul (eK (.int 2)) (eVar 5))]) (eK (.int 2147483587))) (eCall φ__law_mixed_k01 [(eVar 0), (eBin fAdd (eBin fMul (eK (.int 2)) (eVar 5)) (eK (.int 1)))]))) (eVar 2))))
def b__law_row_k01 : SC := (sSeq (sSet 3 (eLst [])) (sSeq (sSet 4 (eVar 0)) (sSeq (sFor [5] (iRng1 (eVar 1)) w__law_row_k01_0) (sRet (eVar 3)))))
def φ__law_row_k01 : Fn := runBody b__law_row_k01 6
/-! _law_is_number_k01 -/
def b__law_is_number_k01 : SC := (sRet (eAnd (eUn (fIsI .int) (eVar 0)) (eAnd (eUn fNot (eUn (fIsI .bool) (eVar 0))) (eAnd (eBin fLe (eVar 1) (eVar 0)) (eBin fLe (eVar 0) (eVar 2))))))
def φ__law_is_number_k01 : Fn := runBody b__law_is_number_k01 3
/-! _law_base_k01 -/
def b__law_base_k01 : SC := (sSeq (sIf (tB (eBin fEq (eVar 0) (eK (.int 2)))) (sRet (eBin fMax (eK (.int 0)) (eBin fSub (eBin fSub (eVar 2) (eK (.int 1))) (eBin fMod (eUn fInt (eVar 1)) (eK (.int 3)))))) sPass) (sSeq (sIf (tB (eBin fEq (eVar 0) (eK (.int 3)))) (sSeq (sSet 4 (eBin fAdd (eBin fAdd (eVar 2) (eK (.int 1))) (eBin fMod (eUn fInt (eVar 1)) (eK (.int 2))))) (sRet (eBin fMul (eVar 4) (eUn fInt (eBin fLe (eVar 4) (eVar 3)))))) sPass) (sSeq (sIf (tB (eBin fEq (eVar 0) (eK (.int 4)))) (sRet (eBin fMod (eUn fInt (eVar 1)) (eVar 2))) sPass) (sSeq (sIf (tAnd (tB (eBin fEq (eVar 0) (eK (.int 5)))) (tAnd (tB (eBin fLt (eVar 1) (eK (.int 9)))) (tB (eBin fGt (eVar 3) (eK (.int 1)))))) (sRet (eBin fAdd (eK (.int 1)) (eBin fMod (eUn fInt (eBin fSub (eBin fAdd (eVar 2) (eVar 3)) (eK (.int 2)))) (eVar 3)))) sPass) (sSeq (sSet 5 (eBin fMod (eUn fInt (eVar 1)) (eBin fAdd (eVar 3) (eK (.int 1))))) (sRet (eBin fMul (eVar 5) (eUn fInt (eBin fNe (eVar 5) (eVar 2))))))))))
def φ__law_base_k01 : Fn := runBody b__law_base_k01 6
/-! _law_given_k02 -/
def b__law_given_k02 : SC := (sSeq (sSet 2 (eUn fList (eBin fIx (eVar 0) (eK (.int 1))))) (sSeq (sIf (tB (eBin fEq (eBin fMod (eUn fInt (eVar 1)) (eK (.int 2))) (eK (.int 1)))) (sFrz 2 (sSet 2 (eComp [3] (iRow (eVar 2)) tYes (eUn fList (eVar 3))))) sPass) (sSeq (sIf (tB (eBin fEq (eBin fMod (eUn fInt (eVar 1)) (eK (.int 3))) (eK (.int 1)))) (sFrz 2 (sSet 2 (eUn fTuple (eVar 2)))) sPass) (sSeq (sIf (tB (eBin fLt (eBin fMod (eUn fInt (eVar 1)) (eK (.int 5))) (eK (.int 2)))) (sFrz 2 (sRet (eLst [(eBin fIx (eVar 0) (eK (.int 0))), (eVar 2)]))) sPass) (sRetM [.ev (eBin fIx (eVar 0) (eK (.int 0))), .mv 2])))))
def φ__law_given_k02 : Fn := runBody b__law_given_k02 4
/-! _law_kept_k02 -/
def b__law_kept_k02 : SC := (sSeq (sSet 2 (eCall φ__law_row_k01 [(eVar 0), (eK (.int 34)), (eK (.int 60))])) (sSeq (sSet 3 (eBin fMod (eUn fInt (eBin fIx (eVar 2) (eK (.int 0)))) (eK (.int 6)))) (sSeq (sIf (tB (eBin fLt (eVar 3) (eK (.int 2)))) (sRet (eK .none)) sPass) (sSeq (sIf (tB (eBin fEq (eVar 3) (eK (.int 2)))) (sRet (eUn fLRng1 (eVar 1))) sPass) (sSeq (sIf (tB (eBin fEq (eVar 3) (eK (.int 3)))) (sRet (eLst [])) sPass) (sSeq (sIf (tAnd (tB (eBin fEq (eVar 3) (eK (.int 4)))) (tB (eBin fGt (eVar 1) (eK (.int 0))))) (sSeq (sSet 4 (eBin fMod (eUn fInt (eBin fIx (eVar 2) (eK (.int 1)))) (eVar 1))) (sRet (eComp [5] (iRng1 (eVar 1)) (tB (eBin fNe (eVar 5) (eVar 4))) (eVar 5)))) sPass) (sRet (eComp [5] (iRng1 (eVar 1)) (tB (eBin fGt (eBin fMod (eUn fInt (eBin fIx (eVar 2) (eBin fAdd (eK (.int 2)) (eVar 5)))) (eK (.int 3))) (eK (.int 0)))) (eVar 5)))))))))
def φ__law_kept_k02 : Fn := runBody b__law_kept_k02 6
/-! _law_fault_k02 -/
def w__law_fault_k02_0 : SC := (sSeq (sIf (tOr (tNot (tB (eCall φ__law_is_number_k01 [(eBin fIx (eVar 0) (eVar 4)), (eVar 1), (eVar 2)]))) (tB (eBin fLe (eBin fIx (eVar 0) (eVar 4)) (eVar 3)))) (sRet (eVar 4)) sPass) (sSet 3 (eBin fIx (eVar 0) (eVar 4))))
def b__law_fault_k02 : SC := (sSeq (sIf (tNot (tB (eUn (fIsIs [.list, .tuple]) (eVar 0)))) (sRet (eUn fNeg (eK (.int 1)))) sPass) (sSeq (sSet 3 (eBin fSub (eVar 1) (eK (.int 1)))) (sSeq (sFor [4] (iRng1 (eUn fLen (eVar 0))) w__law_fault_k02_0) (sRet (eK .none)))))
def φ__law_fault_k02 : Fn := runBody b__law_fault_k02 5
/-! _law_there_k03 -/
def b__law_there_k03 : SC := (sSeq (sIf (tB (eUn fIsN (eVar 0))) (sRet (eUn fLRng1 (eVar 1))) sPass) (sRet (eUn fList (eVar 0))))
def φ__law_there_k03 : Fn := runBody b__law_there_k03 2
/-! _law_reached_k03 -/
def w__law_reached_k03_0 : SC := (sIf (tAnd (tB (eBin fNotIn (eBin fIx (eBin fIx (eVar 1) (eVar 5)) (eK (.int 1))) (eVar 3))) (tOr (tB (eBin fEq (eBin fIx (eBin fIx (eVar 1) (eVar 5)) (eK (.int 0))) (eK (.int 0)))) (tB (eBin fIn (eBin fIx (eBin fIx (eVar 1) (eVar 5)) (eK (.int 0))) (eVar 3))))) (sApp (eVar 3) (eBin fIx (eBin fIx (eVar 1) (eVar 5)) (eK (.int 1)))) sPass)
def w__law_reached_k03_1 : SC := (sFor [5] (iRow (eVar 2)) w__law_reached_k03_0)
def b__law_reached_k03 : SC := (sSeq (sSet 3 (eLst [])) (sSeq (sFor [4] (iRng1 (eVar 0)) w__law_reached_k03_1) (sFrz 3 (sRet (eUn fSorted (eVar 3))))))
def φ__law_reached_k03 : Fn := runBody b__law_reached_k03 6
/-! _law_name_k08 -/
def w__law_name_k08_0 : SC := (sSeq (sSet 6 (eBin fMod (eUn fInt (eVar 3)) (eK (.int 26)))) (sSeq (sSet 3 (eBin fDiv (eVar 3) (eK (.int 26)))) (sSeq (sIf (tB (eBin fEq (eVar 1) (eK (.int 1)))) (sSet 6 (eBin fMod (eUn fInt (eVar 6)) (eK (.int 2)))) sPass) (sFrz 4 (sSet 4 (eBin fAdd (eVar 4) (eBin fIx (eVar 2) (eVar 6))))))))
def b__law_name_k08 : SC := (sSeq (sSet 2 (eK (.str "abcdefghijklmnopqrstuvwxyz"))) (sSeq (sSet 3 (eBin fDiv (eVar 0) (eK (.int 8)))) (sSeq (sSet 4 (eK (.str ""))) (sSeq (sFor [5] (iRng1 (eBin fAdd (eK (.int 1)) (eBin fMod (eUn fInt (eVar 0)) (eK (.int 8))))) w__law_name_k08_0) (sRet (eVar 4))))))
def φ__law_name_k08 : Fn := runBody b__law_name_k08 7
/-! _law_names_k08 -/
def w__law_names_k08_0 : SC := (sSeq (sSet 5 (eCall φ__law_name_k08 [(eVar 4), (eVar 2)])) (sIf (tB (eBin fNotIn (eVar 5) (eVar 3))) (sFrz 5 (sApp (eVar 3) (eVar 5))) sPass))
def b__law_names_k08 : SC := (sSeq (sSet 3 (eLst [])) (sSeq (sFor [4] (iRow (eCall φ__law_row_k01 [(eVar 0), (eVar 1), (eBin fMul (eK (.int 8)) (eBin fPow (eK (.int 26)) (eK (.int 8))))])) w__law_names_k08_0) (sFrz 3 (sRet (eUn fSorted (eVar 3))))))
def φ__law_names_k08 : Fn := runBody b__law_names_k08 6
/-! _law_is_name_k08 -/
def w__law_is_name_k08_0 : SC := (sIf (tB (eBin fNotIn (eVar 1) (eK (.str "abcdefghijklmnopqrstuvwxyz")))) (sRet (eK (.bool false))) sPass)
def b__law_is_name_k08 : SC := (sSeq (sIf (tOr (tNot (tB (eUn (fIsI .str) (eVar 0)))) (tOr (tB (eBin fLt (eUn fLen (eVar 0)) (eK (.int 1)))) (tB (eBin fGt (eUn fLen (eVar 0)) (eK (.int 8)))))) (sRet (eK (.bool false))) sPass) (sSeq (sFor [1] (iRow (eVar 0)) w__law_is_name_k08_0) (sRet (eK (.bool true)))))
def φ__law_is_name_k08 : Fn := runBody b__law_is_name_k08 2
/-! _law_has_k08 -/
def w__law_has_k08_0 : SC := (sIf (tB (eBin fEq (eBin fIx (eVar 2) (eK (.int 0))) (eVar 1))) (sRet (eK (.bool true))) sPass)
def b__law_has_k08 : SC := (sSeq (sFor [2] (iRow (eVar 0)) w__law_has_k08_0) (sRet (eK (.bool false))))
def φ__law_has_k08 : Fn := runBody b__law_has_k08 3
/-! _law_value_k08 -/
def w__law_value_k08_0 : SC := (sIf (tB (eBin fEq (eBin fIx (eVar 2) (eK (.int 0))) (eVar 1))) (sRet (eBin fIx (eVar 2) (eK (.int 1)))) sPass)
def b__law_value_k08 : SC := (sSeq (sFor [2] (iRow (eVar 0)) w__law_value_k08_0) (sRet (eK .none)))
def φ__law_value_k08 : Fn := runBody b__law_value_k08 3
/-! _law_all_names_k08 -/
def b__law_all_names_k08 : SC := (sSeq (sSet 2 (eComp [3] (iRow (eVar 0)) tYes (eBin fIx (eVar 3) (eK (.int 0))))) (sFrz 2 (sRet (eUn fSorted (eBin fAdd (eVar 2) (eComp [3] (iRow (eVar 1)) (tB (eBin fNotIn (eBin fIx (eVar 3) (eK (.int 0))) (eVar 2))) (eBin fIx (eVar 3) (eK (.int 0)))))))))
def φ__law_all_names_k08 : Fn := runBody b__law_all_names_k08 4
/-! _law_history_k09 -/
def w__law_history_k09_0 : SC := (sSeq (sSet 9 (eBin fDiv (eBin fIx (eVar 6) (eVar 8)) (eK (.int 8)))) (sSeq (sIf (tB (eBin fGe (eVar 9) (eK (.int 1000)))) (sSet 9 (eBin fIx (eLst [(eK (.int 0)), (eK (.int 1)), (eK (.int 999))]) (eBin fMod (eUn fInt (eVar 9)) (eK (.int 3))))) sPass) (sSeq (sIf (tB (eVar 3)) (sSet 9 (eBin fMod (eUn fInt (eVar 9)) (eK (.int 3)))) sPass) (sSeq (sSet 10 (eBin fMod (eUn fInt (eBin fIx (eVar 6) (eVar 8))) (eK (.int 8)))) (sSeq (sIf (tB (eBin fEq (eVar 10) (eK (.int 0)))) (sSet 9 (eK .none)) sPass) (sSeq (sIf (tAnd (tB (eBin fGt (eVar 10) (eK (.int 3)))) (tB (eBin fGt (eVar 5) (eK (.int 0))))) (sSet 9 (eCall φ__law_value_k08 [(eBin fIx (eVar 4) (eBin fSub (eVar 5) (eK (.int 1)))), (eBin fIx (eVar 2) (eVar 8))])) sPass) (sIf (tB (eUn fNotN (eVar 9))) (sFrz 9 (sApp (eVar 7) (eTup [(eBin fIx (eVar 2) (eVar 8)), (eVar 9)]))) sPass)))))))
def w__law_history_k09_1 : SC := (sSeq (sSet 6 (eCall φ__law_row_k01 [(eCall φ__law_cell_k01 [(eVar 0), (eBin fAdd (eK (.int 12)) (eVar 5))]), (eUn fLen (eVar 2)), (eK (.int 8800))])) (sSeq (sSet 7 (eLst [])) (sSeq (sFor [8] (iRng1 (eUn fLen (eVar 2))) w__law_history_k09_0) (sApp (eVar 4) (eUn fTuple (eVar 7))))))
def b__law_history_k09 : SC := (sSeq (sSet 4 (eLst [])) (sSeq (sFor [5] (iRng1 (eVar 1)) w__law_history_k09_1) (sRet (eVar 4))))
def φ__law_history_k09 : Fn := runBody b__law_history_k09 11
/-! _law_store_k09 -/
def b__law_store_k09 : SC := (sSeq (sIf (tB (eBin fEq (eVar 1) (eK (.int 0)))) (sRet (eTup [])) sPass) (sRet (eBin fIx (eVar 0) (eBin fSub (eVar 1) (eK (.int 1))))))
def φ__law_store_k09 : Fn := runBody b__law_store_k09 2
/-! _law_fill_k09 -/
def w__law_fill_k09_0 : SC := (sSeq (sFrz 7 (sSet 11 (eCall φ__law_value_k08 [(eCall φ__law_store_k09 [(eVar 3), (eVar 7)]), (eBin fIx (eVar 2) (eVar 10))]))) (sFrz 6 (sIf (tOr (tB (eBin fNe (eCall φ__law_value_k08 [(eCall φ__law_store_k09 [(eVar 3), (eVar 6)]), (eBin fIx (eVar 2) (eVar 10))]) (eVar 11))) (tB (eBin fEq (eBin fIx (eVar 8) (eVar 10)) (eK (.int 0))))) (sFrz 11 (sApp (eVar 9) (eTup [(eBin fIx (eVar 2) (eVar 10)), (eVar 11)]))) sPass)))
def w__law_fill_k09_1 : SC := (sSeq (sSet 6 (eBin fIx (eBin fIx (eBin fIx (eVar 1) (eK (.int 1))) (eVar 5)) (eK (.int 0)))) (sSeq (sSet 7 (eBin fIx (eBin fIx (eBin fIx (eVar 1) (eK (.int 1))) (eVar 5)) (eK (.int 1)))) (sSeq (sSet 8 (eCall φ__law_row_k01 [(eCall φ__law_cell_k01 [(eVar 0), (eBin fAdd (eK (.int 22)) (eVar 5))]), (eUn fLen (eVar 2)), (eK (.int 8))])) (sSeq (sSet 9 (eLst [])) (sSeq (sFor [10] (iRng1 (eUn fLen (eVar 2))) w__law_fill_k09_0) (sFrz 7 (sFrz 6 (sApp (eVar 4) (eTup [(eVar 6), (eVar 7), (eUn fTuple (eVar 9))])))))))))
def b__law_fill_k09 : SC := (sSeq (sSet 4 (eLst [])) (sSeq (sFor [5] (iRng1 (eUn fLen (eBin fIx (eVar 1) (eK (.int 1))))) w__law_fill_k09_1) (sRetM [.ev (eBin fIx (eVar 1) (eK (.int 0))), .mv 4])))
def φ__law_fill_k09 : Fn := runBody b__law_fill_k09 12
/-! _law_spoil_k09 -/
def b__law_spoil_k09 : SC := (sSeq (sSet 3 (eCall φ__law_row_k01 [(eVar 2), (eK (.int 4)), (eK (.int 990))])) (sSeq (sSet 4 (eBin fIx (eVar 0) (eK (.int 1)))) (sSeq (sIf (tOr (tB (eBin fEq (eUn fLen (eVar 4)) (eK (.int 0)))) (tB (eBin fEq (eUn fLen (eVar 1)) (eK (.int 0))))) (sRet (eVar 0)) sPass) (sSeq (sSet 5 (eBin fMod (eUn fInt (eBin fIx (eVar 3) (eK (.int 0)))) (eUn fLen (eVar 4)))) (sSeq (sSet 6 (eBin fIx (eVar 1) (eBin fMod (eUn fInt (eBin fIx (eVar 3) (eK (.int 1)))) (eUn fLen (eVar 1))))) (sSeq (sSet 7 (eBin fIx (eLst [(eK .none), (eK (.int 0)), (eK (.int 1)), (eK (.int 2)), (eK (.int 999)), (eBin fIx (eVar 3) (eK (.int 2)))]) (eBin fMod (eUn fInt (eBin fIx (eVar 3) (eK (.int 2)))) (eK (.int 6))))) (sSeq (sSet 8 (eComp [10] (iRow (eBin fIx (eBin fIx (eVar 4) (eVar 5)) (eK (.int 2)))) (tB (eBin fNe (eBin fIx (eVar 10) (eK (.int 0))) (eVar 6))) (eVar 10))) (sSeq (sIf (tB (eBin fGt (eBin fMod (eUn fInt (eBin fIx (eVar 3) (eK (.int 3)))) (eK (.int 4))) (eK (.int 0)))) (sFrz 7 (sFrz 6 (sFrz 8 (sSet 8 (eUn fSorted (eBin fAdd (eVar 8) (eLst [(eTup [(eVar 6), (eVar 7)])]))))))) sPass) (sSeq (sFrz 8 (sSet 9 (eTup [(eBin fIx (eBin fIx (eVar 4) (eVar 5)) (eK (.int 0))), (eBin fIx (eBin fIx (eVar 4) (eVar 5)) (eK (.int 1))), (eUn fTuple (eVar 8))]))) (sFrz 9 (sFrz 4 (sRet (eTup [(eBin fIx (eVar 0) (eK (.int 0))), (eBin fAdd (eBin fAdd (eSlice (eVar 4) none (some (eVar 5))) (eLst [(eVar 9)])) (eSlice (eVar 4) (some (eBin fAdd (eVar 5) (eK (.int 1)))) none))])))))))))))))
def φ__law_spoil_k09 : Fn := runBody b__law_spoil_k09 11
/-! _law_given_k09 -/
def w__law_given_k09_0 : SC := (sIf (tB (eBin fEq (eBin fMod (eUn fInt (eVar 1)) (eK (.int 2))) (eK (.int 1)))) (sApp (eVar 2) (eLst [(eBin fIx (eVar 3) (eK (.int 0))), (eBin fIx (eVar 3) (eK (.int 1))), (eComp [4] (iRow (eBin fIx (eVar 3) (eK (.int 2)))) tYes (eUn fList (eVar 4)))])) (sApp (eVar 2) (eTup [(eBin fIx (eVar 3) (eK (.int 0))), (eBin fIx (eVar 3) (eK (.int 1))), (eBin fIx (eVar 3) (eK (.int 2)))])))
def b__law_given_k09 : SC := (sSeq (sSet 2 (eLst [])) (sSeq (sFor [3] (iRow (eBin fIx (eVar 0) (eK (.int 1)))) w__law_given_k09_0) (sSeq (sIf (tB (eBin fEq (eBin fMod (eUn fInt (eVar 1)) (eK (.int 3))) (eK (.int 1)))) (sFrz 2 (sSet 2 (eUn fTuple (eVar 2)))) sPass) (sSeq (sIf (tB (eBin fLt (eBin fMod (eUn fInt (eVar 1)) (eK (.int 5))) (eK (.int 2)))) (sFrz 2 (sRet (eLst [(eBin fIx (eVar 0) (eK (.int 0))), (eVar 2)]))) sPass) (sRetM [.ev (eBin fIx (eVar 0) (eK (.int 0))), .mv 2])))))
def φ__law_given_k09 : Fn := runBody b__law_given_k09 5
/-! _law_is_store_k09 -/
def w__law_is_store_k09_0 : SC := (sSeq (sSet 2 (eBin fIx (eVar 0) (eVar 1))) (sSeq (sIf (tOr (tNot (tB (eUn (fIsIs [.list, .tuple]) (eVar 2)))) (tOr (tB (eBin fNe (eUn fLen (eVar 2)) (eK (.int 2)))) (tNot (tB (eCall φ__law_is_name_k08 [(eBin fIx (eVar 2) (eK (.int 0)))]))))) (sRet (eK (.bool false))) sPass) (sSeq (sIf (tNot (tB (eCall φ__law_is_number_k01 [(eBin fIx (eVar 2) (eK (.int 1))), (eK (.int 0)), (eK (.int 999))]))) (sRet (eK (.bool false))) sPass) (sIf (tAnd (tB (eBin fGt (eVar 1) (eK (.int 0)))) (tB (eBin fLe (eBin fIx (eVar 2) (eK (.int 0))) (eBin fIx (eBin fIx (eVar 0) (eBin fSub (eVar 1) (eK (.int 1)))) (eK (.int 0)))))) (sRet (eK (.bool false))) sPass))))
def b__law_is_store_k09 : SC := (sSeq (sIf (tOr (tNot (tB (eUn (fIsIs [.list, .tuple]) (eVar 0)))) (tB (eBin fGt (eUn fLen (eVar 0)) (eK (.int 12))))) (sRet (eK (.bool false))) sPass) (sSeq (sFor [1] (iRng1 (eUn fLen (eVar 0))) w__law_is_store_k09_0) (sRet (eK (.bool true)))))
def φ__law_is_store_k09 : Fn := runBody b__law_is_store_k09 3
/-! _law_frozen_k09 -/
def b__law_frozen_k09 : SC := (sRet (eUn fTuple (eComp [1] (iRow (eVar 0)) tYes (eTup [(eBin fIx (eVar 1) (eK (.int 0))), (eBin fIx (eVar 1) (eK (.int 1)))]))))
def φ__law_frozen_k09 : Fn := runBody b__law_frozen_k09 2
/-! _law_groups_k12 -/
def w__law_groups_k12_0 : SC := (sIf (tNot (tB (eCall φ__law_has_k08 [(eBin fIx (eBin fIx (eVar 1) (eVar 7)) (eK (.int 2))), (eVar 3)]))) (sSeq (sSet 8 (eBin fMin (eBin fIx (eVar 4) (eBin fIx (eBin fIx (eVar 1) (eVar 7)) (eK (.int 0)))) (eBin fIx (eVar 4) (eBin fIx (eBin fIx (eVar 1) (eVar 7)) (eK (.int 1)))))) (sSeq (sFrz 8 (sPut (eVar 4) (eBin fIx (eBin fIx (eVar 1) (eVar 7)) (eK (.int 0))) (eVar 8))) (sFrz 8 (sPut (eVar 4) (eBin fIx (eBin fIx (eVar 1) (eVar 7)) (eK (.int 1))) (eVar 8))))) sPass)
def w__law_groups_k12_1 : SC := (sSeq (sSet 6 (eUn fList (eVar 4))) (sSeq (sFor [7] (iRow (eVar 2)) w__law_groups_k12_0) (sIf (tB (eBin fEq (eVar 4) (eVar 6))) (sRet (eVar 4)) sPass)))
def b__law_groups_k12 : SC := (sSeq (sSet 4 (eUn fLRng1 (eBin fAdd (eVar 0) (eK (.int 1))))) (sSeq (sFor [5] (iRng1 (eVar 0)) w__law_groups_k12_1) (sRet (eVar 4))))
def φ__law_groups_k12 : Fn := runBody b__law_groups_k12 9
/-! _law_end_k12 -/
def b__law_end_k12 : SC := (sSeq (sIf (tNot (tB (eCall φ__law_is_number_k01 [(eVar 3), (eUn fNeg (eK (.int 1))), (eBin fSub (eUn fLen (eVar 0)) (eK (.int 1)))]))) (sRet (eK .none)) sPass) (sSeq (sIf (tB (eBin fEq (eVar 3) (eUn fNeg (eK (.int 1))))) (sRet (eLst [(eK (.int 0)), (eK .none)])) sPass) (sSeq (sIf (tOr (tB (eBin fNotIn (eVar 3) (eVar 1))) (tNot (tB (eCall φ__law_has_k08 [(eBin fIx (eBin fIx (eVar 0) (eVar 3)) (eK (.int 2))), (eVar 2)])))) (sRet (eK .none)) sPass) (sRet (eLst [(eBin fIx (eBin fIx (eVar 0) (eVar 3)) (eK (.int 1))), (eCall φ__law_value_k08 [(eBin fIx (eBin fIx (eVar 0) (eVar 3)) (eK (.int 2))), (eVar 2)])])))))
def φ__law_end_k12 : Fn := runBody b__law_end_k12 4
/-! _law_clashes_k12 -/
def w__law_clashes_k12_0 : SC := (sSeq (sFrz 3 (sIf (tOr (tNot (tB (eCall φ__law_is_number_k01 [(eVar 8), (eK (.int 0)), (eBin fSub (eUn fLen (eVar 0)) (eK (.int 1)))]))) (tOr (tB (eBin fNotIn (eVar 8) (eVar 1))) (tB (eCall φ__law_has_k08 [(eBin fIx (eBin fIx (eVar 0) (eVar 8)) (eK (.int 2))), (eVar 3)])))) (sRet (eK (.bool false))) sPass)) (sIf (tB (eBin fEq (eBin fIx (eBin fIx (eVar 0) (eVar 8)) (eK (.int 0))) (eVar 7))) (sSet 7 (eBin fIx (eBin fIx (eVar 0) (eVar 8)) (eK (.int 1)))) (sIf (tB (eBin fEq (eBin fIx (eBin fIx (eVar 0) (eVar 8)) (eK (.int 1))) (eVar 7))) (sSet 7 (eBin fIx (eBin fIx (eVar 0) (eVar 8)) (eK (.int 0)))) (sRet (eK (.bool false))))))
def b__law_clashes_k12 : SC := (sSeq (sIf (tOr (tNot (tB (eUn (fIsIs [.list, .tuple]) (eVar 2)))) (tB (eBin fNe (eUn fLen (eVar 2)) (eK (.int 4))))) (sRet (eK (.bool false))) sPass) (sSeq (sSet 3 (eBin fIx (eVar 2) (eK (.int 0)))) (sSeq (sSet 4 (eBin fIx (eVar 2) (eK (.int 2)))) (sSeq (sFrz 3 (sIf (tOr (tNot (tB (eCall φ__law_is_name_k08 [(eVar 3)]))) (tNot (tB (eUn (fIsIs [.list, .tuple]) (eVar 4))))) (sRet (eK (.bool false))) sPass)) (sSeq (sFrz 3 (sSet 5 (eCall φ__law_end_k12 [(eVar 0), (eVar 1), (eVar 3), (eBin fIx (eVar 2) (eK (.int 1)))]))) (sSeq (sFrz 3 (sSet 6 (eCall φ__law_end_k12 [(eVar 0), (eVar 1), (eVar 3), (eBin fIx (eVar 2) (eK (.int 3)))]))) (sSeq (sIf (tOr (tB (eUn fIsN (eVar 5))) (tOr (tB (eUn fIsN (eVar 6))) (tB (eBin fEq (eBin fIx (eVar 5) (eK (.int 1))) (eBin fIx (eVar 6) (eK (.int 1))))))) (sRet (eK (.bool false))) sPass) (sSeq (sSet 7 (eBin fIx (eVar 5) (eK (.int 0)))) (sSeq (sFrz 4 (sFor [8] (iRow (eVar 4)) w__law_clashes_k12_0)) (sRet (eBin fEq (eVar 7) (eBin fIx (eVar 6) (eK (.int 0))))))))))))))
def φ__law_clashes_k12 : Fn := runBody b__law_clashes_k12 9
/-! _law_names_in_k12 -/
def w__law_names_in_k12_0 : SC := (sFrz 1 (sSet 1 (eBin fAdd (eVar 1) (eComp [3] (iRow (eBin fIx (eVar 2) (eK (.int 2)))) (tB (eBin fNotIn (eBin fIx (eVar 3) (eK (.int 0))) (eVar 1))) (eBin fIx (eVar 3) (eK (.int 0)))))))
def b__law_names_in_k12 : SC := (sSeq (sSet 1 (eLst [])) (sSeq (sFor [2] (iRow (eVar 0)) w__law_names_in_k12_0) (sFrz 1 (sRet (eUn fSorted (eVar 1))))))
def φ__law_names_in_k12 : Fn := runBody b__law_names_in_k12 4
/-! _law_cell_k14 -/
def b__law_cell_k14 : SC := (sSeq (sIf (tB (eBin fLt (eVar 1) (eUn fLen (eVar 0)))) (sRet (eBin fIx (eVar 0) (eVar 1))) sPass) (sSeq (sIf (tB (eBin fEq (eUn fLen (eVar 0)) (eK (.int 0)))) (sRet (eBin fMul (eK (.int 7919)) (eVar 1))) sPass) (sRet (eBin fAdd (eBin fMod (eUn fInt (eBin fIx (eVar 0) (eBin fMod (eVar 1) (eUn fLen (eVar 0))))) (eK (.int 1000003))) (eBin fMul (eK (.int 7919)) (eVar 1))))))
def φ__law_cell_k14 : Fn := runBody b__law_cell_k14 2
/-! _law_row_k14 -/
def w__law_row_k14_0 : SC := (sIf (tB (eBin fGe (eVar 0) (eBin fPow (eK (.int 10)) (eK (.int 18))))) (sSeq (sApp (eVar 4) (eBin fMod (eUn fInt (eVar 5)) (eVar 2))) (sSet 5 (eBin fDiv (eVar 5) (eVar 2)))) (sSeq (sSet 7 (eBin fMod (eUn fInt (eBin fAdd (eBin fAdd (eBin fAdd (eBin fMul (eBin fMod (eUn fInt (eVar 0)) (eK (.int 2147483647))) (eK (.int 48271))) (eBin fMul (eVar 6) (eK (.int 69621)))) (eBin fMul (eVar 3) (eK (.int 7919)))) (eK (.int 11)))) (eK (.int 2147483647)))) (sSeq (sSet 7 (eBin fMod (eUn fInt (eBin fAdd (eBin fAdd (eBin fMul (eVar 7) (eVar 7)) (eBin fMul (eK (.int 13)) (eVar 6))) (eK (.int 5)))) (eK (.int 2147483629)))) (sSeq (sSet 7 (eBin fMod (eUn fInt (eBin fAdd (eBin fAdd (eBin fMul (eVar 7) (eVar 7)) (eBin fMul (eK (.int 7)) (eVar 6))) (eK (.int 3)))) (eK (.int 2147483587)))) (sApp (eVar 4) (eBin fMod (eVar 7) (eVar 2)))))))
def b__law_row_k14 : SC := (sSeq (sSet 4 (eLst [])) (sSeq (sSet 5 (eVar 0)) (sSeq (sFor [6] (iRng1 (eVar 1)) w__law_row_k14_0) (sRet (eVar 4)))))
def φ__law_row_k14 : Fn := runBody b__law_row_k14 8
/-! _law_given_k14 -/
def w__law_given_k14_0 : SC := (sIf (tB (eBin fIx (eVar 2) (eBin fIx (eVar 4) (eK (.int 0))))) (sPut (eVar 2) (eBin fIx (eVar 4) (eK (.int 1))) (eK (.bool true))) sPass)
def w__law_given_k14_1 : SC := (sFor [4] (iRow (eVar 0)) w__law_given_k14_0)
def b__law_given_k14 : SC := (sSeq (sSet 2 (eComp [5] (iRng1 (eBin fAdd (eVar 1) (eK (.int 1)))) tYes (eBin fEq (eVar 5) (eK (.int 0))))) (sSeq (sFor [3] (iRng1 (eVar 1)) w__law_given_k14_1) (sRet (eComp [5] (iRng2 (eK (.int 1)) (eBin fAdd (eVar 1) (eK (.int 1)))) (tB (eBin fIx (eVar 2) (eVar 5))) (eVar 5)))))
def φ__law_given_k14 : Fn := runBody b__law_given_k14 6
/-! _law_tapes_k14 -/
def b__law_tapes_k14 : SC := (sSeq (sIf (tB (eBin fEq (eBin fMod (eVar 0) (eK (.int 6))) (eK (.int 0)))) (sRet (eBin fIx (eLst [(eK (.int 0)), (eK (.int 6)), (eK (.int 7)), (eK (.int 8))]) (eBin fMod (eBin fDiv (eVar 0) (eK (.int 6))) (eK (.int 4))))) sPass) (sRet (eBin fAdd (eK (.int 1)) (eBin fMod (eBin fDiv (eVar 0) (eK (.int 6))) (eK (.int 5))))))
def φ__law_tapes_k14 : Fn := runBody b__law_tapes_k14 1
/-! _law_rack_k14 -/
def w__law_rack_k14_0 : SC := (sSeq (sSet 10 (eBin fEq (eBin fMod (eBin fDiv (eBin fIx (eVar 4) (eVar 9)) (eBin fIx (eVar 5) (eVar 7))) (eK (.int 2))) (eK (.int 1)))) (sSeq (sIf (tOr (tB (eBin fEq (eVar 3) (eK (.int 1)))) (tB (eBin fEq (eVar 3) (eK (.int 4))))) (sSet 10 (eBin fEq (eBin fMod (eBin fIx (eVar 4) (eVar 9)) (eVar 2)) (eVar 7))) sPass) (sSeq (sIf (tB (eBin fEq (eVar 3) (eK (.int 2)))) (sSet 10 (eOr (eBin fEq (eBin fMod (eBin fIx (eVar 4) (eVar 9)) (eBin fAdd (eVar 2) (eK (.int 1)))) (eVar 7)) (eBin fEq (eBin fMod (eBin fDiv (eBin fIx (eVar 4) (eVar 9)) (eK (.int 16))) (eBin fAdd (eVar 2) (eK (.int 1)))) (eVar 7)))) sPass) (sSeq (sIf (tB (eBin fEq (eVar 3) (eK (.int 3)))) (sSet 10 (eBin fEq (eVar 9) (eVar 7))) sPass) (sIf (tB (eVar 10)) (sApp (eVar 8) (eVar 9)) sPass)))))
def w__law_rack_k14_1 : SC := (sSeq (sSet 8 (eLst [])) (sSeq (sFor [9] (iRng1 (eVar 1)) w__law_rack_k14_0) (sApp (eVar 6) (eVar 8))))
def b__law_rack_k14 : SC := (sSeq (sSet 4 (eCall φ__law_row_k14 [(eVar 0), (eVar 1), (eK (.int 256)), (eK (.int 6))])) (sSeq (sSet 5 (eLst [(eK (.int 1)), (eK (.int 2)), (eK (.int 4)), (eK (.int 8)), (eK (.int 16)), (eK (.int 32)), (eK (.int 64)), (eK (.int 128))])) (sSeq (sSet 6 (eLst [])) (sSeq (sFor [7] (iRng1 (eVar 2)) w__law_rack_k14_1) (sRet (eVar 6))))))
def φ__law_rack_k14 : Fn := runBody b__law_rack_k14 11
/-! _law_on_k14 -/
def w__law_on_k14_0 : SC := (sPut (eVar 3) (eVar 5) (eK (.bool true)))
def w__law_on_k14_1 : SC := (sFor [5] (iRow (eBin fIx (eVar 0) (eVar 4))) w__law_on_k14_0)
def b__law_on_k14 : SC := (sSeq (sSet 3 (eComp [5] (iRng1 (eVar 2)) tYes (eK (.bool false)))) (sSeq (sFor [4] (iRow (eVar 1)) w__law_on_k14_1) (sRet (eComp [5] (iRng1 (eVar 2)) (tB (eBin fIx (eVar 3) (eVar 5))) (eVar 5)))))
def φ__law_on_k14 : Fn := runBody b__law_on_k14 6
/-! _law_fault_k14 -/
def w__law_fault_k14_0 : SC := (sSeq (sSet 4 (eBin fIx (eVar 0) (eVar 3))) (sSeq (sIf (tOr (tNot (tB (eUn (fIsI .int) (eVar 4)))) (tOr (tB (eUn (fIsI .bool) (eVar 4))) (tOr (tB (eBin fLt (eVar 4) (eVar 1))) (tB (eBin fGt (eVar 4) (eVar 2)))))) (sRet (eVar 3)) sPass) (sIf (tAnd (tB (eBin fGt (eVar 3) (eK (.int 0)))) (tB (eBin fLe (eVar 4) (eBin fIx (eVar 0) (eBin fSub (eVar 3) (eK (.int 1))))))) (sRet (eVar 3)) sPass)))
def b__law_fault_k14 : SC := (sSeq (sIf (tNot (tB (eUn (fIsIs [.list, .tuple]) (eVar 0)))) (sRet (eUn fNeg (eK (.int 1)))) sPass) (sSeq (sFor [3] (iRng1 (eUn fLen (eVar 0))) w__law_fault_k14_0) (sRet (eK .none))))
def φ__law_fault_k14 : Fn := runBody b__law_fault_k14 5
/-! _law_odd_k14 -/
def w__law_odd_k14_0 : SC := (sSeq (sIf (tB (eBin fEq (eBin fMod (eBin fIx (eVar 3) (eK (.int 0))) (eK (.int 2))) (eK (.int 0)))) (sSet 5 (eBin fAdd (eBin fSub (eVar 1) (eK (.int 1))) (eBin fMod (eBin fIx (eVar 3) (eBin fAdd (eK (.int 3)) (eVar 6))) (eBin fAdd (eBin fSub (eVar 2) (eVar 1)) (eK (.int 3)))))) sPass) (sSeq (sApp (eVar 4) (eVar 5)) (sSet 5 (eBin fSub (eBin fAdd (eVar 5) (eK (.int 1))) (eBin fDiv (eBin fMod (eBin fIx (eVar 3) (eBin fAdd (eK (.int 3)) (eVar 6))) (eK (.int 6))) (eK (.int 5)))))))
def b__law_odd_k14 : SC := (sSeq (sSet 3 (eCall φ__law_row_k14 [(eVar 0), (eK (.int 8)), (eK (.int 5040)), (eK (.int 9))])) (sSeq (sIf (tB (eBin fEq (eBin fMod (eBin fIx (eVar 3) (eK (.int 0))) (eK (.int 8))) (eK (.int 0)))) (sRet (eBin fIx (eLst [(eK .none), (eK (.str "12")), (eK (.int 3)), (eK (.bool true))]) (eBin fMod (eBin fIx (eVar 3) (eK (.int 1))) (eK (.int 4))))) sPass) (sSeq (sSet 4 (eLst [])) (sSeq (sSet 5 (eBin fSub (eVar 1) (eBin fDiv (eBin fMod (eBin fIx (eVar 3) (eK (.int 2))) (eK (.int 6))) (eK (.int 5))))) (sSeq (sFor [6] (iRng1 (eBin fMod (eBin fIx (eVar 3) (eK (.int 1))) (eK (.int 5)))) w__law_odd_k14_0) (sSeq (sIf (tB (eBin fEq (eBin fMod (eBin fIx (eVar 3) (eK (.int 0))) (eK (.int 8))) (eK (.int 1)))) (sApp (eVar 4) (eK (.bool true))) sPass) (sSeq (sIf (tB (eBin fEq (eBin fMod (eBin fIx (eVar 3) (eK (.int 0))) (eK (.int 8))) (eK (.int 2)))) (sApp (eVar 4) (eK .none)) sPass) (sRet (eVar 4)))))))))
def φ__law_odd_k14 : Fn := runBody b__law_odd_k14 7
/-! _law_choice_due_k14 -/
def b__law_choice_due_k14 : SC := (sSeq (sSet 3 (eCall φ__law_fault_k14 [(eVar 0), (eVar 1), (eVar 2)])) (sSeq (sIf (tB (eUn fIsN (eVar 3))) (sRet (eK .none)) sPass) (sRetM [.ev (eK (.str "choice")), .mv 3, .ev (eK (.bool true))])))
def φ__law_choice_due_k14 : Fn := runBody b__law_choice_due_k14 4
/-! _law_due_k14 -/
def w__law_due_k14_0 : SC := (sIf (tB (eUn fNotN (eBin fIx (eVar 1) (eK (.int 1))))) (sRet (eBin fIx (eVar 1) (eK (.int 1)))) sPass)
def b__law_due_k14 : SC := (sSeq (sFor [1] (iRow (eVar 0)) w__law_due_k14_0) (sRet (eK .none)))
def φ__law_due_k14 : Fn := runBody b__law_due_k14 2
/-! _law_want_k15 -/
def b__law_want_k15 : SC := (sSeq (sSet 3 (eCall φ__law_row_k14 [(eVar 1), (eK (.int 11)), (eK (.int 30)), (eK (.int 7))])) (sSeq (sIf (tB (eBin fEq (eBin fMod (eVar 0) (eK (.int 4))) (eK (.int 0)))) (sRet (eComp [4] (iRng2 (eK (.int 1)) (eBin fAdd (eVar 2) (eK (.int 1)))) tYes (eVar 4))) sPass) (sSeq (sIf (tB (eBin fEq (eBin fMod (eVar 0) (eK (.int 4))) (eK (.int 1)))) (sRet (eLst [(eBin fAdd (eK (.int 1)) (eBin fMod (eBin fIx (eVar 3) (eK (.int 0))) (eVar 2)))])) sPass) (sSeq (sIf (tB (eBin fEq (eBin fMod (eVar 0) (eK (.int 12))) (eK (.int 2)))) (sRet (eLst [])) sPass) (sRet (eComp [4] (iRng2 (eK (.int 1)) (eBin fAdd (eVar 2) (eK (.int 1)))) (tB (eBin fEq (eBin fMod (eBin fIx (eVar 3) (eVar 4)) (eK (.int 3))) (eK (.int 0)))) (eVar 4)))))))
def φ__law_want_k15 : Fn := runBody b__law_want_k15 5
/-! _law_subsets_k15 -/
def w__law_subsets_k15_0 : SC := (sApp (eVar 4) (eBin fAdd (eVar 5) (eLst [(eVar 7)])))
def w__law_subsets_k15_1 : SC := (sSeq (sApp (eVar 1) (eVar 5)) (sSeq (sSet 6 (eK (.int 0))) (sSeq (sIf (tB (eBin fGt (eVar 3) (eK (.int 0)))) (sSet 6 (eBin fAdd (eBin fIx (eVar 5) (eUn fNeg (eK (.int 1)))) (eK (.int 1)))) sPass) (sFor [7] (iRng2 (eVar 6) (eVar 0)) w__law_subsets_k15_0))))
def w__law_subsets_k15_2 : SC := (sSeq (sSet 4 (eLst [])) (sSeq (sFrz 2 (sFor [5] (iRow (eVar 2)) w__law_subsets_k15_1)) (sSet 2 (eVar 4))))
def b__law_subsets_k15 : SC := (sSeq (sSet 1 (eLst [])) (sSeq (sSet 2 (eLst [(eLst [])])) (sSeq (sFor [3] (iRng1 (eBin fAdd (eVar 0) (eK (.int 1)))) w__law_subsets_k15_2) (sRet (eVar 1)))))
def φ__law_subsets_k15 : Fn := runBody b__law_subsets_k15 8
/-! _law_mask_k15 -/
def b__law_mask_k15 : SC := (sSeq (sSet 1 (eLst [(eK (.int 1)), (eK (.int 2)), (eK (.int 4)), (eK (.int 8)), (eK (.int 16)), (eK (.int 32)), (eK (.int 64)), (eK (.int 128))])) (sRet (eUn fSum (eComp [2] (iRow (eVar 0)) tYes (eBin fIx (eVar 1) (eVar 2))))))
def φ__law_mask_k15 : Fn := runBody b__law_mask_k15 3
/-! _law_enough_k15 -/
def w__law_enough_k15_0 : SC := (sSeq (sSet 6 (eComp [9] (iRow (eCall φ__law_on_k14 [(eVar 1), (eVar 5), (eUn fLen (eBin fIx (eVar 0) (eK (.int 1))))])) tYes (eBin fIx (eBin fIx (eVar 0) (eK (.int 1))) (eVar 9)))) (sSeq (sFrz 6 (sSet 7 (eCall φ__law_given_k14 [(eVar 6), (eBin fIx (eVar 0) (eK (.int 0)))]))) (sPut (eVar 4) (eCall φ__law_mask_k15 [(eVar 5)]) (eBin fEq (eUn fLen (eComp [10] (iRow (eVar 2)) (tB (eBin fNotIn (eVar 10) (eVar 7))) (eVar 10))) (eK (.int 0))))))
def b__law_enough_k15 : SC := (sSeq (sSet 4 (eComp [8] (iRng1 (eK (.int 256))) tYes (eK (.bool false)))) (sSeq (sFor [5] (iRow (eVar 3)) w__law_enough_k15_0) (sRet (eVar 4))))
def φ__law_enough_k15 : Fn := runBody b__law_enough_k15 11
/-! _law_harm_k15 -/
def w__law_harm_k15_0 : SC := (sPut (eVar 3) (eCall φ__law_mask_k15 [(eVar 4)]) (eUn fNot (eBin fIx (eVar 1) (eBin fSub (eVar 2) (eCall φ__law_mask_k15 [(eVar 4)])))))
def b__law_harm_k15 : SC := (sSeq (sSet 2 (eCall φ__law_mask_k15 [(eBin fIx (eVar 0) (eUn fNeg (eK (.int 1))))])) (sSeq (sSet 3 (eComp [5] (iRng1 (eK (.int 256))) tYes (eK (.bool false)))) (sSeq (sFor [4] (iRow (eVar 0)) w__law_harm_k15_0) (sRet (eVar 3)))))
def φ__law_harm_k15 : Fn := runBody b__law_harm_k15 6
/-! _law_least_k15 -/
def w__law_least_k15_0 : SC := (sSeq (sSet 4 (eCall φ__law_mask_k15 [(eVar 3)])) (sSeq (sSet 5 (eComp [6] (iRow (eVar 3)) (tB (eBin fIx (eVar 1) (eBin fSub (eVar 4) (eCall φ__law_mask_k15 [(eLst [(eVar 6)])])))) (eVar 6))) (sIf (tAnd (tB (eBin fIx (eVar 1) (eVar 4))) (tB (eBin fEq (eUn fLen (eVar 5)) (eK (.int 0))))) (sApp (eVar 2) (eVar 3)) sPass)))
def b__law_least_k15 : SC := (sSeq (sSet 2 (eLst [])) (sSeq (sFor [3] (iRow (eVar 0)) w__law_least_k15_0) (sRet (eVar 2))))
def φ__law_least_k15 : Fn := runBody b__law_least_k15 7
/-! _law_is_pairs_k18 -/
def w__law_is_pairs_k18_0 : SC := (sIf (tOr (tNot (tB (eUn (fIsIs [.list, .tuple]) (eVar 1)))) (tB (eBin fNe (eUn fLen (eVar 1)) (eK (.int 2))))) (sRet (eK (.bool false))) sPass)
def b__law_is_pairs_k18 : SC := (sSeq (sIf (tNot (tB (eUn (fIsIs [.list, .tuple]) (eVar 0)))) (sRet (eK (.bool false))) sPass) (sSeq (sFor [1] (iRow (eVar 0)) w__law_is_pairs_k18_0) (sRet (eK (.bool true)))))
def φ__law_is_pairs_k18 : Fn := runBody b__law_is_pairs_k18 2
/-! _law_bent_side_k18 -/
def b__law_bent_side_k18 : SC := (sSeq (sSet 4 (eBin fMod (eBin fIx (eVar 3) (eK (.int 2))) (eK (.int 12)))) (sSeq (sSet 5 (eBin fMod (eBin fIx (eVar 3) (eK (.int 3))) (eBin fAdd (eUn fLen (eVar 0)) (eK (.int 1))))) (sSeq (sSet 6 (eBin fAdd (eVar 1) (eBin fMod (eBin fIx (eVar 3) (eK (.int 4))) (eBin fAdd (eBin fSub (eVar 2) (eVar 1)) (eK (.int 2)))))) (sSeq (sIf (tB (eBin fEq (eVar 4) (eK (.int 0)))) (sRet (eLst [])) sPass) (sSeq (sIf (tB (eBin fEq (eVar 4) (eK (.int 1)))) (sRet (eComp [7] (iRng2 (eVar 1) (eBin fAdd (eVar 2) (eK (.int 1)))) tYes (eVar 7))) sPass) (sSeq (sIf (tB (eBin fEq (eVar 4) (eK (.int 2)))) (sRet (eBin fAdd (eSlice (eVar 0) none (some (eVar 5))) (eSlice (eVar 0) (some (eBin fAdd (eVar 5) (eK (.int 1)))) none))) sPass) (sSeq (sIf (tB (eBin fEq (eVar 4) (eK (.int 3)))) (sRet (eUn fSorted (eBin fAdd (eVar 0) (eLst [(eVar 6)])))) sPass) (sSeq (sIf (tB (eBin fEq (eVar 4) (eK (.int 4)))) (sRet (eUn fRev (eVar 0))) sPass) (sSeq (sIf (tB (eBin fEq (eVar 4) (eK (.int 5)))) (sRet (eBin fAdd (eVar 0) (eLst [(eBin fAdd (eVar 2) (eK (.int 1)))]))) sPass) (sSeq (sIf (tB (eBin fEq (eVar 4) (eK (.int 6)))) (sRet (eBin fAdd (eLst [(eBin fSub (eVar 1) (eK (.int 1)))]) (eVar 0))) sPass) (sSeq (sIf (tB (eBin fEq (eVar 4) (eK (.int 7)))) (sRet (eBin fAdd (eVar 0) (eLst [(eK (.bool true))]))) sPass) (sSeq (sIf (tB (eBin fEq (eVar 4) (eK (.int 8)))) (sRet (eBin fAdd (eLst [(eK .none)]) (eVar 0))) sPass) (sSeq (sIf (tB (eBin fEq (eVar 4) (eK (.int 9)))) (sRet (eBin fIx (eLst [(eK .none), (eK (.str "ab")), (eK (.int 5)), (eK (.bool true))]) (eBin fMod (eBin fIx (eVar 3) (eK (.int 4))) (eK (.int 4))))) sPass) (sSeq (sIf (tB (eBin fEq (eVar 4) (eK (.int 10)))) (sRet (eBin fAdd (eBin fAdd (eSlice (eVar 0) none (some (eVar 5))) (eLst [(eK (.bool true))])) (eSlice (eVar 0) (some (eBin fAdd (eVar 5) (eK (.int 1)))) none))) sPass) (sRet (eBin fAdd (eBin fAdd (eSlice (eVar 0) none (some (eVar 5))) (eLst [(eVar 6)])) (eSlice (eVar 0) (some (eVar 5)) none)))))))))))))))))
def φ__law_bent_side_k18 : Fn := runBody b__law_bent_side_k18 8
/-! _law_bent_k18 -/
def b__law_bent_k18 : SC := (sSeq (sSet 5 (eComp [11] (iRow (eVar 0)) tYes (eLst [(eUn fList (eBin fIx (eVar 11) (eK (.int 0)))), (eUn fList (eBin fIx (eVar 11) (eK (.int 1))))]))) (sSeq (sSet 6 (eBin fMod (eBin fIx (eVar 4) (eK (.int 1))) (eUn fLen (eVar 5)))) (sSeq (sSet 7 (eBin fIx (eVar 5) (eVar 6))) (sSeq (sSet 8 (eBin fMod (eBin fIx (eVar 4) (eK (.int 0))) (eK (.int 16)))) (sSeq (sIf (tB (eBin fEq (eVar 8) (eK (.int 0)))) (sFrz 5 (sRet (eBin fAdd (eSlice (eVar 5) none (some (eVar 6))) (eSlice (eVar 5) (some (eBin fAdd (eVar 6) (eK (.int 1)))) none)))) sPass) (sSeq (sIf (tB (eBin fEq (eVar 8) (eK (.int 1)))) (sFrz 5 (sRet (eBin fAdd (eVar 5) (eLst [(eLst [(eUn fList (eBin fIx (eVar 7) (eK (.int 0)))), (eUn fList (eBin fIx (eVar 7) (eK (.int 1))))])])))) sPass) (sSeq (sIf (tB (eBin fEq (eVar 8) (eK (.int 2)))) (sFrz 5 (sRet (eSlice (eVar 5) (some (eK (.int 1))) none))) sPass) (sSeq (sIf (tB (eBin fEq (eVar 8) (eK (.int 3)))) (sFrz 5 (sRet (eSlice (eVar 5) none (some (eUn fNeg (eK (.int 1))))))) sPass) (sSeq (sIf (tB (eBin fEq (eVar 8) (eK (.int 4)))) (sFrz 5 (sRet (eUn fRev (eVar 5)))) sPass) (sSeq (sIf (tB (eBin fEq (eVar 8) (eK (.int 5)))) (sRet (eBin fIx (eLst [(eK .none), (eK (.str "ab")), (eK (.int 5)), (eK (.bool true))]) (eBin fMod (eBin fIx (eVar 4) (eK (.int 2))) (eK (.int 4))))) sPass) (sSeq (sIf (tB (eBin fEq (eVar 8) (eK (.int 6)))) (sPut (eVar 5) (eVar 6) (eBin fIx (eLst [(eK .none), (eK (.str "ab")), (eK (.int 5)), (eK (.bool true)), (eLst [(eBin fIx (eVar 7) (eK (.int 0)))]), (eLst [(eBin fIx (eVar 7) (eK (.int 0))), (eBin fIx (eVar 7) (eK (.int 1))), (eLst [])])]) (eBin fMod (eBin fIx (eVar 4) (eK (.int 2))) (eK (.int 6))))) (sIf (tB (eBin fEq (eVar 8) (eK (.int 7)))) (sSeq (sSet 9 (eBin fIx (eVar 5) (eBin fMod (eBin fIx (eVar 4) (eK (.int 2))) (eUn fLen (eVar 5))))) (sSeq (sSet 10 (eBin fIx (eVar 7) (eK (.int 1)))) (sSeq (sPut (eVar 7) (eK (.int 1)) (eBin fIx (eVar 9) (eK (.int 1)))) (sFrz 10 (sPut (eVar 9) (eK (.int 1)) (eVar 10)))))) (sIf (tB (eBin fLt (eVar 8) (eK (.int 12)))) (sPut (eVar 7) (eK (.int 0)) (eCall φ__law_bent_side_k18 [(eBin fIx (eVar 7) (eK (.int 0))), (eK (.int 0)), (eBin fSub (eVar 1) (eK (.int 1))), (eVar 4)])) (sPut (eVar 7) (eK (.int 1)) (eCall φ__law_bent_side_k18 [(eBin fIx (eVar 7) (eK (.int 1))), (eVar 2), (eVar 3), (eVar 4)]))))) (sRet (eVar 5)))))))))))))
def φ__law_bent_k18 : Fn := runBody b__law_bent_k18 12
/-! _law_into_k18 -/
def w__law_into_k18_0 : SC := (sSeq (sSet 5 (eComp [6] (iRow (eBin fIx (eVar 1) (eVar 4))) (tAnd (tB (eBin fIn (eBin fIx (eBin fIx (eBin fIx (eVar 0) (eK (.int 1))) (eVar 6)) (eK (.int 1))) (eVar 2))) (tB (eBin fNotIn (eBin fIx (eBin fIx (eBin fIx (eVar 0) (eK (.int 1))) (eVar 6)) (eK (.int 0))) (eVar 2)))) (eVar 6))) (sIf (tB (eBin fGt (eUn fLen (eVar 5)) (eK (.int 0)))) (sApp (eVar 3) (eVar 4)) sPass))
def b__law_into_k18 : SC := (sSeq (sSet 3 (eLst [])) (sSeq (sFor [4] (iRng1 (eUn fLen (eVar 1))) w__law_into_k18_0) (sRet (eVar 3))))
def φ__law_into_k18 : Fn := runBody b__law_into_k18 7
/-! _law_shut_k18 -/
def w__law_shut_k18_0 : SC := (sIf (tAnd (tB (eBin fIn (eBin fIx (eVar 10) (eK (.int 1))) (eVar 8))) (tB (eBin fNotIn (eBin fIx (eVar 10) (eK (.int 0))) (eVar 8)))) (sApp (eVar 8) (eBin fIx (eVar 10) (eK (.int 0)))) sPass)
def w__law_shut_k18_1 : SC := (sFrz 5 (sFor [10] (iRow (eVar 5)) w__law_shut_k18_0))
def b__law_shut_k18 : SC := (sSeq (sSet 5 (eComp [11] (iRow (eCall φ__law_on_k14 [(eVar 1), (eVar 3), (eUn fLen (eBin fIx (eVar 0) (eK (.int 1))))])) tYes (eBin fIx (eBin fIx (eVar 0) (eK (.int 1))) (eVar 11)))) (sSeq (sFrz 5 (sSet 6 (eCall φ__law_given_k14 [(eVar 5), (eBin fIx (eVar 0) (eK (.int 0)))]))) (sSeq (sSet 7 (eComp [12] (iRow (eVar 2)) (tB (eBin fNotIn (eVar 12) (eVar 6))) (eVar 12))) (sSeq (sIf (tB (eBin fEq (eUn fLen (eVar 7)) (eK (.int 0)))) (sRet (eComp [12] (iRng2 (eK (.int 1)) (eBin fAdd (eBin fIx (eVar 0) (eK (.int 0))) (eK (.int 1)))) tYes (eVar 12))) sPass) (sSeq (sSet 8 (eLst [(eBin fIx (eVar 7) (eBin fMod (eVar 4) (eUn fLen (eVar 7))))])) (sSeq (sFor [9] (iRng1 (eBin fIx (eVar 0) (eK (.int 0)))) w__law_shut_k18_1) (sFrz 8 (sRet (eUn fSorted (eVar 8))))))))))
def φ__law_shut_k18 : Fn := runBody b__law_shut_k18 13
/-! _law_is_told_k18 -/
def w__law_is_told_k18_0 : SC := (sSeq (sIf (tOr (tNot (tB (eUn (fIsI .tuple) (eVar 1)))) (tB (eBin fNe (eUn fLen (eVar 1)) (eK (.int 2))))) (sRet (eK (.bool false))) sPass) (sIf (tOr (tNot (tB (eUn (fIsI .list) (eBin fIx (eVar 1) (eK (.int 0)))))) (tNot (tB (eUn (fIsI .list) (eBin fIx (eVar 1) (eK (.int 1))))))) (sRet (eK (.bool false))) sPass))
def b__law_is_told_k18 : SC := (sSeq (sIf (tNot (tB (eUn (fIsI .list) (eVar 0)))) (sRet (eK (.bool false))) sPass) (sSeq (sFor [1] (iRow (eVar 0)) w__law_is_told_k18_0) (sRet (eK (.bool true)))))
def φ__law_is_told_k18 : Fn := runBody b__law_is_told_k18 2
/-! _law_is_keep_k22 -/
def b__law_is_keep_k22 : SC := (sSeq (sIf (tB (eUn fNotN (eCall φ__law_fault_k14 [(eVar 2), (eK (.int 0)), (eBin fSub (eUn fLen (eBin fIx (eVar 0) (eK (.int 1)))) (eK (.int 1)))]))) (sRet (eK (.bool false))) sPass) (sSeq (sSet 3 (eComp [4] (iRow (eVar 2)) tYes (eBin fIx (eBin fIx (eVar 0) (eK (.int 1))) (eVar 4)))) (sFrz 3 (sRet (eAnd (eBin fEq (eUn fLen (eCall φ__law_given_k14 [(eVar 3), (eBin fIx (eVar 0) (eK (.int 0)))])) (eBin fIx (eVar 0) (eK (.int 0)))) (eBin fLe (eUn fSum (eComp [5] (iRow (eVar 3)) tYes (eBin fIx (eVar 5) (eK (.int 2))))) (eVar 1)))))))
def φ__law_is_keep_k22 : Fn := runBody b__law_is_keep_k22 6
/-! _law_is_prices_k22 -/
def w__law_is_prices_k22_0 : SC := (sSeq (sIf (tOr (tB (eUn fNotN (eCall φ__law_fault_k14 [(eBin fIx (eVar 3) (eK (.int 0))), (eK (.int 1)), (eBin fIx (eVar 0) (eK (.int 0)))]))) (tB (eBin fEq (eUn fLen (eBin fIx (eVar 3) (eK (.int 0)))) (eK (.int 0))))) (sRet (eK (.bool false))) sPass) (sIf (tOr (tNot (tB (eUn (fIsI .int) (eBin fIx (eVar 3) (eK (.int 1)))))) (tOr (tB (eUn (fIsI .bool) (eBin fIx (eVar 3) (eK (.int 1))))) (tB (eBin fLt (eBin fIx (eVar 3) (eK (.int 1))) (eK (.int 1)))))) (sRet (eK (.bool false))) sPass))
def w__law_is_prices_k22_1 : SC := (sSeq (sSet 5 (eComp [3] (iRow (eVar 2)) (tAnd (tB (eBin fIn (eBin fIx (eVar 4) (eK (.int 1))) (eBin fIx (eVar 3) (eK (.int 0))))) (tB (eBin fNotIn (eBin fIx (eVar 4) (eK (.int 0))) (eBin fIx (eVar 3) (eK (.int 0)))))) (eBin fIx (eVar 3) (eK (.int 1))))) (sFrz 5 (sIf (tB (eBin fGt (eUn fSum (eVar 5)) (eBin fIx (eVar 4) (eK (.int 2))))) (sRet (eK (.bool false))) sPass)))
def b__law_is_prices_k22 : SC := (sSeq (sIf (tNot (tB (eCall φ__law_is_pairs_k18 [(eVar 2)]))) (sRet (eK (.bool false))) sPass) (sSeq (sFor [3] (iRow (eVar 2)) w__law_is_prices_k22_0) (sSeq (sFor [4] (iRow (eBin fIx (eVar 0) (eK (.int 1)))) w__law_is_prices_k22_1) (sRet (eBin fGt (eUn fSum (eComp [3] (iRow (eVar 2)) tYes (eBin fIx (eVar 3) (eK (.int 1))))) (eVar 1))))))
def φ__law_is_prices_k22 : Fn := runBody b__law_is_prices_k22 6
/-! _law_is_told_prices_k22 -/
def w__law_is_told_prices_k22_0 : SC := (sIf (tOr (tNot (tB (eUn (fIsI .tuple) (eVar 1)))) (tOr (tB (eBin fNe (eUn fLen (eVar 1)) (eK (.int 2)))) (tNot (tB (eUn (fIsI .list) (eBin fIx (eVar 1) (eK (.int 0)))))))) (sRet (eK (.bool false))) sPass)
def b__law_is_told_prices_k22 : SC := (sSeq (sIf (tNot (tB (eUn (fIsI .list) (eVar 0)))) (sRet (eK (.bool false))) sPass) (sSeq (sFor [1] (iRow (eVar 0)) w__law_is_told_prices_k22_0) (sRet (eK (.bool true)))))
def φ__law_is_told_prices_k22 : Fn := runBody b__law_is_told_prices_k22 2
/-! _law_is_answer_k22 -/
def b__law_is_answer_k22 : SC := (sSeq (sIf (tOr (tNot (tB (eUn (fIsI .tuple) (eVar 1)))) (tB (eBin fNe (eUn fLen (eVar 1)) (eK (.int 3))))) (sRet (eK (.bool false))) sPass) (sSeq (sIf (tOr (tNot (tB (eUn (fIsI .int) (eBin fIx (eVar 1) (eK (.int 0)))))) (tOr (tB (eUn (fIsI .bool) (eBin fIx (eVar 1) (eK (.int 0))))) (tB (eBin fLt (eBin fIx (eVar 1) (eK (.int 0))) (eK (.int 0)))))) (sRet (eK (.bool false))) sPass) (sSeq (sIf (tOr (tNot (tB (eUn (fIsI .list) (eBin fIx (eVar 1) (eK (.int 1)))))) (tOr (tB (eBin fNe (eUn fLen (eBin fIx (eVar 1) (eK (.int 1)))) (eBin fIx (eVar 0) (eK (.int 0))))) (tNot (tB (eCall φ__law_is_keep_k22 [(eVar 0), (eBin fIx (eVar 1) (eK (.int 0))), (eBin fIx (eVar 1) (eK (.int 1)))]))))) (sRet (eK (.bool false))) sPass) (sSeq (sIf (tOr (tB (eBin fNe (eUn fSum (eComp [2] (iRow (eBin fIx (eVar 1) (eK (.int 1)))) tYes (eBin fIx (eBin fIx (eBin fIx (eVar 0) (eK (.int 1))) (eVar 2)) (eK (.int 2))))) (eBin fIx (eVar 1) (eK (.int 0))))) (tNot (tB (eCall φ__law_is_told_prices_k22 [(eBin fIx (eVar 1) (eK (.int 2)))])))) (sRet (eK (.bool false))) sPass) (sRet (eAnd (eCall φ__law_is_prices_k22 [(eVar 0), (eBin fSub (eBin fIx (eVar 1) (eK (.int 0))) (eK (.int 1))), (eBin fIx (eVar 1) (eK (.int 2)))]) (eBin fEq (eUn fSum (eComp [3] (iRow (eBin fIx (eVar 1) (eK (.int 2)))) tYes (eBin fIx (eVar 3) (eK (.int 1))))) (eBin fIx (eVar 1) (eK (.int 0))))))))))
def φ__law_is_answer_k22 : Fn := runBody b__law_is_answer_k22 4
/-! _law_least_cost_k23 -/
def w__law_least_cost_k23_0 : SC := (sIf (tB (eBin fEq (eBin fIx (eVar 6) (eK (.int 1))) (eVar 3))) (sApp (eVar 4) (eBin fAdd (eVar 5) (eLst [(eVar 6)]))) sPass)
def w__law_least_cost_k23_1 : SC := (sFor [6] (iRow (eVar 1)) w__law_least_cost_k23_0)
def w__law_least_cost_k23_2 : SC := (sSeq (sSet 4 (eLst [])) (sSeq (sFrz 2 (sFor [5] (iRow (eVar 2)) w__law_least_cost_k23_1)) (sSet 2 (eVar 4))))
def w__law_least_cost_k23_3 : SC := (sSeq (sSet 8 (eUn fSum (eComp [6] (iRow (eVar 5)) tYes (eBin fIx (eVar 6) (eK (.int 2)))))) (sIf (tAnd (tOr (tB (eUn fIsN (eVar 7))) (tB (eBin fLt (eVar 8) (eVar 7)))) (tB (eBin fEq (eUn fLen (eCall φ__law_given_k14 [(eVar 5), (eVar 0)])) (eVar 0)))) (sSet 7 (eVar 8)) sPass))
def b__law_least_cost_k23 : SC := (sSeq (sSet 2 (eLst [(eLst [])])) (sSeq (sFor [3] (iRng2 (eK (.int 1)) (eBin fAdd (eVar 0) (eK (.int 1)))) w__law_least_cost_k23_2) (sSeq (sSet 7 (eK .none)) (sSeq (sFrz 2 (sFor [5] (iRow (eVar 2)) w__law_least_cost_k23_3)) (sRet (eVar 7))))))
def φ__law_least_cost_k23 : Fn := runBody b__law_least_cost_k23 9
/-! _law_cell_k27 -/
def b__law_cell_k27 : SC := (sSeq (sIf (tB (eBin fLt (eVar 1) (eUn fLen (eVar 0)))) (sRet (eBin fIx (eVar 0) (eVar 1))) sPass) (sRet (eBin fMod (eUn fInt (eBin fAdd (eBin fMul (eBin fMod (eUn fInt (eUn fSum (eVar 0))) (eK (.int 2147483647))) (eK (.int 16807))) (eBin fMul (eVar 1) (eK (.int 48271))))) (eK (.int 2147483647)))))
def φ__law_cell_k27 : Fn := runBody b__law_cell_k27 2
/-! _law_row_k27 -/
def w__law_row_k27_0 : SC := (sIf (tAnd (tB (eBin fGe (eVar 0) (eBin fPow (eK (.int 10)) (eK (.int 18))))) (tB (eBin fGt (eVar 5) (eK (.int 0))))) (sSeq (sApp (eVar 4) (eBin fMod (eUn fInt (eVar 5)) (eVar 3))) (sSet 5 (eBin fDiv (eVar 5) (eVar 3)))) (sSeq (sSet 7 (eBin fMod (eUn fInt (eBin fAdd (eBin fAdd (eBin fMul (eBin fMod (eUn fInt (eVar 0)) (eK (.int 2147483647))) (eK (.int 48271))) (eBin fMul (eBin fAdd (eBin fMul (eK (.int 64)) (eVar 1)) (eVar 6)) (eK (.int 69621)))) (eK (.int 11)))) (eK (.int 2147483647)))) (sSeq (sSet 7 (eBin fMod (eUn fInt (eBin fAdd (eBin fAdd (eBin fMul (eVar 7) (eVar 7)) (eBin fMul (eK (.int 13)) (eVar 6))) (eK (.int 5)))) (eK (.int 2147483629)))) (sApp (eVar 4) (eBin fMod (eBin fDiv (eVar 7) (eK (.int 7))) (eVar 3))))))
def b__law_row_k27 : SC := (sSeq (sSet 4 (eLst [])) (sSeq (sSet 5 (eVar 0)) (sSeq (sFor [6] (iRng1 (eVar 2)) w__law_row_k27_0) (sRet (eVar 4)))))
def φ__law_row_k27 : Fn := runBody b__law_row_k27 8
/-! _law_starts_k27 -/
def w__law_starts_k27_0 : SC := (sSeq (sFrz 2 (sSet 6 (eSlice (eVar 2) (some (eBin fMul (eK (.int 10)) (eVar 5))) (some (eBin fAdd (eBin fMul (eK (.int 10)) (eVar 5)) (eVar 1)))))) (sSeq (sSet 7 (eLst [])) (sSeq (sIf (tOr (tB (eBin fEq (eBin fIx (eVar 3) (eVar 5)) (eK (.int 4)))) (tB (eBin fEq (eBin fIx (eVar 3) (eVar 5)) (eK (.int 5))))) (sSet 7 (eComp [8] (iRng1 (eVar 1)) (tB (eBin fEq (eBin fIx (eVar 6) (eVar 8)) (eK (.int 0)))) (eBin fAdd (eVar 8) (eK (.int 1))))) (sIf (tB (eBin fEq (eBin fIx (eVar 3) (eVar 5)) (eK (.int 6)))) (sFrz 6 (sSet 7 (eLst [(eBin fAdd (eK (.int 1)) (eBin fMod (eUn fInt (eUn fSum (eVar 6))) (eVar 1)))]))) (sIf (tB (eBin fEq (eBin fIx (eVar 3) (eVar 5)) (eK (.int 7)))) (sSet 7 (eBin fLRng2 (eK (.int 1)) (eBin fAdd (eVar 1) (eK (.int 1))))) sPass))) (sFrz 7 (sApp (eVar 4) (eVar 7))))))
def b__law_starts_k27 : SC := (sSeq (sSet 2 (eCall φ__law_row_k27 [(eCall φ__law_cell_k27 [(eVar 0), (eK (.int 2))]), (eK (.int 2)), (eK (.int 60)), (eK (.int 4))])) (sSeq (sSet 3 (eCall φ__law_row_k27 [(eCall φ__law_cell_k27 [(eVar 0), (eK (.int 3))]), (eK (.int 3)), (eK (.int 6)), (eK (.int 8))])) (sSeq (sSet 4 (eLst [])) (sSeq (sFor [5] (iRng1 (eBin fIx (eLst [(eK (.int 2)), (eK (.int 1)), (eK (.int 3)), (eK (.int 2)), (eK (.int 0)), (eK (.int 4)), (eK (.int 2)), (eK (.int 6)), (eK (.int 3)), (eK (.int 5)), (eK (.int 2)), (eK (.int 1))]) (eBin fMod (eUn fInt (eCall φ__law_cell_k27 [(eVar 0), (eK (.int 1))])) (eK (.int 12))))) w__law_starts_k27_0) (sRet (eVar 4))))))
def φ__law_starts_k27 : Fn := runBody b__law_starts_k27 9
/-! _law_given_k27 -/
def w__law_given_k27_0 : SC := (sSeq (sSet 7 (eBin fIx (eBin fIx (eVar 1) (eVar 6)) (eK (.int 0)))) (sIf (tAnd (tB (eBin fNotIn (eBin fIx (eBin fIx (eVar 1) (eVar 6)) (eK (.int 1))) (eVar 4))) (tOr (tB (eBin fEq (eVar 7) (eK (.int 0)))) (tB (eBin fIn (eVar 7) (eVar 4))))) (sApp (eVar 4) (eBin fIx (eBin fIx (eVar 1) (eVar 6)) (eK (.int 1)))) sPass))
def w__law_given_k27_1 : SC := (sFor [6] (iRow (eVar 2)) w__law_given_k27_0)
def b__law_given_k27 : SC := (sSeq (sSet 4 (eUn fList (eVar 3))) (sSeq (sFor [5] (iRng1 (eVar 0)) w__law_given_k27_1) (sFrz 4 (sRet (eUn fSorted (eVar 4))))))
def φ__law_given_k27 : Fn := runBody b__law_given_k27 8
/-! _law_is_days_k27 -/
def w__law_is_days_k27_0 : SC := (sIf (tOr (tNot (tB (eUn (fIsI .int) (eBin fIx (eVar 0) (eVar 2))))) (tOr (tB (eUn (fIsI .bool) (eBin fIx (eVar 0) (eVar 2)))) (tB (eBin fNe (eBin fIx (eVar 0) (eVar 2)) (eBin fIx (eVar 1) (eVar 2)))))) (sRet (eK (.bool false))) sPass)
def b__law_is_days_k27 : SC := (sSeq (sIf (tOr (tNot (tB (eUn (fIsI .list) (eVar 0)))) (tB (eBin fNe (eUn fLen (eVar 0)) (eUn fLen (eVar 1))))) (sRet (eK (.bool false))) sPass) (sSeq (sFor [2] (iRng1 (eUn fLen (eVar 1))) w__law_is_days_k27_0) (sRet (eK (.bool true)))))
def φ__law_is_days_k27 : Fn := runBody b__law_is_days_k27 3
/-! _law_bare_k27 -/
def w__law_bare_k27_0 : SC := (sIf (tB (eBin fEq (eUn fLen (eComp [4] (iRow (eVar 3)) (tB (eBin fIn (eVar 4) (eVar 1))) (eVar 4))) (eK (.int 0)))) (sSet 2 (eBin fAdd (eVar 2) (eK (.int 1)))) sPass)
def b__law_bare_k27 : SC := (sSeq (sSet 2 (eK (.int 0))) (sSeq (sFor [3] (iRow (eVar 0)) w__law_bare_k27_0) (sRet (eVar 2))))
def φ__law_bare_k27 : Fn := runBody b__law_bare_k27 5
/-! _law_tree_k28 -/
def w__law_tree_k28_0 : SC := (sSeq (sSet 5 (eComp [7] (iRng2 (eK (.int 1)) (eBin fAdd (eVar 1) (eK (.int 1)))) (tB (eBin fNotIn (eVar 7) (eVar 2))) (eVar 7))) (sSeq (sSet 6 (eBin fIx (eVar 5) (eBin fMod (eUn fInt (eBin fIx (eVar 0) (eBin fMul (eK (.int 2)) (eVar 4)))) (eUn fLen (eVar 5))))) (sSeq (sFrz 6 (sApp (eVar 3) (eTup [(eBin fIx (eVar 2) (eBin fMod (eUn fInt (eBin fIx (eVar 0) (eBin fAdd (eBin fMul (eK (.int 2)) (eVar 4)) (eK (.int 1))))) (eUn fLen (eVar 2)))), (eVar 6)]))) (sFrz 6 (sApp (eVar 2) (eVar 6))))))
def b__law_tree_k28 : SC := (sSeq (sSet 2 (eLst [(eK (.int 0))])) (sSeq (sSet 3 (eLst [])) (sSeq (sFor [4] (iRng1 (eVar 1)) w__law_tree_k28_0) (sRet (eVar 3)))))
def φ__law_tree_k28 : Fn := runBody b__law_tree_k28 8
/-! _law_free_k28 -/
def w__law_free_k28_0 : SC := (sSeq (sSet 7 (eBin fAdd (eK (.int 1)) (eBin fMod (eUn fInt (eBin fIx (eVar 2) (eVar 6))) (eVar 1)))) (sSeq (sSet 8 (eBin fMod (eUn fInt (eBin fIx (eVar 3) (eVar 6))) (eBin fAdd (eVar 1) (eK (.int 1))))) (sSeq (sIf (tB (eBin fEq (eVar 8) (eVar 7))) (sSet 8 (eK (.int 0))) sPass) (sApp (eVar 5) (eTup [(eVar 8), (eVar 7), (eUn fInt (eBin fIx (eVar 4) (eVar 6)))])))))
def b__law_free_k28 : SC := (sSeq (sSet 2 (eCall φ__law_row_k27 [(eCall φ__law_cell_k27 [(eVar 0), (eK (.int 7))]), (eK (.int 7)), (eK (.int 30)), (eK (.int 1000))])) (sSeq (sSet 3 (eCall φ__law_row_k27 [(eCall φ__law_cell_k27 [(eVar 0), (eK (.int 8))]), (eK (.int 8)), (eK (.int 30)), (eK (.int 1000))])) (sSeq (sSet 4 (eCall φ__law_row_k27 [(eCall φ__law_cell_k27 [(eVar 0), (eK (.int 9))]), (eK (.int 9)), (eK (.int 30)), (eK (.int 1000))])) (sSeq (sSet 5 (eLst [])) (sSeq (sFor [6] (iRng1 (eK (.int 30))) w__law_free_k28_0) (sRet (eVar 5)))))))
def φ__law_free_k28 : Fn := runBody b__law_free_k28 9
/-! _law_sets_k28 -/
def w__law_sets_k28_0 : SC := (sFrz 1 (sSet 1 (eBin fAdd (eVar 1) (eComp [3] (iRow (eVar 1)) tYes (eBin fAdd (eVar 3) (eLst [(eVar 2)]))))))
def b__law_sets_k28 : SC := (sSeq (sSet 1 (eLst [(eLst [])])) (sSeq (sFor [2] (iRng2 (eK (.int 1)) (eBin fAdd (eVar 0) (eK (.int 1)))) w__law_sets_k28_0) (sRet (eVar 1))))
def φ__law_sets_k28 : Fn := runBody b__law_sets_k28 4
/-! _law_says_k28 -/
def b__law_says_k28 : SC := (sRet (eAnd (eUn (fIsI .bool) (eVar 0)) (eBin fEq (eVar 0) (eVar 1))))
def φ__law_says_k28 : Fn := runBody b__law_says_k28 2
/-! _law_tree_k29 -/
def w__law_tree_k29_0 : SC := (sSeq (sSet 6 (eComp [8] (iRng2 (eK (.int 1)) (eBin fAdd (eVar 1) (eK (.int 1)))) (tB (eBin fNotIn (eVar 8) (eVar 3))) (eVar 8))) (sIf (tB (eBin fGt (eUn fLen (eVar 6)) (eK (.int 0)))) (sSeq (sSet 7 (eBin fIx (eVar 6) (eBin fMod (eUn fInt (eBin fIx (eVar 0) (eBin fMul (eK (.int 2)) (eVar 5)))) (eUn fLen (eVar 6))))) (sSeq (sFrz 7 (sApp (eVar 4) (eTup [(eBin fIx (eVar 3) (eBin fMod (eUn fInt (eBin fIx (eVar 0) (eBin fAdd (eBin fMul (eK (.int 2)) (eVar 5)) (eK (.int 1))))) (eUn fLen (eVar 3)))), (eVar 7)]))) (sFrz 7 (sApp (eVar 3) (eVar 7))))) sPass))
def b__law_tree_k29 : SC := (sSeq (sSet 3 (eBin fAdd (eLst [(eK (.int 0))]) (eUn fList (eVar 2)))) (sSeq (sSet 4 (eLst [])) (sSeq (sFor [5] (iRng1 (eVar 1)) w__law_tree_k29_0) (sRet (eVar 4)))))
def φ__law_tree_k29 : Fn := runBody b__law_tree_k29 9
/-! _law_lack_k30 -/
def w__law_lack_k30_0 : SC := (sIf (tB (eBin fEq (eUn fLen (eComp [5] (iRow (eVar 4)) (tB (eBin fIn (eVar 5) (eVar 2))) (eVar 5))) (eK (.int 0)))) (sSet 3 (eBin fAdd (eVar 3) (eK (.int 1)))) sPass)
def b__law_lack_k30 : SC := (sSeq (sSet 3 (eK (.int 0))) (sSeq (sFor [4] (iRow (eVar 1)) w__law_lack_k30_0) (sRet (eBin fSub (eVar 3) (eUn fLen (eComp [6] (iRow (eVar 0)) (tAnd (tB (eBin fIn (eBin fIx (eVar 6) (eK (.int 1))) (eVar 2))) (tB (eBin fNotIn (eBin fIx (eVar 6) (eK (.int 0))) (eVar 2)))) (eVar 6)))))))
def φ__law_lack_k30 : Fn := runBody b__law_lack_k30 7
/-! _law_is_number_k30 -/
def b__law_is_number_k30 : SC := (sSeq (sIf (tOr (tNot (tB (eUn (fIsI .int) (eVar 0)))) (tB (eUn (fIsI .bool) (eVar 0)))) (sRet (eK (.bool false))) sPass) (sRet (eChain fLe fLe (eVar 1) (eVar 0) (eVar 2))))
def φ__law_is_number_k30 : Fn := runBody b__law_is_number_k30 3
/-! _law_is_choice_k31 -/
def w__law_is_choice_k31_0 : SC := (sSeq (sIf (tOr (tNot (tB (eUn (fIsI .int) (eVar 4)))) (tOr (tB (eUn (fIsI .bool) (eVar 4))) (tOr (tB (eBin fLe (eVar 4) (eVar 3))) (tB (eBin fGt (eVar 4) (eVar 2)))))) (sRet (eK (.bool false))) sPass) (sSet 3 (eVar 4)))
def b__law_is_choice_k31 : SC := (sSeq (sIf (tNot (tB (eUn (fIsIs [.list, .tuple]) (eVar 0)))) (sRet (eK (.bool false))) sPass) (sSeq (sSet 3 (eBin fSub (eVar 1) (eK (.int 1)))) (sSeq (sFor [4] (iRow (eVar 0)) w__law_is_choice_k31_0) (sRet (eK (.bool true))))))
def φ__law_is_choice_k31 : Fn := runBody b__law_is_choice_k31 5
/-! _law_with_k31 -/
def b__law_with_k31 : SC := (sSeq (sSet 3 (eComp [4] (iRow (eVar 0)) tYes (eUn fList (eVar 4)))) (sSeq (sPut (eVar 3) (eVar 1) (eVar 2)) (sRet (eVar 3))))
def φ__law_with_k31 : Fn := runBody b__law_with_k31 5
/-! _law_is_number_k33 -/
def b__law_is_number_k33 : SC := (sSeq (sIf (tOr (tNot (tB (eUn (fIsI .int) (eVar 0)))) (tB (eUn (fIsI .bool) (eVar 0)))) (sRet (eK (.bool false))) sPass) (sRet (eChain fLe fLe (eVar 1) (eVar 0) (eVar 2))))
def φ__law_is_number_k33 : Fn := runBody b__law_is_number_k33 3
/-! _law_name_k34 -/
def w__law_name_k34_0 : SC := (sSeq (sFrz 1 (sSet 1 (eBin fAdd (eVar 1) (eBin fIx (eK (.str "abcdefghijklmnopqrstuvwxyz")) (eBin fMod (eUn fInt (eVar 2)) (eK (.int 26))))))) (sSet 2 (eBin fDiv (eVar 2) (eK (.int 26)))))
def b__law_name_k34 : SC := (sSeq (sSet 1 (eK (.str ""))) (sSeq (sSet 2 (eBin fDiv (eVar 0) (eK (.int 8)))) (sSeq (sFor [3] (iRng1 (eBin fAdd (eK (.int 1)) (eBin fMod (eUn fInt (eVar 0)) (eK (.int 8))))) w__law_name_k34_0) (sRet (eVar 1)))))
def φ__law_name_k34 : Fn := runBody b__law_name_k34 4
/-! _law_changes_k34 -/
def w__law_changes_k34_0 : SC := (sIf (tB (eBin fEq (eBin fMod (eUn fInt (eBin fIx (eVar 3) (eVar 6))) (eBin fAdd (eVar 4) (eK (.int 2)))) (eK (.int 0)))) (sSeq (sSet 7 (eUn fInt (eBin fIx (eVar 3) (eBin fAdd (eK (.int 14)) (eVar 6))))) (sIf (tB (eBin fLt (eVar 7) (eK (.int 200)))) (sApp (eVar 5) (eTup [(eBin fIx (eVar 1) (eVar 6)), (eK .none)])) (sIf (tB (eBin fLt (eVar 7) (eK (.int 500)))) (sApp (eVar 5) (eTup [(eBin fIx (eVar 1) (eVar 6)), (eBin fMod (eUn fInt (eVar 7)) (eK (.int 3)))])) (sApp (eVar 5) (eTup [(eBin fIx (eVar 1) (eVar 6)), (eBin fAdd (eBin fMul (eBin fSub (eVar 7) (eK (.int 500))) (eK (.int 2))) (eBin fMod (eBin fDiv (eUn fInt (eBin fIx (eVar 3) (eVar 6))) (eK (.int 6))) (eK (.int 2))))]))))) sPass)
def b__law_changes_k34 : SC := (sSeq (sSet 3 (eCall φ__law_row_k27 [(eCall φ__law_cell_k27 [(eVar 0), (eBin fAdd (eK (.int 20)) (eBin fMod (eUn fInt (eVar 2)) (eK (.int 20))))]), (eBin fAdd (eK (.int 20)) (eVar 2)), (eK (.int 28)), (eK (.int 1000))])) (sSeq (sSet 4 (eBin fMod (eBin fDiv (eUn fInt (eCall φ__law_cell_k27 [(eVar 0), (eK (.int 1))])) (eK (.int 2))) (eK (.int 3)))) (sSeq (sSet 5 (eLst [])) (sSeq (sFor [6] (iRng1 (eUn fLen (eVar 1))) w__law_changes_k34_0) (sFrz 5 (sRet (eUn fTuple (eVar 5))))))))
def φ__law_changes_k34 : Fn := runBody b__law_changes_k34 8
/-! _law_worth_k34 -/
def w__law_worth_k34_0 : SC := (sIf (tB (eBin fEq (eBin fIx (eVar 2) (eK (.int 0))) (eVar 1))) (sRet (eBin fIx (eVar 2) (eK (.int 1)))) sPass)
def b__law_worth_k34 : SC := (sSeq (sFor [2] (iRow (eVar 0)) w__law_worth_k34_0) (sRet (eK .none)))
def φ__law_worth_k34 : Fn := runBody b__law_worth_k34 3
/-! _law_near_k34 -/
def w__law_near_k34_0 : SC := (sIf (tAnd (tB (eBin fEq (eBin fIx (eVar 4) (eK (.int 4))) (eK (.str "held")))) (tAnd (tB (eBin fIn (eBin fIx (eVar 4) (eK (.int 0))) (eVar 2))) (tB (eBin fNotIn (eBin fIx (eVar 4) (eK (.int 1))) (eVar 2))))) (sApp (eVar 2) (eBin fIx (eVar 4) (eK (.int 1)))) sPass)
def w__law_near_k34_1 : SC := (sFor [4] (iRow (eVar 1)) w__law_near_k34_0)
def b__law_near_k34 : SC := (sSeq (sSet 2 (eLst [(eK (.int 0))])) (sSeq (sIf (tB (eBin fGt (eUn fLen (eVar 0)) (eK (.int 0)))) (sApp (eVar 2) (eUn fLen (eVar 0))) sPass) (sSeq (sFor [3] (iRng1 (eUn fLen (eVar 0))) w__law_near_k34_1) (sFrz 2 (sRet (eUn fSorted (eVar 2)))))))
def φ__law_near_k34 : Fn := runBody b__law_near_k34 5
/-! _law_number_k37 -/
def b__law_number_k37 : SC := (sSeq (sIf (tOr (tB (eBin fEq (eUn fLen (eVar 0)) (eK (.int 0)))) (tOr (tB (eBin fGt (eUn fLen (eVar 0)) (eK (.int 3)))) (tAnd (tB (eBin fEq (eBin fIx (eVar 0) (eK (.int 0))) (eK (.str "0")))) (tB (eBin fNe (eVar 0) (eK (.str "0"))))))) (sRet (eK .none)) sPass) (sSeq (sIf (tB (eBin fGt (eUn fLen (eComp [1] (iRow (eVar 0)) (tB (eBin fNotIn (eVar 1) (eK (.str "0123456789")))) (eVar 1))) (eK (.int 0)))) (sRet (eK .none)) sPass) (sRet (eUn fInt (eVar 0)))))
def φ__law_number_k37 : Fn := runBody b__law_number_k37 2
/-! _law_changes_k38 -/
def w__law_changes_k38_0 : SC := (sIf (tB (eBin fEq (eBin fMod (eUn fInt (eBin fIx (eVar 3) (eVar 6))) (eBin fAdd (eVar 4) (eK (.int 2)))) (eK (.int 0)))) (sSeq (sSet 7 (eUn fInt (eBin fIx (eVar 3) (eBin fAdd (eK (.int 14)) (eVar 6))))) (sIf (tB (eBin fLt (eVar 7) (eK (.int 200)))) (sApp (eVar 5) (eTup [(eBin fIx (eVar 1) (eVar 6)), (eK .none)])) (sIf (tB (eBin fLt (eVar 7) (eK (.int 500)))) (sApp (eVar 5) (eTup [(eBin fIx (eVar 1) (eVar 6)), (eBin fMod (eUn fInt (eVar 7)) (eK (.int 3)))])) (sApp (eVar 5) (eTup [(eBin fIx (eVar 1) (eVar 6)), (eBin fAdd (eBin fMul (eBin fSub (eVar 7) (eK (.int 500))) (eK (.int 2))) (eBin fMod (eBin fDiv (eUn fInt (eBin fIx (eVar 3) (eVar 6))) (eK (.int 6))) (eK (.int 2))))]))))) sPass)
def b__law_changes_k38 : SC := (sSeq (sSet 3 (eCall φ__law_row_k27 [(eCall φ__law_cell_k27 [(eVar 0), (eBin fAdd (eK (.int 20)) (eBin fMod (eUn fInt (eVar 2)) (eK (.int 20))))]), (eBin fAdd (eK (.int 20)) (eVar 2)), (eK (.int 28)), (eK (.int 1000))])) (sSeq (sSet 4 (eBin fMod (eBin fDiv (eUn fInt (eCall φ__law_cell_k27 [(eVar 0), (eK (.int 40))])) (eK (.int 2))) (eK (.int 3)))) (sSeq (sSet 5 (eLst [])) (sSeq (sFor [6] (iRng1 (eUn fLen (eVar 1))) w__law_changes_k38_0) (sFrz 5 (sRet (eUn fTuple (eVar 5))))))))
def φ__law_changes_k38 : Fn := runBody b__law_changes_k38 8
/-! _law_merge_of_k38 -/
def w__law_merge_of_k38_0 : SC := (sSeq (sSet 3 (eBin fMod (eUn fInt (eBin fAdd (eUn fInt (eBin fIx (eVar 0) (eK (.int 0)))) (eVar 2))) (eUn fLen (eVar 1)))) (sSeq (sSet 4 (eComp [5] (iRng1 (eUn fLen (eVar 1))) (tAnd (tB (eBin fEq (eBin fIx (eBin fIx (eVar 1) (eVar 5)) (eK (.int 0))) (eBin fIx (eBin fIx (eVar 1) (eVar 3)) (eK (.int 1))))) (tB (eBin fNe (eBin fIx (eBin fIx (eVar 1) (eVar 5)) (eK (.int 1))) (eBin fIx (eBin fIx (eVar 1) (eVar 3)) (eK (.int 0)))))) (eVar 5))) (sIf (tB (eBin fGt (eUn fLen (eVar 4)) (eK (.int 0)))) (sRet (eTup [(eVar 3), (eBin fIx (eVar 4) (eBin fMod (eUn fInt (eBin fIx (eVar 0) (eK (.int 1)))) (eUn fLen (eVar 4))))])) sPass)))
def b__law_merge_of_k38 : SC := (sSeq (sFor [2] (iRng1 (eUn fLen (eVar 1))) w__law_merge_of_k38_0) (sRet (eK .none)))
def φ__law_merge_of_k38 : Fn := runBody b__law_merge_of_k38 6
/-! _law_made_k38 -/
def w__law_made_k38_0 : SC := (sSeq (sSet 8 (eBin fMul (eBin fSub (eVar 7) (eK (.int 1))) (eUn fInt (eBin fGt (eBin fMod (eUn fInt (eBin fIx (eVar 6) (eBin fSub (eBin fAdd (eK (.int 30)) (eVar 7)) (eK (.int 1))))) (eK (.int 3))) (eK (.int 0)))))) (sSeq (sApp (eVar 4) (eTup [(eK (.str "day")), (eCall φ__law_changes_k38 [(eVar 0), (eVar 1), (eVar 7)])])) (sSeq (sApp (eVar 5) (eTup [(eVar 8), (eVar 7), (eBin fMod (eUn fInt (eBin fIx (eVar 6) (eVar 7))) (eK (.int 8))), (eK (.str "held"))])) (sApp (eVar 4) (eTup [(eK (.str "copy")), (eVar 8), (eVar 7), (eBin fMod (eUn fInt (eBin fIx (eVar 6) (eVar 7))) (eK (.int 8)))])))))
def w__law_made_k38_1 : SC := (sIf (tB (eBin fLt (eUn fLen (eVar 5)) (eK (.int 28)))) (sSeq (sSet 12 (eBin fMod (eUn fInt (eBin fIx (eVar 6) (eUn fLen (eVar 5)))) (eK (.int 8)))) (sSeq (sApp (eVar 5) (eTup [(eBin fIx (eVar 11) (eK (.int 0))), (eBin fIx (eVar 11) (eK (.int 1))), (eVar 12), (eK (.str "held"))])) (sApp (eVar 4) (eTup [(eK (.str "copy")), (eBin fIx (eVar 11) (eK (.int 0))), (eBin fIx (eVar 11) (eK (.int 1))), (eVar 12)])))) sPass)
def w__law_made_k38_2 : SC := (sSeq (sSet 10 (eCall φ__law_row_k27 [(eCall φ__law_cell_k27 [(eVar 0), (eBin fAdd (eK (.int 14)) (eVar 9))]), (eBin fAdd (eK (.int 14)) (eVar 9)), (eK (.int 20)), (eK (.int 1000))])) (sFrz 10 (sFor [11] (iRow (eCall φ__law_tree_k29 [(eVar 10), (eVar 2), (eBin fIx (eVar 3) (eVar 9))])) w__law_made_k38_1)))
def w__law_made_k38_3 : SC := (sSeq (sFrz 10 (sSet 14 (eCall φ__law_merge_of_k38 [(eSlice (eVar 10) (some (eBin fMul (eK (.int 2)) (eVar 13))) none), (eVar 5)]))) (sIf (tB (eUn fNotN (eVar 14))) (sSeq (sApp (eVar 5) (eTup [(eBin fIx (eBin fIx (eVar 5) (eBin fIx (eVar 14) (eK (.int 0)))) (eK (.int 0))), (eBin fIx (eBin fIx (eVar 5) (eBin fIx (eVar 14) (eK (.int 1)))) (eK (.int 1))), (eVar 13), (eK (.str "held"))])) (sApp (eVar 4) (eTup [(eK (.str "merge")), (eBin fIx (eVar 14) (eK (.int 0))), (eBin fIx (eVar 14) (eK (.int 1))), (eVar 13)]))) sPass))
def b__law_made_k38 : SC := (sSeq (sSet 4 (eLst [])) (sSeq (sSet 5 (eLst [])) (sSeq (sSet 6 (eCall φ__law_row_k27 [(eCall φ__law_cell_k27 [(eVar 0), (eK (.int 4))]), (eK (.int 4)), (eK (.int 40)), (eK (.int 1000))])) (sSeq (sFor [7] (iRng2 (eK (.int 1)) (eBin fAdd (eVar 2) (eK (.int 1)))) w__law_made_k38_0) (sSeq (sFor [9] (iRng2 (eK (.int 1)) (eUn fLen (eVar 3))) w__law_made_k38_2) (sSeq (sSet 10 (eCall φ__law_row_k27 [(eCall φ__law_cell_k27 [(eVar 0), (eK (.int 5))]), (eK (.int 5)), (eK (.int 6)), (eK (.int 1000))])) (sSeq (sFor [13] (iRng1 (eBin fMod (eUn fInt (eCall φ__law_cell_k27 [(eVar 0), (eK (.int 6))])) (eK (.int 3)))) w__law_made_k38_3) (sFrz 5 (sFrz 4 (sRet (eLst [(eVar 4), (eVar 5)])))))))))))
def φ__law_made_k38 : Fn := runBody b__law_made_k38 15
/-! _law_lessened_k38 -/
def w__law_lessened_k38_0 : SC := (sSeq (sFrz 6 (sSet 5 (eComp [6] (iRng1 (eUn fLen (eVar 2))) (tB (eBin fEq (eBin fIx (eBin fIx (eVar 2) (eVar 6)) (eK (.int 3))) (eK (.str "held")))) (eVar 6)))) (sIf (tB (eBin fGt (eUn fLen (eVar 5)) (eK (.int 0)))) (sSeq (sSet 6 (eBin fIx (eVar 5) (eBin fMod (eUn fInt (eBin fIx (eVar 3) (eVar 4))) (eUn fLen (eVar 5))))) (sSeq (sFrz 6 (sApp (eVar 1) (eTup [(eK (.str "drop")), (eVar 6)]))) (sPut (eVar 2) (eVar 6) (eTup [(eBin fIx (eBin fIx (eVar 2) (eVar 6)) (eK (.int 0))), (eBin fIx (eBin fIx (eVar 2) (eVar 6)) (eK (.int 1))), (eBin fIx (eBin fIx (eVar 2) (eVar 6)) (eK (.int 2))), (eK (.str "dropped"))])))) sPass))
def w__law_lessened_k38_1 : SC := (sIf (tAnd (tB (eBin fEq (eBin fIx (eBin fIx (eVar 2) (eVar 6)) (eK (.int 2))) (eVar 7))) (tB (eBin fEq (eBin fIx (eBin fIx (eVar 2) (eVar 6)) (eK (.int 3))) (eK (.str "held"))))) (sPut (eVar 2) (eVar 6) (eTup [(eBin fIx (eBin fIx (eVar 2) (eVar 6)) (eK (.int 0))), (eBin fIx (eBin fIx (eVar 2) (eVar 6)) (eK (.int 1))), (eVar 7), (eK (.str "lost"))])) sPass)
def b__law_lessened_k38 : SC := (sSeq (sSet 3 (eCall φ__law_row_k27 [(eCall φ__law_cell_k27 [(eVar 0), (eK (.int 7))]), (eK (.int 7)), (eK (.int 8)), (eK (.int 1000))])) (sSeq (sFor [4] (iRng1 (eBin fIx (eLst [(eK (.int 0)), (eK (.int 1)), (eK (.int 2)), (eK (.int 0)), (eK (.int 3)), (eK (.int 1)), (eK (.int 0)), (eK (.int 6))]) (eBin fMod (eUn fInt (eCall φ__law_cell_k27 [(eVar 0), (eK (.int 8))])) (eK (.int 8))))) w__law_lessened_k38_0) (sIf (tB (eBin fEq (eBin fMod (eBin fDiv (eUn fInt (eCall φ__law_cell_k27 [(eVar 0), (eK (.int 8))])) (eK (.int 8))) (eK (.int 4))) (eK (.int 1)))) (sSeq (sSet 7 (eBin fMod (eUn fInt (eBin fIx (eVar 3) (eK (.int 7)))) (eK (.int 8)))) (sSeq (sApp (eVar 1) (eTup [(eK (.str "lose")), (eVar 7)])) (sFor [6] (iRng1 (eUn fLen (eVar 2))) w__law_lessened_k38_1))) sPass)))
def φ__law_lessened_k38 : Fn := runBody b__law_lessened_k38 8
/-! _law_cell_k40 -/
def b__law_cell_k40 : SC := (sSeq (sIf (tB (eBin fLt (eVar 1) (eUn fLen (eVar 0)))) (sRet (eBin fIx (eVar 0) (eVar 1))) sPass) (sSeq (sIf (tB (eBin fEq (eUn fLen (eVar 0)) (eK (.int 0)))) (sRet (eBin fMul (eK (.int 7919)) (eVar 1))) sPass) (sRet (eBin fAdd (eBin fMod (eUn fInt (eBin fIx (eVar 0) (eBin fMod (eUn fInt (eVar 1)) (eUn fLen (eVar 0))))) (eK (.int 1000003))) (eBin fMul (eK (.int 7919)) (eVar 1))))))
def φ__law_cell_k40 : Fn := runBody b__law_cell_k40 2
/-! _law_row_k40 -/
def w__law_row_k40_0 : SC := (sIf (tB (eBin fGe (eVar 0) (eBin fPow (eK (.int 10)) (eK (.int 18))))) (sSeq (sApp (eVar 3) (eBin fMod (eUn fInt (eVar 4)) (eVar 2))) (sSet 4 (eBin fDiv (eVar 4) (eVar 2)))) (sSeq (sSet 6 (eBin fMod (eUn fInt (eBin fAdd (eBin fAdd (eBin fMul (eBin fMod (eUn fInt (eVar 0)) (eK (.int 2147483647))) (eK (.int 48271))) (eBin fMul (eVar 5) (eK (.int 69621)))) (eK (.int 11)))) (eK (.int 2147483647)))) (sSeq (sSet 6 (eBin fMod (eUn fInt (eBin fAdd (eBin fAdd (eBin fMul (eVar 6) (eVar 6)) (eBin fMul (eK (.int 13)) (eVar 5))) (eK (.int 5)))) (eK (.int 2147483629)))) (sApp (eVar 3) (eBin fMod (eBin fMod (eUn fInt (eBin fAdd (eBin fMul (eVar 6) (eBin fAdd (eVar 6) (eK (.int 7)))) (eVar 5))) (eK (.int 2147483587))) (eVar 2))))))
def b__law_row_k40 : SC := (sSeq (sSet 3 (eLst [])) (sSeq (sSet 4 (eUn fInt (eVar 0))) (sSeq (sFor [5] (iRng1 (eVar 1)) w__law_row_k40_0) (sRet (eVar 3)))))
def φ__law_row_k40 : Fn := runBody b__law_row_k40 7
/-! _law_is_number_k40 -/
def b__law_is_number_k40 : SC := (sRet (eAnd (eUn (fIsI .int) (eVar 0)) (eUn fNot (eUn (fIsI .bool) (eVar 0)))))
def φ__law_is_number_k40 : Fn := runBody b__law_is_number_k40 1
/-! _law_are_numbers_k40 -/
def w__law_are_numbers_k40_0 : SC := (sIf (tOr (tNot (tB (eCall φ__law_is_number_k40 [(eBin fIx (eVar 0) (eVar 2))]))) (tB (eBin fNe (eBin fIx (eVar 0) (eVar 2)) (eBin fIx (eVar 1) (eVar 2))))) (sRet (eK (.bool false))) sPass)
def b__law_are_numbers_k40 : SC := (sSeq (sIf (tOr (tNot (tB (eUn (fIsI .list) (eVar 0)))) (tB (eBin fNe (eUn fLen (eVar 0)) (eUn fLen (eVar 1))))) (sRet (eK (.bool false))) sPass) (sSeq (sFor [2] (iRng1 (eUn fLen (eVar 1))) w__law_are_numbers_k40_0) (sRet (eK (.bool true)))))
def φ__law_are_numbers_k40 : Fn := runBody b__law_are_numbers_k40 3
/-! _law_base_k41 -/
def w__law_base_k41_0 : SC := (sIf (tB (eBin fLt (eBin fIx (eVar 0) (eBin fSub (eVar 3) (eK (.int 1)))) (eBin fIx (eVar 0) (eBin fSub (eVar 1) (eK (.int 1)))))) (sSet 2 (eVar 3)) sPass)
def b__law_base_k41 : SC := (sSeq (sSet 2 (eK (.int 0))) (sSeq (sFor [3] (iRng2 (eK (.int 1)) (eVar 1)) w__law_base_k41_0) (sRet (eVar 2))))
def φ__law_base_k41 : Fn := runBody b__law_base_k41 4
/-! _law_chain_k41 -/
def w__law_chain_k41_0 : SC := (sIf (tB (eBin fGt (eVar 3) (eK (.int 0)))) (sSeq (sFrz 3 (sFrz 2 (sSet 2 (eBin fAdd (eLst [(eVar 3)]) (eVar 2))))) (sFrz 3 (sSet 3 (eCall φ__law_base_k41 [(eVar 0), (eVar 3)])))) sPass)
def b__law_chain_k41 : SC := (sSeq (sSet 2 (eLst [])) (sSeq (sSet 3 (eVar 1)) (sSeq (sFor [4] (iRng1 (eUn fLen (eVar 0))) w__law_chain_k41_0) (sRet (eVar 2)))))
def φ__law_chain_k41 : Fn := runBody b__law_chain_k41 5
/-! _law_power_k48 -/
def b__law_power_k48 : SC := (sRet (eBin fIx (eLst [(eK (.int 1)), (eK (.int 2)), (eK (.int 4)), (eK (.int 8)), (eK (.int 16)), (eK (.int 32)), (eK (.int 64)), (eK (.int 128)), (eK (.int 256))]) (eVar 0)))
def φ__law_power_k48 : Fn := runBody b__law_power_k48 1
/-! _law_mask_k48 -/
def b__law_mask_k48 : SC := (sRet (eUn fSum (eComp [1] (iRow (eVar 0)) tYes (eCall φ__law_power_k48 [(eVar 1)]))))
def φ__law_mask_k48 : Fn := runBody b__law_mask_k48 2
/-! _law_terms_k50 -/
def b__law_terms_k50 : SC := (sRet (eTup [(eBin fAdd (eK (.int 1)) (eBin fMod (eBin fIx (eVar 0) (eK (.int 0))) (eK (.int 4)))), (eBin fAdd (eK (.int 1)) (eBin fMod (eBin fIx (eVar 0) (eK (.int 1))) (eK (.int 3)))), (eBin fMod (eBin fIx (eVar 0) (eK (.int 2))) (eK (.int 5)))]))
def φ__law_terms_k50 : Fn := runBody b__law_terms_k50 1
/-! _law_are_copies_k50 -/
def w__law_are_copies_k50_0 : SC := (sIf (tOr (tNot (tB (eUn (fIsI .tuple) (eVar 2)))) (tB (eBin fGt (eUn fLen (eComp [3] (iRow (eVar 2)) (tNot (tB (eCall φ__law_is_number_k40 [(eVar 3)]))) (eVar 3))) (eK (.int 0))))) (sRet (eK (.bool false))) sPass)
def b__law_are_copies_k50 : SC := (sSeq (sIf (tOr (tNot (tB (eUn (fIsI .list) (eVar 0)))) (tB (eBin fNe (eUn fLen (eVar 0)) (eUn fLen (eVar 1))))) (sRet (eK (.bool false))) sPass) (sSeq (sFor [2] (iRow (eVar 0)) w__law_are_copies_k50_0) (sRet (eBin fEq (eVar 0) (eVar 1)))))
def φ__law_are_copies_k50 : Fn := runBody b__law_are_copies_k50 4
/-! _law_within_k52 -/
def b__law_within_k52 : SC := (sRet (eBin fEq (eUn fLen (eComp [2] (iRow (eVar 0)) (tB (eBin fNotIn (eVar 2) (eVar 1))) (eVar 2))) (eK (.int 0))))
def φ__law_within_k52 : Fn := runBody b__law_within_k52 3
/-! _law_inside_k52 -/
def w__law_inside_k52_0 : SC := (sIf (tAnd (tB (eBin fGt (eUn fLen (eVar 2)) (eUn fLen (eVar 0)))) (tB (eCall φ__law_within_k52 [(eVar 0), (eVar 2)]))) (sRet (eK (.bool true))) sPass)
def b__law_inside_k52 : SC := (sSeq (sFor [2] (iRow (eVar 1)) w__law_inside_k52_0) (sRet (eK (.bool false))))
def φ__law_inside_k52 : Fn := runBody b__law_inside_k52 3
/-! _law_draw_windows_k52 -/
def w__law_draw_windows_k52_0 : SC := (sSeq (sSet 6 (eBin fMod (eBin fIx (eVar 1) (eBin fAdd (eBin fAdd (eVar 2) (eK (.int 1))) (eBin fMul (eK (.int 2)) (eVar 5)))) (eBin fIx (eLst [(eK (.int 8)), (eBin fAdd (eBin fIx (eVar 0) (eK (.int 2))) (eK (.int 1))), (eBin fAdd (eBin fIx (eVar 0) (eK (.int 2))) (eK (.int 2)))]) (eBin fMod (eBin fDiv (eBin fIx (eVar 1) (eVar 2)) (eK (.int 7))) (eK (.int 3)))))) (sSeq (sFrz 6 (sSet 7 (eBin fMod (eBin fIx (eVar 1) (eBin fAdd (eBin fAdd (eVar 2) (eK (.int 2))) (eBin fMul (eK (.int 2)) (eVar 5)))) (eBin fAdd (eVar 6) (eK (.int 1)))))) (sSeq (sIf (tAnd (tB (eBin fNe (eBin fMod (eBin fDiv (eBin fIx (eVar 1) (eVar 2)) (eK (.int 21))) (eK (.int 4))) (eK (.int 0)))) (tB (eBin fGt (eUn fLen (eVar 3)) (eK (.int 0))))) (sSeq (sSet 8 (eBin fIx (eVar 3) (eBin fMod (eBin fIx (eVar 1) (eBin fAdd (eBin fAdd (eVar 2) (eK (.int 1))) (eBin fMul (eK (.int 2)) (eVar 5)))) (eUn fLen (eVar 3))))) (sSeq (sFrz 8 (sSet 6 (eBin fMin (eK (.int 7)) (eBin fAdd (eVar 8) (eBin fMod (eBin fIx (eVar 1) (eBin fAdd (eBin fAdd (eVar 2) (eK (.int 2))) (eBin fMul (eK (.int 2)) (eVar 5)))) (eK (.int 3))))))) (sFrz 8 (sSet 7 (eBin fSub (eVar 8) (eBin fMod (eBin fDiv (eBin fIx (eVar 1) (eBin fAdd (eBin fAdd (eVar 2) (eK (.int 2))) (eBin fMul (eK (.int 2)) (eVar 5)))) (eK (.int 3))) (eBin fAdd (eVar 8) (eK (.int 1))))))))) sPass) (sFrz 6 (sApp (eVar 4) (eTup [(eVar 7), (eVar 6)]))))))
def b__law_draw_windows_k52 : SC := (sSeq (sSet 4 (eLst [])) (sSeq (sFor [5] (iRng1 (eBin fIx (eLst [(eK (.int 0)), (eK (.int 1)), (eK (.int 1)), (eK (.int 2)), (eK (.int 2)), (eK (.int 3)), (eK (.int 4))]) (eBin fMod (eBin fIx (eVar 1) (eVar 2)) (eK (.int 7))))) w__law_draw_windows_k52_0) (sRet (eVar 4))))
def φ__law_draw_windows_k52 : Fn := runBody b__law_draw_windows_k52 9
/-! _law_draw_terms_k54 -/
def b__law_draw_terms_k54 : SC := (sSeq (sIf (tB (eBin fEq (eBin fMod (eBin fIx (eVar 0) (eK (.int 0))) (eK (.int 24))) (eK (.int 0)))) (sRet (eTup [(eK (.int 4)), (eK (.int 1)), (eK (.int 4))])) sPass) (sSeq (sSet 1 (eBin fAdd (eK (.int 1)) (eBin fMod (eBin fIx (eVar 0) (eK (.int 0))) (eK (.int 4))))) (sSeq (sSet 2 (eBin fAdd (eK (.int 1)) (eBin fMod (eBin fIx (eVar 0) (eK (.int 1))) (eK (.int 3))))) (sSeq (sIf (tB (eBin fNe (eBin fMod (eBin fDiv (eBin fIx (eVar 0) (eK (.int 1))) (eK (.int 3))) (eK (.int 8))) (eK (.int 0)))) (sFrz 2 (sSet 2 (eBin fMin (eVar 2) (eVar 1)))) sPass) (sRetM [.ev (eVar 1), .mv 2, .ev (eBin fMod (eBin fIx (eVar 0) (eK (.int 2))) (eK (.int 5)))])))))
def φ__law_draw_terms_k54 : Fn := runBody b__law_draw_terms_k54 3
/-! _law_is_int_k56 -/
def b__law_is_int_k56 : SC := (sSeq (sIf (tOr (tNot (tB (eUn (fIsI .int) (eVar 0)))) (tB (eUn (fIsI .bool) (eVar 0)))) (sRet (eK (.bool false))) sPass) (sRet (eChain fLe fLe (eVar 1) (eVar 0) (eVar 2))))
def φ__law_is_int_k56 : Fn := runBody b__law_is_int_k56 3
end PR

set_option Elab.async false
set_option linter.all false
set_option maxRecDepth 100000
set_option maxHeartbeats 4000000
namespace K40
open PySem PySem.Spec PyProof.Rows L2 VL PR
def ecls : List Str := ["BadNumber", "BadLevels", "TooMany"]
def eys : List Str := ["BadNumber", "VaultError", "TooMany", "BadLevels", "ValueError"]
def eflds : List Str := ["what", "limit", "at"]
def esub : Str → Str → Option Bool := subOf ecls eys
/-! _law_refusal -/
def b__law_refusal : SC := (sSeq (sTry2 esub (sIf (tB (eBin fEq (eVar 0) (eK (.int 0)))) (sEx (eCall φ_check_levels [(eVar 1)])) (sIf (tB (eBin fEq (eVar 0) (eK (.int 1)))) (sEx (eCall φ_bases [(eVar 1)])) (sIf (tB (eBin fEq (eVar 0) (eK (.int 2)))) (sEx (eCall φ_chain [(eVar 1), (eVar 2)])) (sEx (eCall φ_future_days [(eVar 1)]))))) [⟨"BadLevels", 3, (hsLet 3 4 (hAnd (hNot (hIs esub "TooMany")) (hNot (hIs esub "BadNumber"))) (hsRetT [(fun _ _ => some (.str "levels")), (hFld ecls "at"), (hAnd (hVar 4) (hAnd (hCall φ__law_is_number_k40 (hFld ecls "at")) (hAnd (hIs esub "VaultError") (hIs esub "ValueError"))))]))⟩, ⟨"TooMany", 3, (hsRetT [(fun _ _ => some (.str "many")), (hFld ecls "limit"), (hAnd (hCall φ__law_is_number_k40 (hFld ecls "limit")) (hAnd (hNot (hIs esub "BadNumber")) (hIs esub "VaultError")))])⟩, ⟨"BadNumber", 3, (hsRetT [(fun _ _ => some (.str "number")), (hFld ecls "what"), (hIs esub "VaultError")])⟩]) (sRet (eTup [(eK (.str "none")), (eK (.int 0)), (eK (.bool true))])))
def φ__law_refusal : Fn := runBody b__law_refusal 5
/-! _law_refused -/
def w__law_refused_0 : SC := (sIf (tB (eBin fNe (eCall φ__law_refusal [(eVar 3), (eVar 0), (eVar 1)]) (eVar 2))) (sRet (eK (.bool false))) sPass)
def b__law_refused : SC := (sSeq (sFor [3] (iRng1 (eK (.int 4))) w__law_refused_0) (sRet (eK (.bool true))))
def φ__law_refused : Fn := runBody b__law_refused 4
/-! _law_is_base -/
def w__law_is_base_0 : SC := (sIf (tB (eBin fLt (eBin fIx (eVar 0) (eBin fSub (eVar 3) (eK (.int 1)))) (eBin fIx (eVar 0) (eBin fSub (eVar 1) (eK (.int 1)))))) (sRet (eK (.bool false))) sPass)
def b__law_is_base : SC := (sSeq (sIf (tOr (tNot (tB (eCall φ__law_is_number_k40 [(eVar 2)]))) (tOr (tB (eBin fLt (eVar 2) (eK (.int 0)))) (tB (eBin fGe (eVar 2) (eVar 1))))) (sRet (eK (.bool false))) sPass) (sSeq (sIf (tAnd (tB (eBin fGt (eVar 2) (eK (.int 0)))) (tB (eBin fGe (eBin fIx (eVar 0) (eBin fSub (eVar 2) (eK (.int 1)))) (eBin fIx (eVar 0) (eBin fSub (eVar 1) (eK (.int 1))))))) (sRet (eK (.bool false))) sPass) (sSeq (sFor [3] (iRng2 (eBin fAdd (eVar 2) (eK (.int 1))) (eVar 1)) w__law_is_base_0) (sRet (eK (.bool true))))))
def φ__law_is_base : Fn := runBody b__law_is_base 4
/-! _law_bases_fit -/
def w__law_bases_fit_0 : SC := (sIf (tNot (tB (eCall φ__law_is_base [(eVar 0), (eBin fAdd (eVar 2) (eK (.int 1))), (eBin fIx (eVar 1) (eVar 2))]))) (sRet (eK (.bool false))) sPass)
def b__law_bases_fit : SC := (sSeq (sIf (tOr (tNot (tB (eUn (fIsI .list) (eVar 1)))) (tB (eBin fNe (eUn fLen (eVar 1)) (eUn fLen (eVar 0))))) (sRet (eK (.bool false))) sPass) (sSeq (sFor [2] (iRng1 (eUn fLen (eVar 0))) w__law_bases_fit_0) (sRet (eK (.bool true)))))
def φ__law_bases_fit : Fn := runBody b__law_bases_fit 3
/-! _law_chain_fits -/
def w__law_chain_fits_0 : SC := (sSeq (sIf (tOr (tNot (tB (eCall φ__law_is_number_k40 [(eVar 4)]))) (tOr (tB (eBin fLt (eVar 4) (eK (.int 1)))) (tB (eBin fGt (eVar 4) (eUn fLen (eVar 0)))))) (sRet (eK (.bool false))) sPass) (sSeq (sFrz 3 (sIf (tNot (tB (eCall φ__law_is_base [(eVar 0), (eVar 4), (eVar 3)]))) (sRet (eK (.bool false))) sPass)) (sSet 3 (eVar 4))))
def b__law_chain_fits : SC := (sSeq (sIf (tOr (tNot (tB (eUn (fIsI .list) (eVar 2)))) (tB (eBin fGt (eUn fLen (eVar 2)) (eUn fLen (eVar 0))))) (sRet (eK (.bool false))) sPass) (sSeq (sSet 3 (eK (.int 0))) (sSeq (sFor [4] (iRow (eVar 2)) w__law_chain_fits_0) (sRet (eBin fEq (eVar 3) (eVar 1))))))
def φ__law_chain_fits : Fn := runBody b__law_chain_fits 5
/-! _law_let -/
def w__law_let_0 : SC := (sSeq (sFrz 2 (sSet 3 (eCall φ_chain [(eVar 2), (eVar 4)]))) (sSeq (sIf (tNot (tB (eCall φ__law_chain_fits [(eVar 0), (eVar 4), (eVar 3)]))) (sRet (eK (.bool false))) sPass) (sApp (eVar 3) (eK (.int 0)))))
def b__law_let : SC := (sSeq (sSet 2 (eUn fList (eVar 0))) (sSeq (sIf (tB (eBin fEq (eVar 1) (eK (.int 1)))) (sSet 2 (eUn fTuple (eVar 0))) sPass) (sSeq (sFrz 2 (sSet 3 (eCall φ_check_levels [(eVar 2)]))) (sSeq (sIf (tNot (tB (eCall φ__law_are_numbers_k40 [(eVar 3), (eVar 0)]))) (sRet (eK (.bool false))) sPass) (sSeq (sApp (eVar 3) (eK (.int 8))) (sSeq (sFrz 2 (sSet 3 (eCall φ_bases [(eVar 2)]))) (sSeq (sIf (tNot (tB (eCall φ__law_bases_fit [(eVar 0), (eVar 3)]))) (sRet (eK (.bool false))) sPass) (sSeq (sPut (eVar 3) (eK (.int 0)) (eK (.int 5))) (sSeq (sFrz 2 (sIf (tNot (tB (eCall φ__law_bases_fit [(eVar 0), (eCall φ_bases [(eVar 2)])]))) (sRet (eK (.bool false))) sPass)) (sSeq (sFor [4] (iRng2 (eK (.int 1)) (eBin fAdd (eUn fLen (eVar 0)) (eK (.int 1)))) w__law_let_0) (sSeq (sFrz 2 (sIf (tNot (tB (eCall φ__law_chain_fits [(eVar 0), (eUn fLen (eVar 0)), (eCall φ_chain [(eVar 2), (eUn fLen (eVar 0))])]))) (sRet (eK (.bool false))) sPass)) (sFrz 2 (sRet (eBin fEq (eUn fList (eVar 2)) (eVar 0)))))))))))))))
def φ__law_let : Fn := runBody b__law_let 5
/-! law -/
def w_law_0 : SC := (sIf (tNot (tB (eCall φ__law_refused [(eVar 10), (eK (.int 1)), (eTup [(eK (.str "levels")), (eUn fNeg (eK (.int 1))), (eK (.bool true))])]))) (sRet (eK (.bool false))) sPass)
def w_law_1 : SC := (sFrz 5 (sIf (tB (eBin fNe (eCall φ__law_refusal [(eK (.int 2)), (eUn fList (eVar 5)), (eVar 11)]) (eTup [(eK (.str "number")), (eK (.str "day")), (eK (.bool true))]))) (sRet (eK (.bool false))) sPass))
def b_law : SC := (sSeq (sSet 1 (eBin fAdd (eK (.int 1)) (eBin fMod (eUn fInt (eCall φ__law_cell_k40 [(eVar 0), (eK (.int 0))])) (eK (.int 12))))) (sSeq (sSet 2 (eUn fInt (eCall φ__law_cell_k40 [(eVar 0), (eK (.int 1))]))) (sSeq (sSet 3 (eBin fIx (eLst [(eK (.int 8)), (eK (.int 2)), (eK (.int 3)), (eK (.int 8))]) (eBin fMod (eVar 2) (eK (.int 4))))) (sSeq (sSet 4 (eBin fMul (eBin fSub (eK (.int 8)) (eVar 3)) (eBin fMod (eBin fDiv (eVar 2) (eK (.int 4))) (eK (.int 2))))) (sSeq (sFrz 3 (sSet 5 (eComp [12] (iRow (eCall φ__law_row_k40 [(eCall φ__law_cell_k40 [(eVar 0), (eK (.int 2))]), (eVar 1), (eVar 3)])) tYes (eBin fAdd (eVar 12) (eVar 4))))) (sSeq (sSet 6 (eCall φ__law_row_k40 [(eCall φ__law_cell_k40 [(eVar 0), (eK (.int 5))]), (eK (.int 13)), (eK (.int 8))])) (sSeq (sFrz 6 (sFrz 5 (sIf (tOr (tNot (tB (eCall φ__law_let [(eVar 5), (eBin fMod (eBin fDiv (eVar 2) (eK (.int 8))) (eK (.int 2)))]))) (tNot (tB (eCall φ__law_let [(eSlice (eVar 6) none (some (eK (.int 12)))), (eBin fMod (eBin fDiv (eVar 2) (eK (.int 16))) (eK (.int 2)))])))) (sRet (eK (.bool false))) sPass))) (sSeq (sSet 7 (eBin fMod (eUn fInt (eCall φ__law_cell_k40 [(eVar 0), (eK (.int 3))])) (eVar 1))) (sSeq (sSet 8 (eBin fIx (eLst [(eK (.int 8)), (eUn fNeg (eK (.int 1))), (eK (.bool true)), (eK .none), (eK (.str "1")), (eLst [(eK (.int 1))]), (eK (.bool false)), (eK (.int 99)), (eTup []), (eUn fNeg (eK (.int 30)))]) (eBin fMod (eUn fInt (eCall φ__law_cell_k40 [(eVar 0), (eK (.int 4))])) (eK (.int 10))))) (sSeq (sFrz 8 (sFrz 5 (sSet 9 (eBin fAdd (eBin fAdd (eSlice (eVar 5) none (some (eVar 7))) (eLst [(eVar 8)])) (eSlice (eVar 5) (some (eBin fAdd (eVar 7) (eK (.int 1)))) none))))) (sSeq (sIf (tAnd (tB (eBin fEq (eBin fMod (eBin fDiv (eVar 2) (eK (.int 32))) (eK (.int 2))) (eK (.int 1)))) (tB (eBin fLt (eBin fAdd (eVar 7) (eK (.int 1))) (eVar 1)))) (sPut (eVar 9) (eBin fSub (eVar 1) (eK (.int 1))) (eK .none)) sPass) (sSeq (sFrz 9 (sIf (tOr (tNot (tB (eCall φ__law_refused [(eVar 9), (eK (.int 1)), (eTup [(eK (.str "levels")), (eVar 7), (eK (.bool true))])]))) (tNot (tB (eCall φ__law_refused [(eUn fTuple (eVar 9)), (eK (.int 0)), (eTup [(eK (.str "levels")), (eVar 7), (eK (.bool true))])])))) (sRet (eK (.bool false))) sPass)) (sSeq (sFrz 6 (sIf (tNot (tB (eCall φ__law_refused [(eVar 6), (eK (.int 1)), (eTup [(eK (.str "many")), (eK (.int 12)), (eK (.bool true))])]))) (sRet (eK (.bool false))) sPass)) (sSeq (sFrz 8 (sFrz 6 (sIf (tNot (tB (eCall φ__law_refused [(eBin fAdd (eBin fAdd (eSlice (eVar 6) none (some (eVar 7))) (eLst [(eVar 8)])) (eSlice (eVar 6) (some (eBin fAdd (eVar 7) (eK (.int 1)))) none)), (eK (.int 14)), (eTup [(eK (.str "many")), (eK (.int 12)), (eK (.bool true))])]))) (sRet (eK (.bool false))) sPass))) (sSeq (sFor [10] (iRow (eLst [(eK .none), (eLst []), (eTup []), (eK (.str "0")), (eK (.int 3)), (eK (.bool true))])) w_law_0) (sSeq (sFor [11] (iRow (eLst [(eK (.int 0)), (eBin fAdd (eVar 1) (eK (.int 1))), (eUn fNeg (eK (.int 1))), (eK (.bool true)), (eK .none), (eK (.str "1")), (eLst [(eK (.int 1))]), (eK (.int 1000))])) w_law_1) (sRet (eK (.bool true)))))))))))))))))))
def φ_law : Fn := runBody b_law 13
end K40

set_option Elab.async false
set_option linter.all false
set_option maxRecDepth 100000
set_option maxHeartbeats 4000000
namespace PR
open PySem VL
theorem while_f {n : Nat} {t : TC} {b : SC} {ρ : Rho} (h : t ρ = .ok false) : whileN t b (n + 1) ρ = .next ρ := by
  unfold whileN; rw [h]
theorem while_t {n : Nat} {t : TC} {b : SC} {ρ ρ' : Rho} {r : SRes} (h : t ρ = .ok true) (hb : b ρ = .next ρ') (k : whileN t b n ρ' = r) : whileN t b (n + 1) ρ = r := by
  unfold whileN; rw [h]
  show (match b ρ with | .next ρ' => _ | .cont ρ' => _ | .brk ρ' => _ | .ret ow => _ | .err x ρ' => _ | .stuck => _) = _
  rw [hb]; exact k
abbrev scr (ns : List Int) : Sl := .own (.fz (.list (dI ns)))
def In (size : Int) (L : List Int) : Prop := ∀ x ∈ L, 0 ≤ x ∧ x < size
theorem In.app {size : Int} {L : List Int} {x : Int} (h : In size L) (h0 : 0 ≤ x) (h1 : x < size) : In size (L ++ [x]) := fun y hy => by
  rcases List.mem_append.mp hy with q | q
  · exact h y q
  · simp only [List.mem_singleton] at q
    subst q; exact ⟨h0, h1⟩
theorem ixI {ns : List Int} {k : Nat} (h : k < ns.length) : ∃ x, ns[k]? = some x ∧ x ∈ ns := ⟨ns[k], List.getElem?_eq_getElem h, List.getElem_mem h⟩
theorem In.get {size : Int} {L : List Int} (h : In size L) {k : Nat} (hk : k < L.length) : ∃ x, L[k]? = some x ∧ 0 ≤ x ∧ x < size := by
  obtain ⟨x, h1, h2⟩ := ixI hk
  exact ⟨x, h1, h x h2⟩
theorem tup_s {d : D} {ds : List D} (h : rowOf d = some ds) : fTuple (.val (.fz d)) = .ok (.val (.fz (.tuple ds))) := by
  have e : mkTup (ds.map Ow.fz) = .fz (.tuple ds) := by
    unfold mkTup
    rw [if_pos (by rw [List.all_map, List.all_eq_true]; intro _ _; rfl), toDs_fz]
  cases d with
  | list es =>
    have h' : es = ds := by cases h; rfl
    rw [h']
    show Res.ok (RV.val (mkTup (ds.map Ow.fz))) = _
    rw [e]
  | tuple _ => cases h; rfl
  | _ => cases h
theorem lit_ix (L : List Int) (c : Int) (m : Nat) (h : L.length = m) (hm : 0 < m) : ∃ x ∈ L, fIx (.val (.ls (oI L))) (.val (.fz (.int (c % m)))) = .ok (.val (.fz (.int x))) := by
  have b1 := Int.emod_nonneg c (show (m : Int) ≠ 0 by omega)
  have b2 := Int.emod_lt_of_pos c (show (0 : Int) < m by omega)
  obtain ⟨j, ej⟩ : ∃ j : Nat, c % m = j := ⟨(c % m).toNat, by omega⟩
  rw [ej] at b2 ⊢
  obtain ⟨x, hx, hx2⟩ := ixI (ns := L) (k := j) (by omega)
  exact ⟨x, hx2, ix_val hx⟩
def lv (P : List Int) (d : Nat) : Int := P.getD (d - 1) 0
def bs (P : List Int) (v : Int) : Nat → Nat
  | 0 => 0
  | k + 1 => if P.getD k 0 < v then k + 1 else bs P v k
theorem bs_le (P : List Int) (v : Int) : ∀ k, bs P v k ≤ k
  | 0 => Nat.le_refl _
  | k + 1 => by
    unfold bs
    by_cases h : P.getD k 0 < v
    · rw [if_pos h]; exact Nat.le_refl _
    · rw [if_neg h]; have := bs_le P v k; omega
theorem bs_lt (P : List Int) (v : Int) : ∀ k, bs P v k ≠ 0 → lv P (bs P v k) < v
  | 0, h => absurd rfl h
  | k + 1, h => by
    unfold bs at h ⊢
    by_cases e : P.getD k 0 < v
    · rw [if_pos e]; exact e
    · rw [if_neg e] at h ⊢; exact bs_lt P v k h
theorem bs_max (P : List Int) (v : Int) : ∀ k e, bs P v k < e → e ≤ k → v ≤ lv P e
  | 0, e, h, h' => by omega
  | k + 1, e, h, h' => by
    unfold bs at h
    by_cases q : P.getD k 0 < v
    · rw [if_pos q] at h; omega
    · rw [if_neg q] at h
      by_cases r : e = k + 1
      · subst r
        show v ≤ P.getD k 0
        omega
      · exact bs_max P v k e h (by omega)
def base (P : List Int) (d : Nat) : Nat := bs P (lv P d) (d - 1)
theorem base_lt (P : List Int) {d : Nat} (h : 0 < d) : base P d < d := by have := bs_le P (lv P d) (d - 1); unfold base; omega
def ch (P : List Int) : Nat → Nat → List Nat
  | 0, _ => []
  | f + 1, d => if d = 0 then [] else ch P f (base P d) ++ [d]
def chn (P : List Int) (d : Nat) : List Nat := ch P d d
theorem ch_stable (P : List Int) : ∀ f d, d ≤ f → ch P f d = chn P d := by
  intro f
  induction f using Nat.strongRecOn with
  | ind f ih =>
    intro d hd
    cases f with
    | zero =>
      have : d = 0 := by omega
      subst this
      rfl
    | succ f =>
      cases d with
      | zero => rfl
      | succ d =>
        have hb := base_lt P (d := d + 1) (by omega)
        show (if d + 1 = 0 then [] else ch P f (base P (d + 1)) ++ [d + 1]) = (if d + 1 = 0 then [] else ch P d (base P (d + 1)) ++ [d + 1])
        rw [if_neg (by omega), if_neg (by omega), ih f (by omega) _ (by omega), ih d (by omega) _ (by omega)]
theorem chn_eq (P : List Int) {d : Nat} (h : 0 < d) : chn P d = chn P (base P d) ++ [d] := by
  cases d with
  | zero => omega
  | succ d =>
    have hb := base_lt P (d := d + 1) (by omega)
    show (if d + 1 = 0 then [] else ch P d (base P (d + 1)) ++ [d + 1]) = _
    rw [if_neg (by omega), ch_stable P d _ (by omega)]
theorem mem_chn (P : List Int) : ∀ m d, d ∈ chn P m ↔ 1 ≤ d ∧ d ≤ m ∧ ∀ e, d < e → e ≤ m → lv P d < lv P e := by
  intro m
  induction m using Nat.strongRecOn with
  | ind m ih =>
    intro d
    by_cases hm : m = 0
    · subst hm
      constructor
      · intro h; cases h
      · intro h; omega
    · have hb := base_lt P (d := m) (by omega)
      rw [chn_eq P (by omega), List.mem_append, List.mem_singleton, ih _ hb]
      constructor
      · rintro (⟨h1, h2, h3⟩ | rfl)
        · have hbn : base P m ≠ 0 := by omega
          have lt := bs_lt P (lv P m) (m - 1) hbn
          have hbm : lv P d ≤ lv P (base P m) := by
            by_cases e : d = base P m
            · rw [e]; exact Int.le_refl _
            · exact Int.le_of_lt (h3 _ (by omega) (Nat.le_refl _))
          refine ⟨h1, by omega, fun e he1 he2 => ?_⟩
          by_cases q : e ≤ base P m
          · exact h3 e he1 q
          · have lt' : lv P (base P m) < lv P m := lt
            by_cases r : e = m
            · subst r; omega
            · have := bs_max P (lv P m) (m - 1) e (by unfold base at q; omega) (by omega)
              omega
        · exact ⟨by omega, Nat.le_refl _, fun e h1 h2 => by omega⟩
      · rintro ⟨h1, h2, h3⟩
        by_cases e : d = m
        · exact .inr e
        · left
          have hlt := h3 m (by omega) (Nat.le_refl _)
          have hdb : d ≤ base P m := by
            rcases Nat.lt_or_ge (base P m) d with q | q
            · have := bs_max P (lv P m) (m - 1) d (by unfold base at q; omega) (by omega)
              omega
            · exact q
          exact ⟨h1, hdb, fun e he1 he2 => h3 e he1 (by omega)⟩
theorem chn_lt (P : List Int) : ∀ m, (chn P m).Pairwise (· < ·) := by
  intro m
  induction m using Nat.strongRecOn with
  | ind m ih =>
    by_cases hm : m = 0
    · subst hm; exact .nil
    · have hb := base_lt P (d := m) (by omega)
      rw [chn_eq P (by omega), List.pairwise_append]
      refine ⟨ih _ hb, List.pairwise_singleton _ _, fun a ha b hb' => ?_⟩
      simp only [List.mem_singleton] at hb'
      subst hb'
      have := ((mem_chn P _ a).mp ha).2.1
      omega
def chI (P : List Int) (m : Nat) : List Int := (chn P m).map fun (d : Nat) => (d : Int)
theorem mem_chI (P : List Int) (m : Nat) (x : Int) : x ∈ chI P m ↔ ∃ d : Nat, x = d ∧ d ∈ chn P m := by
  unfold chI
  rw [List.mem_map]
  exact ⟨fun ⟨d, h1, h2⟩ => ⟨d, h2.symm, h1⟩, fun ⟨d, h1, h2⟩ => ⟨d, h2, h1.symm⟩⟩
theorem chI_asc (P : List Int) (m : Nat) : Asc 1 m (chI P m) := by
  refine ⟨?_, fun x hx => ?_⟩
  · unfold chI
    rw [List.pairwise_map]
    exact (chn_lt P m).imp fun h => by omega
  · obtain ⟨d, rfl, hd⟩ := (mem_chI P m x).mp hx
    have := (mem_chn P m d).mp hd
    omega
theorem chI_len (P : List Int) (m : Nat) : (chI P m).length ≤ m := len_le_days (chI_asc P m).nodup (chI_asc P m).2
theorem chI_eq (P : List Int) {d : Nat} (h : 0 < d) : chI P d = chI P (base P d) ++ [(d : Int)] := by
  unfold chI
  rw [chn_eq P h, List.map_append]; rfl
/-! ### the program's bases and chains -/
abbrev Lx (L : List Int) : Sl := .own (.fz (.list (dI L)))
theorem getD_ix {L : List Int} {k : Nat} (h : k < L.length) : L[k]? = some (L.getD k 0) := by
  rw [List.getD_eq_getElem?_getD, List.getElem?_eq_getElem h]; rfl
theorem ixP {P : List Int} {k : Int} {j : Nat} (hj : j < P.length) (e : k = j) : fIx (.val (.fz (.list (dI P)))) (.val (.fz (.int k))) = .ok (.val (.fz (.int (P.getD j 0)))) := by
  subst e
  exact ix_I (by omega) (by rw [Int.toNat_natCast]; exact getD_ix hj)
def bsL (P : List Int) (n : Nat) : List Int := (List.range n).map fun k => (base P (k + 1) : Int)
theorem bsL_get {P : List Int} {n k : Nat} (h : k < n) : (bsL P n)[k]? = some (base P (k + 1) : Int) := by unfold bsL; rw [List.getElem?_map, List.getElem?_range h]; rfl
theorem bsL_len (P : List Int) (n : Nat) : (bsL P n).length = n := by unfold bsL; simp
theorem base_list_s {P : List Int} (hl : P.length ≤ 100) : φ_base_list [Lx P] = .ok (.ls (oI (bsL P P.length))) := by
  obtain ⟨ρ', e, a, b, c, rfl⟩ := forL_n (tg := [2]) (b := w_base_list_1) (vs := rangeS 1 (P.length + 1)) (fun k ρ => ∃ a b c, ρ = [some (Lx P), some (.own (.ls (oI (bsL P k)))), a, b, c]) (ρ := [some (Lx P), some (.own (.ls [])), none, none, none]) ⟨none, none, none, rfl⟩ (by
    rintro k v ρ hv ⟨a, b, c, rfl⟩
    obtain ⟨rfl, hk⟩ := rangeS_get hv
    have hk' : k < P.length := by omega
    have i2 := ixP (P := P) (k := 1 + (k : Int) - 1) (j := k) (by omega) (by omega)
    obtain ⟨ρ1, e1, c', rfl⟩ := forL_n (tg := [4]) (b := w_base_list_0) (vs := rangeS 1 (1 + k)) (fun j ρ => ∃ c, ρ = [some (Lx P), some (.own (.ls (oI (bsL P k)))), some (.own (.fz (.int (1 + (k : Nat))))), some (.own (.fz (.int (bs P (lv P (k + 1)) j)))), c])
      (ρ := [some (Lx P), some (.own (.ls (oI (bsL P k)))), some (.own (.fz (.int (1 + (k : Nat))))), some (.own (.fz (.int 0))), c]) ⟨c, rfl⟩ (by
      rintro j v ρ hv ⟨c, rfl⟩
      obtain ⟨rfl, hj⟩ := rangeS_get hv
      have i1 := ixP (P := P) (k := 1 + (j : Int) - 1) (j := j) (by omega) (by omega)
      have bse : bs P (lv P (k + 1)) (j + 1) = if P.getD j 0 < lv P (k + 1) then j + 1 else bs P (lv P (k + 1)) j := rfl
      by_cases q : P.getD j 0 < lv P (k + 1)
      · rw [bse, if_pos q]
        refine ⟨_, .inl (if_t ?_ (set_v rfl)), some (.own (.fz (.int (1 + (j : Nat))))), ?_⟩
        · have q' : P.getD j 0 < P.getD k 0 := q
          simp [VL.runBody, VL.sSeq, VL.sIf, VL.sRet, VL.sSet, VL.sFrz, VL.frzSl, VL.sUnp, VL.RV.parts, VL.sFor, VL.sApp, VL.sPass, VL.putAt, VL.Ow.put, VL.eVar, VL.Sl.rv, VL.eK, VL.rD, VL.eUn, VL.eBin, VL.eCall, VL.evalAll, VL.RV.arg, VL.Res.bind, VL.RV.d, VL.Ow.toD, VL.tB, VL.tAnd, VL.tOr, VL.tNot, VL.tYes, VL.eAnd, VL.eOr, VL.fNot, VL.eIf, VL.eChain, VL.fNeg, VL.fIsN, VL.fNotN, VL.isN, VL.fIsI, VL.fIsIs, VL.inst, VL.setAll, VL.RV.ow, VL.owsOf, VL.eLst, VL.eTup, VL.iRow, VL.iRng1, VL.iRng2, VL.iEnum, VL.RV.iter, VL.slOf, VL.mul_r, VL.mul_l, VL.mod_s, VL.div_s, VL.add_s, VL.sub_s, VL.int_s, VL.lt_s, VL.le_s, VL.gt_s, VL.ge_s, VL.fEq_int, VL.fNe_int, i1, i2]
          simpa using q'
        · show [_, _, _, some (Sl.own (.fz (.int (1 + (j : Nat))))), _] = _
          rw [show (1 + (j : Nat) : Int) = ((j + 1 : Nat) : Int) by omega]; rfl
      · rw [bse, if_neg q]
        refine ⟨_, .inl (if_f ?_ rfl), some (.own (.fz (.int (1 + (j : Nat))))), rfl⟩
        have q' : ¬ P.getD j 0 < P.getD k 0 := q
        simp [VL.runBody, VL.sSeq, VL.sIf, VL.sRet, VL.sSet, VL.sFrz, VL.frzSl, VL.sUnp, VL.RV.parts, VL.sFor, VL.sApp, VL.sPass, VL.putAt, VL.Ow.put, VL.eVar, VL.Sl.rv, VL.eK, VL.rD, VL.eUn, VL.eBin, VL.eCall, VL.evalAll, VL.RV.arg, VL.Res.bind, VL.RV.d, VL.Ow.toD, VL.tB, VL.tAnd, VL.tOr, VL.tNot, VL.tYes, VL.eAnd, VL.eOr, VL.fNot, VL.eIf, VL.eChain, VL.fNeg, VL.fIsN, VL.fNotN, VL.isN, VL.fIsI, VL.fIsIs, VL.inst, VL.setAll, VL.RV.ow, VL.owsOf, VL.eLst, VL.eTup, VL.iRow, VL.iRng1, VL.iRng2, VL.iEnum, VL.RV.iter, VL.slOf, VL.mul_r, VL.mul_l, VL.mod_s, VL.div_s, VL.add_s, VL.sub_s, VL.int_s, VL.lt_s, VL.le_s, VL.gt_s, VL.ge_s, VL.fEq_int, VL.fNe_int, i1, i2]
        simpa using q')
    rw [rangeS_len] at e1
    rw [show ((1 + (k : Int)) - 1).toNat = k by omega] at e1
    refine ⟨_, .inl (seq_n (set_v rfl) (seq_n (for_n (rng2_s (n := 1 + k) rfl rfl (by omega) (by omega) (by omega) (by omega)) e1) (frz_n (app_s (xs := oI (bsL P k)) (ow := .fz (.int (base P (k + 1)))) rfl rfl rfl (by rw [oI_len, bsL_len]; omega))))), some (.own (.fz (.int (1 + (k : Nat))))), some (.own (.fz (.int (base P (k + 1))))), c', ?_⟩
    rw [oI_app]
    have : bsL P (k + 1) = bsL P k ++ [(base P (k + 1) : Int)] := by unfold bsL; rw [List.range_succ, List.map_append]; rfl
    rw [this]
    rfl)
  rw [rangeS_len] at e
  refine run_ret _ ?_
  refine seq_n (set_v rfl) (seq_n (for_n (rng2_s (n := P.length + 1) rfl (bin_v (un_v rfl (len_I (isI_fz P))) rfl (add_s _ _)) (by omega) (by omega) (by omega) (by omega)) e) ?_)
  rw [show ((P.length : Int) + 1 - 1).toNat = P.length by omega]
  rfl
theorem chain_of_s {P : List Int} {m : Nat} (hm : m ≤ P.length) (hl : P.length ≤ 100) : φ_chain_of [Lx (bsL P P.length), .own (.fz (.int m))] = .ok (.ls (oI (chI P m))) := by
  have key : ∀ (d : Nat), d ≤ m → ∀ (acc : List Int), acc.length ≤ m - d → ∃ n, n ≤ d + 1 ∧ ∃ o3, whileN (VL.tB (eBin fGt (eVar 3) (eK (.int 0)))) w_chain_of_0 n [some (Lx (bsL P P.length)), some (.own (.fz (.int m))), some (.own (.ls (oI acc))), some (.own (.fz (.int d)))] = .next [some (Lx (bsL P P.length)), some (.own (.fz (.int m))), some (.own (.ls (oI (acc ++ (chI P d).reverse)))), o3] := by
    intro d
    induction d using Nat.strongRecOn with
    | ind d ih =>
      intro hd acc ha
      by_cases h0 : d = 0
      · subst h0
        refine ⟨1, by omega, some (.own (.fz (.int (0 : Nat)))), (while_f rfl).trans ?_⟩
        show SRes.next [_, _, some (Sl.own (.ls (oI acc))), _] = SRes.next [_, _, some (Sl.own (.ls (oI (acc ++ [])))), _]
        rw [List.append_nil]
      · have hb := base_lt P (d := d) (by omega)
        obtain ⟨n, hn, o3, e⟩ := ih (base P d) hb (by omega) (acc ++ [(d : Int)]) (by simp; omega)
        refine ⟨n + 1, by omega, o3, while_t (ρ' := [some (Lx (bsL P P.length)), some (.own (.fz (.int m))), some (.own (.ls (oI (acc ++ [(d : Int)])))), some (.own (.fz (.int (base P d))))]) ?_ ?_ ?_⟩
        · have : (0 : Int) < d := by omega
          simp [VL.runBody, VL.sSeq, VL.sIf, VL.sRet, VL.sSet, VL.sFrz, VL.frzSl, VL.sUnp, VL.RV.parts, VL.sFor, VL.sApp, VL.sPass, VL.putAt, VL.Ow.put, VL.eVar, VL.Sl.rv, VL.eK, VL.rD, VL.eUn, VL.eBin, VL.eCall, VL.evalAll, VL.RV.arg, VL.Res.bind, VL.RV.d, VL.Ow.toD, VL.tB, VL.tAnd, VL.tOr, VL.tNot, VL.tYes, VL.eAnd, VL.eOr, VL.fNot, VL.eIf, VL.eChain, VL.fNeg, VL.fIsN, VL.fNotN, VL.isN, VL.fIsI, VL.fIsIs, VL.inst, VL.setAll, VL.RV.ow, VL.owsOf, VL.eLst, VL.eTup, VL.iRow, VL.iRng1, VL.iRng2, VL.iEnum, VL.RV.iter, VL.slOf, VL.mul_r, VL.mul_l, VL.mod_s, VL.div_s, VL.add_s, VL.sub_s, VL.int_s, VL.lt_s, VL.le_s, VL.gt_s, VL.ge_s, VL.fEq_int, VL.fNe_int, this]
          omega
        · refine seq_n (frz_n (app_s (xs := oI acc) (ow := .fz (.int d)) rfl rfl rfl (by rw [oI_len]; omega))) ?_
          have ib : fIx (.val (.fz (.list (dI (bsL P P.length))))) (.val (.fz (.int ((d : Int) - 1)))) = .ok (.val (.fz (.int (base P d)))) := ix_I (by omega) (by
            rw [show ((d : Int) - 1).toNat = d - 1 by omega, bsL_get (by omega), show d - 1 + 1 = d by omega])
          rw [oI_app]
          exact set_v (bin_v rfl (bin_v rfl rfl (sub_s _ _)) ib)
        · rw [e, chI_eq P (d := d) (by omega), List.reverse_append]
          simp [List.append_assoc]
  obtain ⟨n, hn, o3, e⟩ := key m (Nat.le_refl _) [] (by simp)
  refine run_ret _ ?_
  refine seq_n (set_v rfl) (seq_n (set_v rfl) (seq_n (sWhile_of e (Nat.le_trans hn (by unfold fuel; omega))) (frz_n (ret_v (un_v (x := .val (.fz (.list (dI (chI P m).reverse)))) ?_ ((rev_I (isI_fz _)).trans ?_))))))
  · simp [VL.eVar, VL.frzSl, VL.Sl.rv, oI_toD]
  · rw [List.reverse_reverse]
theorem frz_I {i : Nat} {a : SC} {ρ : Rho} {r : SRes} {P : List Int} (h : ρ[i]? = some (some (.own (.ls (oI P))))) (k : a (ρ.set i (some (Lx P))) = r) : sFrz i a ρ = r := by
  unfold sFrz
  rw [h]
  show a (ρ.set i (some (.own (.fz (Ow.ls (oI P)).toD)))) = r
  rw [oI_toD]; exact k
theorem frz_d {i : Nat} {a : SC} {ρ : Rho} {r : SRes} {d : D} (h : ρ[i]? = some (some (.own (.fz d)))) (k : a ρ = r) : sFrz i a ρ = r := by
  unfold sFrz
  rw [h]
  show a (ρ.set i (some (.own (.fz d)))) = r
  have : ρ.set i (some (.own (.fz d))) = ρ := by
    obtain ⟨hi, e⟩ := List.getElem?_eq_some_iff.mp h
    rw [← e]; exact List.set_getElem_self hi
  rw [this]; exact k
theorem run_next {b : SC} {n : Nat} {as : List Sl} {ρ' : Rho} (ρ : Rho) (h : b ρ = .next ρ') (hρ : as.map some ++ List.replicate (n - as.length) none = ρ := by rfl) : runBody b n as = .ok (.fz .none) := by
  unfold runBody
  rw [hρ, h]
end PR

set_option Elab.async false
set_option linter.all false
set_option maxRecDepth 100000
set_option maxHeartbeats 4000000
namespace PR
open PySem VL
/-! PQ2: the program's checks of numbers, rows, levels, on any data. -/
abbrev I (n : Int) : Sl := .own (.fz (.int n))
theorem is_row_D {s : Sl} {d : D} (h : Is s d) : φ_is_row [s] = .ok (.fz (.bool (rowOf d).isSome)) := by
  rcases h with rfl | rfl <;> cases d <;> rfl
theorem is_number_D {s : Sl} {d : D} (h : Is s d) (lo hi : Int) : φ_is_number [s, I lo, I hi] = .ok (.fz (.bool (isNum d lo hi))) := by
  cases d with
  | int v =>
    rcases h with rfl | rfl <;> by_cases h : lo ≤ v <;> simp [φ_is_number, b_is_number, VL.runBody, VL.sSeq, VL.sIf, VL.sRet, VL.sSet, VL.sFrz, VL.frzSl, VL.sUnp, VL.RV.parts, VL.sFor, VL.sApp, VL.sPass, VL.putAt, VL.Ow.put, VL.eVar, VL.Sl.rv, VL.eK, VL.rD, VL.eUn, VL.eBin, VL.eCall, VL.evalAll, VL.RV.arg, VL.Res.bind, VL.RV.d, VL.Ow.toD, VL.tB, VL.tAnd, VL.tOr, VL.tNot, VL.tYes, VL.eAnd, VL.eOr, VL.fNot, VL.eIf, VL.eChain, VL.fAdd, VL.fSub, VL.fMul, VL.fDiv, VL.fMod, VL.fPow, VL.fNeg, VL.fLt, VL.fLe, VL.fGt, VL.fGe, VL.fIsN, VL.fNotN, VL.isN, VL.fIsI, VL.fIsIs, VL.inst, VL.fInt, VL.setAll, VL.RV.ow, VL.owsOf, VL.eLst, VL.eTup, VL.iRow, VL.iRng1, VL.iRng2, VL.iEnum, VL.RV.iter, VL.slOf, h, isNum, VL.rv_bor, VL.scal]
  | _ => rcases h with rfl | rfl <;> rfl
def xLev (k : Int) : Exn := ⟨"BadLevels", [("at", .int k)]⟩
def xMany (k : Int) : Exn := ⟨"TooMany", [("limit", .int k)]⟩
def xNum (w : Str) : Exn := ⟨"BadNumber", [("what", .str w)]⟩
def rowErr (d : D) (most : Int) : Option Exn := match rowOf d with
  | none => some (xLev (-1))
  | some [] => some (xLev (-1))
  | some ds => if most < ds.length then some (xMany most) else (match firstBad (fun x => isNum x 0 7) ds 0 with
    | some k => some (xLev k)
    | none => none)
theorem isnum_call {a : EC} {ρ : Rho} {t : Sl} {x : D} {lo hi : Int} (i : Nat) (ha : a ρ = .ok (t.rv i)) (ht : Is t x) : eCall φ_is_number [a, eK (.int lo), eK (.int hi)] ρ = .ok (.val (.fz (.bool (isNum x lo hi)))) :=
  call_ok (xs := [t.rv i, .val (.fz (.int lo)), .val (.fz (.int hi))]) (ev_cons ha (ev_cons rfl (ev_cons rfl rfl))) (is_number_D (ht.arg i) lo hi)
theorem isrow_call {a : EC} {ρ : Rho} {t : Sl} {x : D} (i : Nat) (ha : a ρ = .ok (t.rv i)) (ht : Is t x) : eCall φ_is_row [a] ρ = .ok (.val (.fz (.bool (rowOf x).isSome))) :=
  call_ok (xs := [t.rv i]) (ev_cons ha rfl) (is_row_D (ht.arg i))
theorem small_body {s m : Option Sl} {k : Nat} {t : Sl} {x : D} (ht : Is t x) : w_check_small_row_0 [s, m, some (I k), some t] = if isNum x 0 7 = true then .next [s, m, some (I k), some t] else .err (xLev k) [s, m, some (I k), some t] := by
  have ec := isnum_call (lo := 0) (hi := 7) (a := eVar 3) (ρ := [s, m, some (I k), some t]) 3 (ev_var rfl) ht
  unfold w_check_small_row_0
  refine if_b (not_v (tb_v ec)) (fun h => ?_) fun h => ?_
  · have h : isNum x 0 7 = false := by simpa using h
    rw [h]; exact raise_v rfl rfl
  · have h : isNum x 0 7 = true := by simpa using h
    rw [h]; rfl
theorem small_len {s : Sl} {d : D} {most : Int} {ds : List D} (h : Is s d) (e : rowOf d = some ds) : eUn fLen (eVar 0) [some s, some (I most), none, none] = .ok (.val (.fz (.int ds.length))) := un_v (ev_var rfl) (len_is h e 0)
theorem small_top {s : Sl} {d : D} {most : Int} {ds : List D} (h : Is s d) (e : rowOf d = some ds) (h0 : ds ≠ []) (hm : ¬ most < ds.length) {k : SC} {r : SRes} (hk : k [some s, some (I most), none, none] = r) :
    sSeq (sIf (tOr (tNot (tB (eCall φ_is_row [(eVar 0)]))) (tB (eBin fEq (eUn fLen (eVar 0)) (eK (.int 0))))) (sRaise "BadLevels" "at" (eUn fNeg (eK (.int 1)))) sPass) (sSeq (sIf (tB (eBin fGt (eUn fLen (eVar 0)) (eVar 1))) (sRaise "TooMany" "limit" (eVar 1)) sPass) k) [some s, some (I most), none, none] = r := by
  have n0 : ¬ (ds.length : Int) = 0 := by
    cases ds with
    | nil => exact absurd rfl h0
    | cons _ _ => simp; omega
  refine seq_n (if_f (or_f ?_ (dF n0 (eq_t (small_len h e) rfl))) rfl) (seq_n (if_f (dF hm (gt_t (small_len h e) rfl)) rfl) hk)
  rw [not_v (tb_v (isrow_call 0 (ev_var rfl) h)), e]; rfl
theorem small_it {s : Sl} {d : D} {most : Int} {ds : List D} (h : Is s d) (e : rowOf d = some ds) : ∃ ss, iEnum (eVar 0) [some s, some (I most), none, none] = .ok (enumS 0 ss) ∧ ss.length = ds.length ∧ ∀ (k : Nat) (x : D), ds[k]? = some x → ∃ t, ss[k]? = some t ∧ Is t x := by
  obtain ⟨ss, hss, hln, hget⟩ := h.iter e 0
  refine ⟨ss, ?_, hln, hget⟩
  unfold iEnum
  rw [ev_var (s := s) rfl]
  show (match (s.rv 0).iter with | some ss => Res.ok (enumS 0 ss) | none => .stuck) = _
  rw [hss]
theorem check_small_row_e {s : Sl} {d : D} {most : Int} {x : Exn} (h : Is s d) (e : rowErr d most = some x) : φ_check_small_row [s, I most] = .err x := by
  unfold rowErr at e
  cases er : rowOf d with
  | none =>
    rw [er] at e
    cases e
    refine run_err [some s, some (I most), none, none] (seq_e (if_t (or_t ?_) (raise_v rfl rfl)))
    rw [not_v (tb_v (isrow_call 0 (ev_var rfl) h)), er]; rfl
  | some ds =>
    rw [er] at e
    cases ds with
    | nil =>
      cases e
      refine run_err [some s, some (I most), none, none] (seq_e (if_t (or_f ?_ (dT (by simp) (eq_t (small_len h er) rfl))) (raise_v rfl rfl)))
      rw [not_v (tb_v (isrow_call 0 (ev_var rfl) h)), er]; rfl
    | cons b r =>
      simp only at e
      have n0 : ¬ ((b :: r).length : Int) = 0 := by simp; omega
      by_cases hm : most < ((b :: r).length : Int)
      · rw [if_pos hm] at e
        cases e
        refine run_err [some s, some (I most), none, none] (seq_n (if_f (or_f ?_ (dF n0 (eq_t (small_len h er) rfl))) rfl) (seq_e (if_t (dT hm (gt_t (small_len h er) rfl)) (raise_v rfl rfl))))
        rw [not_v (tb_v (isrow_call 0 (ev_var rfl) h)), er]; rfl
      · rw [if_neg hm] at e
        split at e
        · rename_i k ek
          cases e
          obtain ⟨j, y, rfl, hj, hy, hlt⟩ := firstBad_some ek
          obtain ⟨ss, hit, hln, hget⟩ := small_it (most := most) h er
          obtain ⟨t, ht, hty⟩ := hget j y hj
          have hv : (enumS 0 ss)[j]? = some [I j, t] := by
            rw [enumS_get, ht]; simp [VL.slOf]
          obtain ⟨ρ', ef⟩ := for_err (tg := [2, 3]) (b := w_check_small_row_0) (fun _ ρ => ∃ a b, ρ = [some s, some (I most), a, b]) (x := xLev j) hit j _ hv ⟨none, none, rfl⟩ (fun k v ρ hk hv2 ⟨a, b, e⟩ => by
            subst e
            obtain ⟨t2, ht2, rfl⟩ := enum_is hv2
            obtain ⟨t3, ht3, hty3⟩ := hget k _ (List.getElem?_eq_getElem (by have := (List.getElem?_eq_some_iff.mp hj).1; omega))
            rw [ht2] at ht3
            cases ht3
            refine ⟨_, .inl ((small_body hty3).trans (if_pos (hlt k _ hk (List.getElem?_eq_getElem _)))), _, _, rfl⟩) (fun ρ ⟨a, b, e⟩ => by
            subst e
            exact ⟨_, (small_body hty).trans (by rw [hy]; rfl)⟩)
          refine run_err [some s, some (I most), none, none] (small_top h er (by simp) hm (seq_e (ρ' := ρ') ?_))
          rw [Nat.zero_add]; exact ef
        · cases e
/-- a row of levels -/
def SmallOk (P : List Int) (most : Int) : Prop := P ≠ [] ∧ (P.length : Int) ≤ most ∧ ∀ x ∈ P, 0 ≤ x ∧ x ≤ 7
theorem check_small_row_o {s : Sl} {d : D} {most : Int} {P : List Int} (h : Is s d) (e : rowOf d = some (dI P)) (H : SmallOk P most) : φ_check_small_row [s, I most] = .ok (.ls (oI P)) := by
  obtain ⟨ss, hit, hln, hget⟩ := small_it (most := most) h e
  obtain ⟨ρ', ef, a, b, rfl⟩ := forL_n (tg := [2, 3]) (b := w_check_small_row_0) (vs := enumS 0 ss) (fun _ ρ => ∃ a b, ρ = [some s, some (I most), a, b]) (ρ := [some s, some (I most), none, none]) ⟨none, none, rfl⟩ (by
    rintro k v ρ hv ⟨a, b, rfl⟩
    obtain ⟨t, ht, rfl⟩ := enum_is hv
    have hk : k < P.length := by
      have := (List.getElem?_eq_some_iff.mp ht).1
      rw [hln, dI_len] at this; exact this
    obtain ⟨t3, ht3, hty⟩ := hget k (.int P[k]) (by rw [dI_get, List.getElem?_eq_getElem hk]; rfl)
    rw [ht] at ht3
    cases ht3
    have hr := H.2.2 P[k] (List.getElem_mem hk)
    exact ⟨_, .inl ((small_body hty).trans (if_pos (by simp [isNum, hr]))), _, _, rfl⟩)
  refine run_ret [some s, some (I most), none, none] (small_top h e ?_ (by rw [dI_len]; have := H.2.1; omega) (seq_n (for_n hit ef) (ret_v ?_)))
  · intro z
    have := congrArg List.length z
    rw [dI_len] at this
    exact H.1 (List.length_eq_zero_iff.mp this)
  · refine (un_v (ev_var rfl) (list_is h e (dI_scal P) 0)).trans ?_
    rw [oI_fz]
abbrev LevOk (P : List Int) : Prop := SmallOk P 12
theorem check_levels_e {s : Sl} {d : D} {x : Exn} (h : Is s d) (e : rowErr d 12 = some x) : φ_check_levels [s] = .err x :=
  run_err [some s] (ret_e (call_err (xs := [s.rv 0, .val (.fz (.int 12))]) (ev_cons (ev_var rfl) (ev_cons rfl rfl)) (check_small_row_e (h.arg 0) e)))
theorem check_levels_o {s : Sl} {d : D} {P : List Int} (h : Is s d) (e : rowOf d = some (dI P)) (H : LevOk P) : φ_check_levels [s] = .ok (.ls (oI P)) :=
  run_ret [some s] (ret_v (call_ok (xs := [s.rv 0, .val (.fz (.int 12))]) (ev_cons (ev_var rfl) (ev_cons rfl rfl)) (check_small_row_o (h.arg 0) e H)))
theorem check_number_D {s : Sl} {d : D} {lo hi : Int} {w : Str} (h : Is s d) : φ_check_number [s, I lo, I hi, .own (.fz (.str w))] = if isNum d lo hi = true then .ok (.fz .none) else .err (xNum w) := by
  have ec : eCall φ_is_number [eVar 0, eVar 1, eVar 2] [some s, some (I lo), some (I hi), some (.own (.fz (.str w)))] = .ok (.val (.fz (.bool (isNum d lo hi)))) :=
    call_ok (xs := [s.rv 0, .val (.fz (.int lo)), .val (.fz (.int hi))]) (ev_cons (ev_var rfl) (ev_cons rfl (ev_cons rfl rfl))) (is_number_D (h.arg 0) lo hi)
  cases hb : isNum d lo hi with
  | true =>
    rw [hb] at ec
    rw [if_pos rfl]
    exact run_next [some s, some (I lo), some (I hi), some (.own (.fz (.str w)))] (if_f (not_v (tb_v ec)) rfl)
  | false =>
    rw [hb] at ec
    rw [if_neg (by simp)]
    exact run_err [some s, some (I lo), some (I hi), some (.own (.fz (.str w)))] (if_t (not_v (tb_v ec)) (raise_v rfl rfl))
theorem SmallOk.len {P : List Int} {m : Int} (H : SmallOk P m) (hm : m ≤ 100) : P.length ≤ 100 := by have := H.2.1; omega
theorem bases_o {s : Sl} {d : D} {P : List Int} (h : Is s d) (e : rowOf d = some (dI P)) (H : LevOk P) : φ_bases [s] = .ok (.ls (oI (bsL P P.length))) := by
  have e1 : eCall φ_check_levels [eVar 0] [some s] = .ok (.val (.ls (oI P))) := call_ok (xs := [s.rv 0]) (ev_cons (ev_var rfl) rfl) (check_levels_o (h.arg 0) e H)
  refine run_ret [some s] (ret_v (call_ok (xs := [.val (.ls (oI P))]) (ev_cons e1 rfl) ?_))
  show φ_base_list [.own (.fz (Ow.ls (oI P)).toD)] = _
  rw [oI_toD]
  exact base_list_s (H.len (by decide))
theorem bases_e {s : Sl} {d : D} {x : Exn} (h : Is s d) (e : rowErr d 12 = some x) : φ_bases [s] = .err x :=
  run_err [some s] (ret_e (call_ae (ev_e (call_err (xs := [s.rv 0]) (ev_cons (ev_var rfl) rfl) (check_levels_e (h.arg 0) e)))))
theorem chain_e {s t : Sl} {d : D} {x : Exn} (h : Is s d) (e : rowErr d 12 = some x) (hs : s = .own (.fz d) ∨ s = .bor d) : φ_chain [s, t] = .err x := by
  rcases hs with rfl | rfl
  · exact run_err [_, some t] (seq_e (frz_n (set_e (call_err (xs := [.val (.fz d)]) (ev_cons rfl rfl) (check_levels_e (.inl rfl) e)))))
  · exact run_err [_, some t] (seq_e (frz_n (set_e (call_err (xs := [(Sl.bor d).rv 0]) (ev_cons rfl rfl) (check_levels_e ((Is.bor d).arg 0) e)))))
theorem future_e {s : Sl} {d : D} {x : Exn} (h : Is s d) (e : rowErr d 12 = some x) : φ_future_days [s] = .err x := by
  rcases h with rfl | rfl
  · exact run_err [_, none, none] (seq_e (frz_n (set_e (call_err (xs := [.val (.fz d)]) (ev_cons rfl rfl) (check_levels_e (.inl rfl) e)))))
  · exact run_err [_, none, none] (seq_e (frz_n (set_e (call_err (xs := [(Sl.bor d).rv 0]) (ev_cons rfl rfl) (check_levels_e ((Is.bor d).arg 0) e)))))
theorem chain_set {s t : Sl} {d : D} {P : List Int} (h : Is s d) (e : rowOf d = some (dI P)) (H : LevOk P) : (sFrz 0 (sSet 0 (eCall φ_check_levels [(eVar 0)]))) [some s, some t] = .next [some (.own (.ls (oI P))), some t] := by
  rcases h with rfl | rfl
  · exact frz_n (set_v (call_ok (xs := [.val (.fz d)]) (ev_cons rfl rfl) (check_levels_o (.inl rfl) e H)))
  · exact frz_n (set_v (call_ok (xs := [(Sl.bor d).rv 0]) (ev_cons rfl rfl) (check_levels_o ((Is.bor d).arg 0) e H)))
theorem chain_num {t : Sl} {g : D} {P : List Int} (ht : Is t g) : φ_check_number [(t.rv 1).arg, I 1, I P.length, .own (.fz (.str "day"))] = if isNum g 1 P.length = true then .ok (.fz .none) else .err (xNum "day") := check_number_D (ht.arg 1)
theorem chain_ev {t : Sl} {P : List Int} : VL.evalAll [(eVar 1), (eK (.int 1)), (eUn fLen (eVar 0)), (eK (.str "day"))] [some (.own (.ls (oI P))), some t] = .ok [t.rv 1, .val (.fz (.int 1)), .val (.fz (.int P.length)), .val (.fz (.str "day"))] :=
  ev_cons (ev_var rfl) (ev_cons rfl (ev_cons (un_v (x := .ref 0 [] (.ls (oI P))) rfl (len_I (isI_ref 0 [] P))) (ev_cons rfl rfl)))
theorem chain_n {s t : Sl} {d g : D} {P : List Int} (h : Is s d) (e : rowOf d = some (dI P)) (H : LevOk P) (ht : Is t g) (hg : isNum g 1 P.length = false) : φ_chain [s, t] = .err (xNum "day") := by
  refine run_err [some s, some t] (seq_n (chain_set h e H) (seq_e (ex_e (call_err chain_ev ?_))))
  exact (chain_num ht).trans (by rw [hg]; rfl)
theorem chain_o {s t : Sl} {d : D} {m : Nat} {P : List Int} (h : Is s d) (e : rowOf d = some (dI P)) (H : LevOk P) (ht : Is t (.int m)) (h1 : 1 ≤ m) (h2 : m ≤ P.length) : φ_chain [s, t] = .ok (.ls (oI (chI P m))) := by
  refine run_ret [some s, some t] (seq_n (chain_set h e H) (seq_n (ex_v (call_ok (ow := .fz .none) chain_ev ((chain_num ht).trans (if_pos ?_)))) (frz_n (ret_v (call_ok (xs := [.val (.ls (oI (bsL P P.length))), .val (.fz (.int m))]) (ev_cons (call_ok (xs := [.val (.fz (.list (dI P)))]) (ev_cons ?_ rfl) ?_) (ev_cons ?_ rfl)) ?_)))))
  · show (decide ((1 : Int) ≤ m) && decide ((m : Int) ≤ P.length)) = true
    simp; omega
  · simp [VL.eVar, VL.frzSl, VL.Sl.rv, oI_toD]
  · exact base_list_s (H.len (by decide))
  · rw [ev_var (s := t) rfl, ht.intv]
  · show φ_chain_of [.own (.fz (Ow.ls (oI (bsL P P.length))).toD), .own (.fz (.int m))] = _
    rw [oI_toD]
    exact chain_of_s h2 (H.len (by decide))
end PR

set_option Elab.async false
set_option linter.all false
set_option maxRecDepth 100000
set_option maxHeartbeats 4000000
namespace PR
open PySem VL
theorem cell_s (ns : List Int) (k : Nat) : ∃ z, φ__law_cell_k40 [scr ns, .own (.fz (.int k))] = .ok (.fz (.int z)) := by
  have e1 : fLen (.val (.fz (.list (dI ns)))) = .ok (.val (.fz (.int ns.length))) := len_I (isI_fz ns)
  by_cases h : k < ns.length
  · have e3 : ns[k]? = some ns[k] := List.getElem?_eq_getElem h
    have t1 : VL.tB (eBin fLt (eVar 1) (eUn fLen (eVar 0))) [some (scr ns), some (.own (.fz (.int k)))] = .ok true := by
      have : (k : Int) < ns.length := by omega
      simp [VL.runBody, VL.sSeq, VL.sIf, VL.sRet, VL.sSet, VL.sFrz, VL.frzSl, VL.sUnp, VL.RV.parts, VL.sFor, VL.sApp, VL.sPass, VL.putAt, VL.Ow.put, VL.eVar, VL.Sl.rv, VL.eK, VL.rD, VL.eUn, VL.eBin, VL.eCall, VL.evalAll, VL.RV.arg, VL.Res.bind, VL.RV.d, VL.Ow.toD, VL.tB, VL.tAnd, VL.tOr, VL.tNot, VL.tYes, VL.eAnd, VL.eOr, VL.fNot, VL.eIf, VL.eChain, VL.fNeg, VL.fIsN, VL.fNotN, VL.isN, VL.fIsI, VL.fIsIs, VL.inst, VL.setAll, VL.RV.ow, VL.owsOf, VL.eLst, VL.eTup, VL.iRow, VL.iRng1, VL.iRng2, VL.iEnum, VL.RV.iter, VL.slOf, VL.mul_r, VL.mul_l, VL.mod_s, VL.div_s, VL.add_s, VL.sub_s, VL.int_s, VL.lt_s, VL.le_s, VL.gt_s, VL.ge_s, VL.fEq_int, VL.fNe_int, e1, this]
    refine ⟨ns[k], ?_⟩
    refine run_ret _ ?_
    exact seq_r (if_t t1 (ret_v (bin_v rfl rfl (ix_I (by omega) (by rw [Int.toNat_natCast]; exact e3)))))
  · have t1 : VL.tB (eBin fLt (eVar 1) (eUn fLen (eVar 0))) [some (scr ns), some (.own (.fz (.int k)))] = .ok false := by
      have : ¬ (k : Int) < ns.length := by omega
      simp [VL.runBody, VL.sSeq, VL.sIf, VL.sRet, VL.sSet, VL.sFrz, VL.frzSl, VL.sUnp, VL.RV.parts, VL.sFor, VL.sApp, VL.sPass, VL.putAt, VL.Ow.put, VL.eVar, VL.Sl.rv, VL.eK, VL.rD, VL.eUn, VL.eBin, VL.eCall, VL.evalAll, VL.RV.arg, VL.Res.bind, VL.RV.d, VL.Ow.toD, VL.tB, VL.tAnd, VL.tOr, VL.tNot, VL.tYes, VL.eAnd, VL.eOr, VL.fNot, VL.eIf, VL.eChain, VL.fNeg, VL.fIsN, VL.fNotN, VL.isN, VL.fIsI, VL.fIsIs, VL.inst, VL.setAll, VL.RV.ow, VL.owsOf, VL.eLst, VL.eTup, VL.iRow, VL.iRng1, VL.iRng2, VL.iEnum, VL.RV.iter, VL.slOf, VL.mul_r, VL.mul_l, VL.mod_s, VL.div_s, VL.add_s, VL.sub_s, VL.int_s, VL.lt_s, VL.le_s, VL.gt_s, VL.ge_s, VL.fEq_int, VL.fNe_int, e1, this]
    by_cases h0 : ns.length = 0
    · have t2 : VL.tB (eBin fEq (eUn fLen (eVar 0)) (eK (.int 0))) [some (scr ns), some (.own (.fz (.int k)))] = .ok true := by
        unfold VL.tB
        rw [bin_v (un_v rfl e1) rfl (fEq_int _ _), h0]
        rfl
      refine ⟨7919 * k, ?_⟩
      refine run_ret _ ?_
      exact seq_n (if_f t1 rfl) (seq_r (if_t t2 (ret_v (bin_v rfl rfl (mul_l _ _ (by decide))))))
    · have t2 : VL.tB (eBin fEq (eUn fLen (eVar 0)) (eK (.int 0))) [some (scr ns), some (.own (.fz (.int k)))] = .ok false := by
        unfold VL.tB
        rw [bin_v (un_v rfl e1) rfl (fEq_int _ _)]
        have : ¬ (ns.length : Int) = 0 := by omega
        simp [VL.Res.bind, RV.d, Ow.toD, this]
        intro z; rw [z] at h0; exact h0 rfl
      have p0 : (0 : Int) < ns.length := by omega
      have b1 := Int.emod_nonneg (k : Int) (show (ns.length : Int) ≠ 0 by omega)
      have b2 := Int.emod_lt_of_pos (k : Int) p0
      have e3 : ns[((k : Int) % ns.length).toNat]? = some (ns[((k : Int) % ns.length).toNat]'(by omega)) := List.getElem?_eq_getElem (by omega)
      refine ⟨(ns[((k : Int) % ns.length).toNat]'(by omega)) % 1000003 + 7919 * k, ?_⟩
      refine run_ret _ ?_
      exact seq_n (if_f t1 rfl) (seq_n (if_f t2 rfl) (ret_v (bin_v (bin_v (un_v (bin_v rfl (bin_v (un_v rfl (int_s _)) (un_v rfl e1) (mod_s _ _ p0)) (ix_I b1 e3)) (int_s _)) rfl (mod_s _ _ (by decide))) (bin_v rfl rfl (mul_l _ _ (by decide))) (add_s _ _))))
theorem row_s' (cell size : Int) (count : Nat) (h0 : 0 < size) (h1 : size < 1073741824) (hc : count ≤ 1000) :
    ∃ L, φ__law_row_k40 [.own (.fz (.int cell)), .own (.fz (.int count)), .own (.fz (.int size))] = .ok (.ls (oI L)) ∧ L.length = count ∧ In size L := by
  obtain ⟨ρ', e, L, r, a, b, rfl, hL, hI⟩ := forL_n (tg := [5]) (b := w__law_row_k40_0) (vs := rangeS 0 count) (fun k ρ => ∃ L r a b, ρ = [some (.own (.fz (.int cell))), some (.own (.fz (.int count))), some (.own (.fz (.int size))), some (.own (.ls (oI L))), some (.own (.fz (.int r))), a, b] ∧ L.length = k ∧ In size L)
    (ρ := [some (.own (.fz (.int cell))), some (.own (.fz (.int count))), some (.own (.fz (.int size))), some (.own (.ls [])), some (.own (.fz (.int cell))), none, none]) ⟨[], cell, none, none, rfl, rfl, fun _ h => by cases h⟩ (by
    rintro k v ρ hv ⟨L, r, a, b, rfl, hL, hI⟩
    obtain ⟨rfl, hk⟩ := rangeS_get hv
    have hk' : k < count := by omega
    by_cases hb : 10 ^ 18 ≤ cell
    · refine ⟨_, .inl (if_t ?_ (seq_n (app_s (ow := .fz (.int (r % size))) (xs := oI L) rfl ?_ rfl (by rw [oI_len]; omega)) (set_v (bin_v rfl rfl (div_s r size ⟨h0, h1⟩))))), L ++ [r % size], r / size, some (.own (.fz (.int (0 + (k : Nat))))), b, ?_, by simp [hL], hI.app (Int.emod_nonneg _ (by omega)) (Int.emod_lt_of_pos _ h0)⟩
      · have h2 : (1000000000000000000 : Int) ≤ cell := by omega
        simp [VL.runBody, VL.sSeq, VL.sIf, VL.sRet, VL.sSet, VL.sFrz, VL.frzSl, VL.sUnp, VL.RV.parts, VL.sFor, VL.sApp, VL.sPass, VL.putAt, VL.Ow.put, VL.eVar, VL.Sl.rv, VL.eK, VL.rD, VL.eUn, VL.eBin, VL.eCall, VL.evalAll, VL.RV.arg, VL.Res.bind, VL.RV.d, VL.Ow.toD, VL.tB, VL.tAnd, VL.tOr, VL.tNot, VL.tYes, VL.eAnd, VL.eOr, VL.fNot, VL.eIf, VL.eChain, VL.fNeg, VL.fIsN, VL.fNotN, VL.isN, VL.fIsI, VL.fIsIs, VL.inst, VL.setAll, VL.RV.ow, VL.owsOf, VL.eLst, VL.eTup, VL.iRow, VL.iRng1, VL.iRng2, VL.iEnum, VL.RV.iter, VL.slOf, VL.mul_r, VL.mul_l, VL.mod_s, VL.div_s, VL.add_s, VL.sub_s, VL.int_s, VL.lt_s, VL.le_s, VL.gt_s, VL.ge_s, VL.fEq_int, VL.fNe_int, VL.fPow, h2]
      · exact bin_v (un_v rfl (int_s r)) rfl (mod_s r size h0)
      · rw [oI_app]; rfl
    · obtain ⟨m1, em1⟩ : ∃ m1, (eBin fMod (eUn fInt (eBin fAdd (eBin fAdd (eBin fMul (eBin fMod (eUn fInt (eVar 0)) (eK (.int 2147483647))) (eK (.int 48271))) (eBin fMul (eVar 5) (eK (.int 69621)))) (eK (.int 11)))) (eK (.int 2147483647)))
          [some (.own (.fz (.int cell))), some (.own (.fz (.int count))), some (.own (.fz (.int size))), some (.own (.ls (oI L))), some (.own (.fz (.int r))), some (.own (.fz (.int (0 + (k : Nat))))), b] = .ok (.val (.fz (.int m1))) ∧ 0 ≤ m1 ∧ m1 < 2147483647 := by
        refine ⟨_, bin_v (un_v (bin_v (bin_v (bin_v (bin_v (un_v rfl (int_s _)) rfl (mod_s _ _ (by decide))) rfl (mul_r _ _ (by decide))) (bin_v rfl rfl (mul_r _ _ (by decide))) (add_s _ _)) rfl (add_s _ _)) (int_s _)) rfl (mod_s _ _ (by decide)), Int.emod_nonneg _ (by decide), Int.emod_lt_of_pos _ (by decide)⟩
      obtain ⟨m2, em2⟩ : ∃ m2, (eBin fMod (eUn fInt (eBin fAdd (eBin fAdd (eBin fMul (eVar 6) (eVar 6)) (eBin fMul (eK (.int 13)) (eVar 5))) (eK (.int 5)))) (eK (.int 2147483629)))
          [some (.own (.fz (.int cell))), some (.own (.fz (.int count))), some (.own (.fz (.int size))), some (.own (.ls (oI L))), some (.own (.fz (.int r))), some (.own (.fz (.int (0 + (k : Nat))))), some (.own (.fz (.int m1)))] = .ok (.val (.fz (.int m2))) ∧ 0 ≤ m2 ∧ m2 < 2147483629 := by
        exact ⟨_, bin_v (un_v (bin_v (bin_v (bin_v rfl rfl (mul_r _ _ (by omega))) (bin_v rfl rfl (mul_l _ _ (by decide))) (add_s _ _)) rfl (add_s _ _)) (int_s _)) rfl (mod_s _ _ (by decide)), Int.emod_nonneg _ (by decide), Int.emod_lt_of_pos _ (by decide)⟩
      refine ⟨_, .inl (if_f ?_ (seq_n (set_v em1.1) (seq_n (set_v em2.1) (app_s (ow := .fz (.int ((m2 * (m2 + 7) + (0 + (k : Int))) % 2147483587 % size))) (xs := oI L) rfl ?_ rfl (by rw [oI_len]; omega))))), L ++ [(m2 * (m2 + 7) + (0 + (k : Int))) % 2147483587 % size], r, some (.own (.fz (.int (0 + (k : Nat))))), some (.own (.fz (.int m2))), ?_, by simp [hL], hI.app (Int.emod_nonneg _ (by omega)) (Int.emod_lt_of_pos _ h0)⟩
      · have h2' : ¬ (1000000000000000000 : Int) ≤ cell := by omega
        simp [VL.runBody, VL.sSeq, VL.sIf, VL.sRet, VL.sSet, VL.sFrz, VL.frzSl, VL.sUnp, VL.RV.parts, VL.sFor, VL.sApp, VL.sPass, VL.putAt, VL.Ow.put, VL.eVar, VL.Sl.rv, VL.eK, VL.rD, VL.eUn, VL.eBin, VL.eCall, VL.evalAll, VL.RV.arg, VL.Res.bind, VL.RV.d, VL.Ow.toD, VL.tB, VL.tAnd, VL.tOr, VL.tNot, VL.tYes, VL.eAnd, VL.eOr, VL.fNot, VL.eIf, VL.eChain, VL.fNeg, VL.fIsN, VL.fNotN, VL.isN, VL.fIsI, VL.fIsIs, VL.inst, VL.setAll, VL.RV.ow, VL.owsOf, VL.eLst, VL.eTup, VL.iRow, VL.iRng1, VL.iRng2, VL.iEnum, VL.RV.iter, VL.slOf, VL.mul_r, VL.mul_l, VL.mod_s, VL.div_s, VL.add_s, VL.sub_s, VL.int_s, VL.lt_s, VL.le_s, VL.gt_s, VL.ge_s, VL.fEq_int, VL.fNe_int, VL.fPow, h2']
      · exact bin_v (bin_v (un_v (bin_v (bin_v rfl (bin_v rfl rfl (add_s _ _)) (mul_r _ _ (by omega))) rfl (add_s _ _)) (int_s _)) rfl (mod_s _ _ (by decide))) rfl (mod_s _ size h0)
      · rw [oI_app]; rfl)
  refine ⟨L, ?_, ?_, hI⟩
  · refine run_ret _ ?_
    exact seq_n (set_v rfl) (seq_n (set_v rfl) (seq_n (for_n (rng1_s (n := count) rfl (by omega) (by omega)) e) rfl))
  · rw [hL, rangeS_len]; omega
theorem slice_fz {a hi : EC} {ρ : Rho} {ds : List D} {h : Int} (ha : a ρ = .ok (.val (.fz (.list ds)))) (hh : hi ρ = .ok (.val (.fz (.int h)))) (h0 : 0 ≤ h) : eSlice a none (some hi) ρ = .ok (.val (.ls ((ds.take h.toNat).map Ow.fz))) := by
  have cut : cutL (ds.map Ow.fz) none (some h) = (ds.take h.toNat).map Ow.fz := by
    unfold cutL HT.sIx
    simp only [List.length_map, List.drop_zero]
    rw [if_neg (by omega), List.map_take, Nat.sub_zero]
    rcases Nat.lt_or_ge h.toNat ds.length with q | q
    · rw [Nat.min_eq_left (by omega)]
    · rw [Nat.min_eq_right q, List.take_of_length_le (by simp), List.take_of_length_le (by simpa using q)]
  unfold eSlice
  rw [ha]
  show ((hi ρ).bind _).bind _ = _
  rw [hh]
  show Res.ok (RV.val (.ls (cutL (ds.map Ow.fz) none (some h)))) = _
  rw [cut]
end PR

set_option Elab.async false
set_option linter.all false
set_option maxRecDepth 100000
set_option maxHeartbeats 4000000
namespace PR
open PySem VL
/-! shared helpers of the family k40 .. k55 -/
def isInt : D → Bool
  | .int _ => true
  | _ => false
theorem law_num_D {s : Sl} {d : D} (h : Is s d) : φ__law_is_number_k40 [s] = .ok (.fz (.bool (isInt d))) := by
  cases d <;> rcases h with rfl | rfl <;> rfl
theorem lnum_call {a : EC} {ρ : Rho} {n : Int} (ha : a ρ = .ok (.val (.fz (.int n)))) : eCall φ__law_is_number_k40 [a] ρ = .ok (.val (.fz (.bool true))) :=
  call_ok (xs := [.val (.fz (.int n))]) (ev_cons ha rfl) (law_num_D (.inl rfl))
theorem are_numbers_o {s : Sl} {L : List Int} (h : Is s (.list (dI L))) (hl : L.length ≤ 1000) : φ__law_are_numbers_k40 [s, Lx L] = .ok (.fz (.bool true)) := by
  have el : ∀ a, (eUn fLen (eVar 0)) [some s, some (Lx L), a] = .ok (.val (.fz (.int L.length))) := fun a => un_v (ev_var rfl) (h.lenI 0)
  have em : ∀ a, (eUn fLen (eVar 1)) [some s, some (Lx L), a] = .ok (.val (.fz (.int L.length))) := fun a => un_v rfl (len_I (isI_fz L))
  refine run_ret [some s, some (Lx L), none] (seq_n (if_f (or_f ?_ (nF rfl (ne_t (el _) (em _)))) rfl) (for_ok (rng1_of (em _) hl) (fun v hv w hw => ?_) fun v hv => ?_))
  · refine (not_v (tb_v (b := true) (un_v (ev_var rfl) ?_)))
    show rD (.bool (inst (s.rv 0).d .list)) = _
    rw [h.rvd]; rfl
  · obtain ⟨k, rfl, hk⟩ := mem_rangeS0 hv
    obtain ⟨j, rfl, hj⟩ := mem_rangeS0 hw
    rfl
  · obtain ⟨k, rfl, hk⟩ := mem_rangeS0 hv
    have hx : L[(k : Int).toNat]? = some L[k] := by rw [Int.toNat_natCast]; exact List.getElem?_eq_getElem hk
    have e1 : (eBin fIx (eVar 0) (eVar 2)) [some s, some (Lx L), some (I k)] = .ok (.val (.fz (.int L[k]))) := bin_v (ev_var rfl) rfl (h.ixI 0 (by omega) hx)
    have e2 : (eBin fIx (eVar 1) (eVar 2)) [some s, some (Lx L), some (I k)] = .ok (.val (.fz (.int L[k]))) := bin_v rfl rfl (ix_I (by omega) hx)
    exact if_f (or_f (not_v (tb_v (lnum_call e1))) (nF rfl (ne_t e1 e2))) rfl
end PR
namespace K40
open PySem VL PR
/-! ### refusals -/
abbrev CL : List HCl2 := [⟨"BadLevels", 3, (hsLet 3 4 (hAnd (hNot (hIs esub "TooMany")) (hNot (hIs esub "BadNumber"))) (hsRetT [(fun _ _ => some (.str "levels")), (hFld ecls "at"), (hAnd (hVar 4) (hAnd (hCall φ__law_is_number_k40 (hFld ecls "at")) (hAnd (hIs esub "VaultError") (hIs esub "ValueError"))))]))⟩, ⟨"TooMany", 3, (hsRetT [(fun _ _ => some (.str "many")), (hFld ecls "limit"), (hAnd (hCall φ__law_is_number_k40 (hFld ecls "limit")) (hAnd (hNot (hIs esub "BadNumber")) (hIs esub "VaultError")))])⟩, ⟨"BadNumber", 3, (hsRetT [(fun _ _ => some (.str "number")), (hFld ecls "what"), (hIs esub "VaultError")])⟩]
theorem run_lev (k : Int) (a b c d e : Option Sl) : hRun2 esub CL (xLev k) [a, b, c, d, e] = .ret (.fz (.tuple [.str "levels", .int k, .bool true])) := by kernel_rfl
theorem run_many (k : Int) (a b c d e : Option Sl) : hRun2 esub CL (xMany k) [a, b, c, d, e] = .ret (.fz (.tuple [.str "many", .int k, .bool true])) := by kernel_rfl
theorem run_num (a b c d e : Option Sl) : hRun2 esub CL (xNum "day") [a, b, c, d, e] = .ret (.fz (.tuple [.str "number", .str "day", .bool true])) := by kernel_rfl
theorem four {k : Int} (hk : k = 0 ∨ k = 1 ∨ k = 2 ∨ k = 3) {q : Int → Prop} (h0 : q 0) (h1 : q 1) (h2 : q 2) (h3 : q 3) : q k := by rcases hk with rfl | rfl | rfl | rfl <;> assumption
theorem refusal_e {s t : Sl} {d T : D} {x : Exn} (h : Is s d) (e : rowErr d 12 = some x) (hr : ∀ a b c d e, hRun2 esub CL x [a, b, c, d, e] = .ret (.fz T)) {k : Int} (hk : k = 0 ∨ k = 1 ∨ k = 2 ∨ k = 3) : φ__law_refusal [I k, s, t] = .ok (.fz T) := by
  have h1 := h.arg 1
  refine run_ret [some (I k), some s, some t, none, none] (seq_r (try_e (x := x) (ρ' := [some (I k), some s, some t, none, none]) ?_ (hr _ _ _ _ _)))
  refine four (q := fun k => (sIf (tB (eBin fEq (eVar 0) (eK (.int 0)))) (sEx (eCall φ_check_levels [(eVar 1)])) (sIf (tB (eBin fEq (eVar 0) (eK (.int 1)))) (sEx (eCall φ_bases [(eVar 1)])) (sIf (tB (eBin fEq (eVar 0) (eK (.int 2)))) (sEx (eCall φ_chain [(eVar 1), (eVar 2)])) (sEx (eCall φ_future_days [(eVar 1)]))))) [some (I k), some s, some t, none, none] = .err x [some (I k), some s, some t, none, none]) hk ?_ ?_ ?_ ?_
  · exact if_t (dT rfl (eq_t rfl rfl)) (ex_e (call_err (xs := [s.rv 1]) (ev_cons (ev_var rfl) rfl) (check_levels_e h1 e)))
  · exact if_f (dF (by decide) (eq_t rfl rfl)) (if_t (dT rfl (eq_t rfl rfl)) (ex_e (call_err (xs := [s.rv 1]) (ev_cons (ev_var rfl) rfl) (bases_e h1 e))))
  · exact if_f (dF (by decide) (eq_t rfl rfl)) (if_f (dF (by decide) (eq_t rfl rfl)) (if_t (dT rfl (eq_t rfl rfl)) (ex_e (call_err (xs := [s.rv 1, t.rv 2]) (ev_cons (ev_var rfl) (ev_cons (ev_var rfl) rfl)) (chain_e h1 e h1)))))
  · exact if_f (dF (by decide) (eq_t rfl rfl)) (if_f (dF (by decide) (eq_t rfl rfl)) (if_f (dF (by decide) (eq_t rfl rfl)) (ex_e (call_err (xs := [s.rv 1]) (ev_cons (ev_var rfl) rfl) (future_e h1 e)))))
theorem refusal_n {s t : Sl} {d g : D} {P : List Int} (h : Is s d) (e : rowOf d = some (dI P)) (H : LevOk P) (ht : Is t g) (hg : isNum g 1 P.length = false) : φ__law_refusal [I 2, s, t] = .ok (.fz (.tuple [.str "number", .str "day", .bool true])) := by
  refine run_ret [some (I 2), some s, some t, none, none] (seq_r (try_e (x := xNum "day") (ρ' := [some (I 2), some s, some t, none, none]) ?_ (run_num _ _ _ _ _)))
  exact if_f (dF (by decide) (eq_t rfl rfl)) (if_f (dF (by decide) (eq_t rfl rfl)) (if_t (dT rfl (eq_t rfl rfl)) (ex_e (call_err (xs := [s.rv 1, t.rv 2]) (ev_cons (ev_var rfl) (ev_cons (ev_var rfl) rfl)) (chain_n (h.arg 1) e H (ht.arg 2) hg)))))
theorem refused_e {s t u : Sl} {d T : D} {x : Exn} (h : Is s d) (e : rowErr d 12 = some x) (hr : ∀ a b c d e, hRun2 esub CL x [a, b, c, d, e] = .ret (.fz T)) (hT : SeqAt.shaped T = true) (hu : Is u T) : φ__law_refused [s, t, u] = .ok (.fz (.bool true)) := by
  refine run_ret [some s, some t, some u, none] (for_ok (rng1_of (n := 4) rfl (by decide)) (fun v hv w hw => ?_) fun v hv => ?_)
  · obtain ⟨k, rfl, hk⟩ := mem_rangeS0 hv
    obtain ⟨j, rfl, hj⟩ := mem_rangeS0 hw
    rfl
  · obtain ⟨k, rfl, hk⟩ := mem_rangeS0 hv
    have e1 := refusal_e (s := (s.rv 0).arg) (t := (t.rv 1).arg) (h.arg 0) e hr (k := k) (by omega)
    refine if_f (tb_v (bin_v (call_ok (xs := [.val (.fz (.int k)), s.rv 0, t.rv 1]) (ev_cons rfl (ev_cons (ev_var rfl) (ev_cons (ev_var rfl) rfl))) e1) (ev_var rfl) (fNe_self ?_ ?_))) rfl
    · rw [hu.rvd]; rfl
    · rw [hu.rvd]; exact hT
/-! ### bases, chains -/
theorem ixL {s : Sl} {P : List Int} (h : Is s (.list (dI P))) (i : Nat) {k : Int} {j : Nat} (hj : j < P.length) (e : k = j) : fIx (s.rv i) (.val (.fz (.int k))) = .ok (.val (.fz (.int (P.getD j 0)))) := by
  subst e
  exact h.ixI i (by omega) (by rw [Int.toNat_natCast]; exact getD_ix hj)
theorem is_base_o {s t u : Sl} {P : List Int} {d : Nat} (h : Is s (.list (dI P))) (ht : Is t (.int d)) (hu : Is u (.int (base P d))) (h1 : 1 ≤ d) (h2 : d ≤ P.length) (hl : P.length ≤ 100) : φ__law_is_base [s, t, u] = .ok (.fz (.bool true)) := by
  have bl := base_lt P (d := d) (by omega)
  have e1 : ∀ {a}, eVar 1 [some s, some t, some u, a] = .ok (.val (.fz (.int d))) := fun {a} => by rw [ev_var (s := t) rfl, ht.intv]
  have e2 : ∀ {a}, eVar 2 [some s, some t, some u, a] = .ok (.val (.fz (.int (base P d)))) := fun {a} => by rw [ev_var (s := u) rfl, hu.intv]
  have x1 : ∀ {a}, (eBin fIx (eVar 0) (eBin fSub (eVar 1) (eK (.int 1)))) [some s, some t, some u, a] = .ok (.val (.fz (.int (lv P d)))) := fun {a} => bin_v (ev_var rfl) (bin_v e1 rfl (sub_s _ _)) (ixL h 0 (j := d - 1) (by omega) (by omega))
  refine run_ret [some s, some t, some u, none] (seq_n (if_f (or_f (not_v (tb_v (lnum_call e2))) (or_f (dF (by omega) (lt_t e2 rfl)) (dF (by omega) (ge_t e2 e1)))) rfl) (seq_n (if_f ?_ rfl) (for_ok (rng2_s (m := base P d + 1) (n := d) (bin_v e2 rfl (add_s _ _)) e1 (by omega) (by omega) (by omega) (by omega)) (fun v hv w hw => ?_) fun v hv => ?_)))
  · by_cases hb : base P d = 0
    · exact and_f (dF (by omega) (gt_t e2 rfl))
    · refine and_t (dT (by omega) (gt_t e2 rfl)) (dF ?_ (ge_t (bin_v (ev_var rfl) (bin_v e2 rfl (sub_s _ _)) (ixL h 0 (j := base P d - 1) (by omega) (by omega))) x1))
      have := bs_lt P (lv P d) (d - 1) (by unfold base at hb; exact hb)
      unfold base
      show ¬ lv P d ≤ lv P (bs P (lv P d) (d - 1))
      omega
  · obtain ⟨k, rfl, hk⟩ := mem_rangeS hv
    obtain ⟨j, rfl, hj⟩ := mem_rangeS hw
    rfl
  · obtain ⟨k, rfl, hk⟩ := mem_rangeS hv
    have hk' : base P d + 1 + k < d := by omega
    refine if_f (dF ?_ (lt_t (bin_v (ev_var rfl) (bin_v rfl rfl (sub_s _ _)) (ixL h 0 (j := base P d + k) (by omega) (by omega))) x1)) rfl
    have := bs_max P (lv P d) (d - 1) (base P d + k + 1) (by unfold base; omega) (by omega)
    show ¬ lv P (base P d + k + 1) < lv P d
    omega
theorem isbase_call {s : Sl} {P : List Int} {d : Nat} {a b : EC} {ρ : Rho} {bb : Nat} (h : Is s (.list (dI P))) (h0 : ρ[0]? = some (some s)) (ha : a ρ = .ok (.val (.fz (.int d)))) (hb : b ρ = .ok (.val (.fz (.int bb)))) (e : bb = base P d) (h1 : 1 ≤ d) (h2 : d ≤ P.length) (hl : P.length ≤ 100) :
    eCall φ__law_is_base [eVar 0, a, b] ρ = .ok (.val (.fz (.bool true))) := by
  subst e
  exact call_ok (xs := [s.rv 0, .val (.fz (.int d)), .val (.fz (.int (base P d)))]) (ev_cons (ev_var h0) (ev_cons ha (ev_cons hb rfl))) (is_base_o (h.arg 0) (.inl rfl) (.inl rfl) h1 h2 hl)
theorem isl_v {s : Sl} {L : List Int} {a : EC} {ρ : Rho} (i : Nat) (h : Is s (.list (dI L))) (ha : a ρ = .ok (s.rv i)) : VL.tNot (VL.tB (eUn (fIsI .list) a)) ρ = .ok false := by
  refine not_v (tb_v (b := true) (un_v ha ?_))
  show rD (.bool (inst (s.rv i).d .list)) = _
  rw [h.rvd]; rfl
theorem bases_fit_o {s u : Sl} {P : List Int} (h : Is s (.list (dI P))) (hu : Is u (.list (dI (bsL P P.length)))) (hl : P.length ≤ 100) : φ__law_bases_fit [s, u] = .ok (.fz (.bool true)) := by
  have el : ∀ a, (eUn fLen (eVar 0)) [some s, some u, a] = .ok (.val (.fz (.int P.length))) := fun a => un_v (ev_var rfl) (h.lenI 0)
  have em : ∀ a, (eUn fLen (eVar 1)) [some s, some u, a] = .ok (.val (.fz (.int (bsL P P.length).length))) := fun a => un_v (ev_var rfl) (hu.lenI 1)
  refine run_ret [some s, some u, none] (seq_n (if_f (or_f (isl_v 1 hu (ev_var rfl)) (nF (by rw [bsL_len]) (ne_t (em _) (el _)))) rfl) (for_ok (rng1_of (el _) (by omega)) (fun v hv w hw => ?_) fun v hv => ?_))
  · obtain ⟨k, rfl, hk⟩ := mem_rangeS0 hv
    obtain ⟨j, rfl, hj⟩ := mem_rangeS0 hw
    rfl
  · obtain ⟨k, rfl, hk⟩ := mem_rangeS0 hv
    refine if_f (not_v (tb_v (isbase_call (d := k + 1) (bb := base P (k + 1)) h rfl (bin_v rfl rfl (add_s _ _)) (bin_v (ev_var rfl) rfl (hu.ixI 1 (by omega) ?_)) rfl (by omega) (by omega) hl))) rfl
    rw [Int.toNat_natCast]; exact bsL_get hk
/-- a chain's links -/
theorem chn_links (P : List Int) : ∀ d : Nat, ∀ (j x : Nat), (chn P d)[j]? = some x → 1 ≤ x ∧ x ≤ d ∧ base P x = (if j = 0 then 0 else (chn P d).getD (j - 1) 0) ∧ (j + 1 = (chn P d).length → x = d) := by
  intro d
  induction d using Nat.strongRecOn with
  | ind d ih =>
    intro j x hx
    by_cases hd : d = 0
    · subst hd
      have : chn P 0 = [] := rfl
      rw [this] at hx
      simp at hx
    · have hb := base_lt P (d := d) (by omega)
      have e := chn_eq P (d := d) (by omega)
      rw [e] at hx
      by_cases hj : j < (chn P (base P d)).length
      · rw [List.getElem?_append_left hj] at hx
        obtain ⟨a1, a2, a3, a4⟩ := ih _ hb j x hx
        refine ⟨a1, by omega, ?_, fun hlen => ?_⟩
        · rw [a3, e]
          by_cases j0 : j = 0
          · simp [j0]
          · simp only [j0, if_false, List.getD_eq_getElem?_getD]
            rw [List.getElem?_append_left (by omega)]
        · rw [e, List.length_append, List.length_singleton] at hlen; omega
      · rw [List.getElem?_append_right (by omega)] at hx
        have j1 : j = (chn P (base P d)).length := by
          have := (List.getElem?_eq_some_iff.mp hx).1
          simp at this; omega
        rw [j1, Nat.sub_self] at hx
        simp at hx
        subst hx
        refine ⟨by omega, Nat.le_refl _, ?_, fun _ => rfl⟩
        rw [e]
        by_cases j0 : j = 0
        · rw [if_pos j0]
          by_cases hb0 : base P d = 0
          · exact hb0
          · have := chn_eq P (d := base P d) (by omega)
            have l := congrArg List.length this
            simp at l; omega
        · rw [if_neg j0, List.getD_eq_getElem?_getD, List.getElem?_append_left (by omega)]
          have hlt : j - 1 < (chn P (base P d)).length := by omega
          have ex : (chn P (base P d))[j - 1]? = some (chn P (base P d))[j - 1] := List.getElem?_eq_getElem hlt
          have := (ih _ hb (j - 1) _ ex).2.2.2 (by omega)
          rw [ex, Option.getD_some, this]
theorem chI_get {P : List Int} {m j : Nat} {x : Int} (h : (chI P m)[j]? = some x) : ∃ n : Nat, x = n ∧ (chn P m)[j]? = some n := by
  unfold chI at h
  rw [List.getElem?_map] at h
  cases e : (chn P m)[j]? with
  | none => rw [e] at h; cases h
  | some n => rw [e] at h; cases h; exact ⟨n, rfl, rfl⟩
theorem chain_fits_o {s t u : Sl} {P : List Int} {m : Nat} (h : Is s (.list (dI P))) (ht : Is t (.int m)) (hu : Is u (.list (dI (chI P m)))) (h1 : 1 ≤ m) (h2 : m ≤ P.length) (hl : P.length ≤ 100) : φ__law_chain_fits [s, t, u] = .ok (.fz (.bool true)) := by
  have el : ∀ {a b}, (eUn fLen (eVar 0)) [some s, some t, some u, a, b] = .ok (.val (.fz (.int P.length))) := fun {a b} => un_v (ev_var rfl) (h.lenI 0)
  have em : ∀ {a b}, (eUn fLen (eVar 2)) [some s, some t, some u, a, b] = .ok (.val (.fz (.int (chI P m).length))) := fun {a b} => un_v (ev_var rfl) (hu.lenI 2)
  have cl := chI_len P m
  have cne : chn P m ≠ [] := by rw [chn_eq P (by omega)]; simp
  have cln : (chI P m).length = (chn P m).length := by unfold chI; simp
  obtain ⟨ss, hss, hln, hget⟩ := hu.iter rfl 2
  have it : iRow (eVar 2) [some s, some t, some u, some (I 0), none] = .ok (ss.map fun s => [s]) := by
    unfold iRow
    rw [ev_var (s := u) rfl]
    show (match (u.rv 2).iter with | some ss => Res.ok (ss.map fun s => [s]) | none => .stuck) = _
    rw [hss]
  obtain ⟨ρ', ef, b, rfl⟩ := forL_n (tg := [4]) (b := w__law_chain_fits_0) (vs := ss.map fun s => [s]) (fun j ρ => ∃ b, ρ = [some s, some t, some u, some (I (if j = 0 then (0 : Nat) else (chn P m).getD (j - 1) 0 : Nat)), b]) (ρ := [some s, some t, some u, some (I 0), none]) ⟨none, rfl⟩ (by
    rintro j v ρ hv ⟨b, rfl⟩
    rw [List.getElem?_map] at hv
    cases es : ss[j]? with
    | none => rw [es] at hv; cases hv
    | some y =>
      rw [es] at hv; cases hv
      have hj : j < (chI P m).length := by
        have := (List.getElem?_eq_some_iff.mp es).1
        rw [hln, dI_len] at this; exact this
      obtain ⟨n, en, ec⟩ := chI_get (List.getElem?_eq_getElem hj)
      obtain ⟨t3, ht3, hty⟩ := hget j (.int n) (by rw [dI_get, List.getElem?_eq_getElem hj, en]; rfl)
      rw [es] at ht3
      cases ht3
      obtain ⟨a1, a2, a3, a4⟩ := chn_links P m j n ec
      have e4 : eVar 4 [some s, some t, some u, some (I (if j = 0 then (0 : Nat) else (chn P m).getD (j - 1) 0 : Nat)), some y] = .ok (.val (.fz (.int n))) := by rw [ev_var (s := y) rfl, hty.intv]
      refine ⟨_, .inl (seq_n (if_f (or_f (not_v (tb_v (lnum_call e4))) (or_f (dF (by omega) (lt_t e4 rfl)) (dF (by omega) (gt_t e4 el)))) rfl) (seq_n (frz_n (if_f (not_v (tb_v (isbase_call (d := n) (bb := (if j = 0 then 0 else (chn P m).getD (j - 1) 0)) h rfl e4 rfl a3.symm a1 (by omega) hl))) rfl)) (set_v e4))), some y, ?_⟩
      show [_, _, _, some (Sl.own (.fz (.int n))), some y] = _
      rw [if_neg (by omega), Nat.add_sub_cancel, List.getD_eq_getElem?_getD, ec]
      rfl)
  have fin : (if (ss.map fun s => [s]).length = 0 then (0 : Nat) else (chn P m).getD ((ss.map fun s => [s]).length - 1) 0) = m := by
    have hlen : (ss.map fun s => [s]).length = (chn P m).length := by rw [List.length_map, hln, dI_len, cln]
    have hp : 0 < (chn P m).length := List.length_pos_iff.mpr cne
    rw [hlen, if_neg (by omega), List.getD_eq_getElem?_getD]
    have hlt : (chn P m).length - 1 < (chn P m).length := by omega
    have ex : (chn P m)[(chn P m).length - 1]? = some (chn P m)[(chn P m).length - 1] := List.getElem?_eq_getElem hlt
    rw [ex, Option.getD_some]
    exact (chn_links P m _ _ ex).2.2.2 (by omega)
  rw [fin] at ef
  refine run_ret [some s, some t, some u, none, none] (seq_n (if_f (or_f (isl_v 2 hu (ev_var rfl)) (dF (by omega) (gt_t em el))) rfl) (seq_n (set_v rfl) (seq_n (for_n it ef) (ret_v (bin_v rfl ?_ (fEq_self (y := .val (.fz (.int m))) rfl rfl))))))
  rw [ev_var (s := t) rfl, ht.intv]
end K40

set_option Elab.async false
set_option linter.all false
set_option maxRecDepth 100000
set_option maxHeartbeats 4000000
namespace PR
open PySem VL
theorem slice_lo {a lo : EC} {ρ : Rho} {ds : List D} {h : Int} (ha : a ρ = .ok (.val (.fz (.list ds)))) (hh : lo ρ = .ok (.val (.fz (.int h)))) (h0 : 0 ≤ h) : eSlice a (some lo) none ρ = .ok (.val (.ls ((ds.drop h.toNat).map Ow.fz))) := by
  have cut : cutL (ds.map Ow.fz) (some h) none = (ds.drop h.toNat).map Ow.fz := by
    unfold cutL HT.sIx
    simp only [List.length_map]
    rw [if_neg (by omega), List.map_drop]
    rcases Nat.lt_or_ge h.toNat ds.length with q | q
    · rw [Nat.min_eq_left (by omega), List.take_of_length_le (by simp)]
    · rw [Nat.min_eq_right q, List.drop_of_length_le (by simp), List.drop_of_length_le (by simpa using q)]
      simp
  unfold eSlice
  rw [ha]
  show (((lo ρ).bind _).bind _) = _
  rw [hh]
  show Res.ok (RV.val (.ls (cutL (ds.map Ow.fz) (some h) none))) = _
  rw [cut]
theorem put_s {i : Nat} {o j e : EC} {ρ : Rho} {xs : List Ow} {ow : Ow} {k : Int} {n : Nat} (h : o ρ = .ok (.ref i [] (.ls xs))) (h' : e ρ = .ok (.val ow)) (hj : j ρ = .ok (.val (.fz (.int k)))) (hr : ρ[i]? = some (some (.own (.ls xs)))) (hk : k = n) (hn : n < xs.length) :
    sPut o j e ρ = .next (ρ.set i (some (.own (.ls (xs.set n ow))))) := by
  subst hk
  unfold sPut
  rw [h']
  simp only
  rw [h]
  simp only
  rw [hj]
  have e1 : L2.ixN xs.length (n : Int) = some n := by
    unfold L2.ixN
    rw [if_pos (by omega), if_pos (by omega)]
    simp
  show (match L2.ixN xs.length (n : Int) with | some j => _ | none => _) = _
  rw [e1]
  unfold VL.putAt
  rw [hr]
  rfl
end PR
namespace K40
open PySem VL PR
def gv (P : List Int) (b : Bool) : D := if b then .tuple (dI P) else .list (dI P)
theorem gv_row (P : List Int) (b : Bool) : rowOf (gv P b) = some (dI P) := by cases b <;> rfl
/-- the slot of the given row: frozen it is the row -/
def Q2 (P : List Int) (b : Bool) (k : Sl) (s2 : Sl) : Prop := ∀ (c d : Option Sl) (a : SC) (r : SRes), a [some (Lx P), some k, some (.own (.fz (gv P b))), c, d] = r → sFrz 2 a [some (Lx P), some k, some s2, c, d] = r
theorem Q2.self (P : List Int) (b : Bool) (k : Sl) : Q2 P b k (.own (.fz (gv P b))) := fun _ _ _ _ h => h
theorem let_o {P : List Int} {kind : Int} (H : LevOk P) (hk : kind = 0 ∨ kind = 1) : φ__law_let [Lx P, I kind] = .ok (.fz (.bool true)) := by
  have hl := H.len (by decide)
  have hp : 1 ≤ P.length := by
    have := H.1
    cases P with
    | nil => exact absurd rfl this
    | cons _ _ => simp
  have h12 := H.2.1
  obtain ⟨b, s2, e12, e2⟩ : ∃ (b : Bool) (s2 : Sl), (∀ r : SRes, ∀ K : SC, K [some (Lx P), some (I kind), some s2, none, none] = r → sSeq (sSet 2 (eUn fList (eVar 0))) (sSeq (sIf (tB (eBin fEq (eVar 1) (eK (.int 1)))) (sSet 2 (eUn fTuple (eVar 0))) sPass) K) [some (Lx P), some (I kind), none, none, none] = r) ∧ Q2 P b (I kind) s2 := by
    rcases hk with rfl | rfl
    · refine ⟨false, .own (.ls (oI P)), fun r K hK => seq_n (set_v (un_v rfl (list_I (isI_fz P)))) (seq_n (if_f (dF (by decide) (eq_t rfl rfl)) rfl) hK), fun c d a r h => frz_n ?_⟩
      show a [_, _, some (.own (.fz (Ow.ls (oI P)).toD)), _, _] = r
      rw [oI_toD]; exact h
    · refine ⟨true, .own (.fz (.tuple (dI P))), fun r K hK => seq_n (set_v (un_v rfl (list_I (isI_fz P)))) (seq_n (if_t (dT rfl (eq_t rfl rfl)) (set_v (un_v rfl (tup_s rfl)))) hK), fun c d a r h => frz_n h⟩
  have gr := gv_row P b
  have el : ∀ {s2 c d}, (eUn fLen (eVar 0)) [some (Lx P), some (I kind), s2, c, d] = .ok (.val (.fz (.int P.length))) := fun {s2 c d} => un_v rfl (len_I (isI_fz P))
  have ebs : ∀ {c d}, eCall φ_bases [eVar 2] [some (Lx P), some (I kind), some (.own (.fz (gv P b))), c, d] = .ok (.val (.ls (oI (bsL P P.length)))) := fun {c d} => call_ok (xs := [.val (.fz (gv P b))]) (ev_cons rfl rfl) (bases_o (.inl rfl) gr H)
  have ech : ∀ {c d} {a : EC} {m : Nat}, a [some (Lx P), some (I kind), some (.own (.fz (gv P b))), c, d] = .ok (.val (.fz (.int m))) → 1 ≤ m → m ≤ P.length → eCall φ_chain [eVar 2, a] [some (Lx P), some (I kind), some (.own (.fz (gv P b))), c, d] = .ok (.val (.ls (oI (chI P m)))) :=
    fun {c d a m} ha h1 h2 => call_ok (xs := [.val (.fz (gv P b)), .val (.fz (.int m))]) (ev_cons rfl (ev_cons ha rfl)) (chain_o (.inl rfl) gr H (.inl rfl) h1 h2)
  have toD : ∀ L : List Int, (Ow.ls (oI L)).toD = .list (dI L) := oI_toD
  have fitc : ∀ {s2 d}, eCall φ__law_bases_fit [eVar 0, eVar 3] [some (Lx P), some (I kind), s2, some (.own (.ls (oI (bsL P P.length)))), d] = .ok (.val (.fz (.bool true))) := fun {s2 d} => by
    refine call_ok (xs := [.val (.fz (.list (dI P))), .ref 3 [] (.ls (oI (bsL P P.length)))]) rfl ?_
    show φ__law_bases_fit [Lx P, .bor (Ow.ls (oI (bsL P P.length))).toD] = _
    rw [toD]; exact bases_fit_o (.inl rfl) (.inr rfl) hl
  refine run_ret [some (Lx P), some (I kind), none, none, none] (e12 _ _ ?_)
  refine seq_n (ρ' := [some (Lx P), some (I kind), some (.own (.fz (gv P b))), some (.own (.ls (oI P))), none]) (e2 _ _ _ _ (set_v (ow := .ls (oI P)) (call_ok (xs := [.val (.fz (gv P b))]) (ev_cons rfl rfl) (check_levels_o (.inl rfl) gr H)))) ?_
  refine seq_n (if_f (not_v (tb_v (b := true) (call_ok (xs := [.ref 3 [] (.ls (oI P)), .val (.fz (.list (dI P)))]) rfl ?_))) rfl) ?_
  · show φ__law_are_numbers_k40 [.bor (Ow.ls (oI P)).toD, Lx P] = _
    rw [toD]; exact are_numbers_o (.inr rfl) (by omega)
  refine seq_n (app_s (xs := oI P) (ow := .fz (.int 8)) rfl rfl rfl (by rw [oI_len]; omega)) ?_
  refine seq_n (ρ' := [some (Lx P), some (I kind), some (.own (.fz (gv P b))), some (.own (.ls (oI (bsL P P.length)))), none]) (frz_n (set_v (ow := .ls (oI (bsL P P.length))) ebs)) ?_
  refine seq_n (if_f (not_v (tb_v fitc)) rfl) ?_
  refine seq_n (put_s (xs := oI (bsL P P.length)) (ow := .fz (.int 5)) (k := 0) (n := 0) rfl rfl rfl rfl rfl (by rw [oI_len, bsL_len]; omega)) ?_
  refine seq_n (ρ' := [some (Lx P), some (I kind), some (.own (.fz (gv P b))), some (.own (.ls ((oI (bsL P P.length)).set 0 (.fz (.int 5))))), none]) (frz_n (if_f (not_v (tb_v (b := true) (call_ok (xs := [.val (.fz (.list (dI P))), .val (.ls (oI (bsL P P.length)))]) (ev_cons rfl (ev_cons ebs rfl)) ?_))) rfl)) ?_
  · show φ__law_bases_fit [Lx P, .own (.fz (Ow.ls (oI (bsL P P.length))).toD)] = _
    rw [toD]; exact bases_fit_o (.inl rfl) (.inl rfl) hl
  obtain ⟨ρ', ef, c, d, rfl⟩ := forL_n (tg := [4]) (b := w__law_let_0) (vs := rangeS 1 (P.length + 1)) (fun _ ρ => ∃ c d, ρ = [some (Lx P), some (I kind), some (.own (.fz (gv P b))), c, d]) (ρ := [some (Lx P), some (I kind), some (.own (.fz (gv P b))), some (.own (.ls ((oI (bsL P P.length)).set 0 (.fz (.int 5))))), none]) ⟨_, _, rfl⟩ (by
    rintro k v ρ hv ⟨c, d, rfl⟩
    obtain ⟨rfl, hk⟩ := rangeS_get hv
    have e1 : ((1 : Int) + k) = ((1 + k : Nat) : Int) := by omega
    rw [e1]
    refine ⟨_, .inl (seq_n (ρ' := [some (Lx P), some (I kind), some (.own (.fz (gv P b))), some (.own (.ls (oI (chI P (1 + k))))), some (I (1 + k : Nat))]) (frz_n (set_v (ow := .ls (oI (chI P (1 + k)))) (ech rfl (by omega) (by omega)))) (seq_n (if_f (not_v (tb_v (b := true) (call_ok (xs := [.val (.fz (.list (dI P))), .val (.fz (.int (1 + k : Nat))), .ref 3 [] (.ls (oI (chI P (1 + k))))]) rfl ?_))) rfl) (app_s (xs := oI (chI P (1 + k))) (ow := .fz (.int 0)) rfl rfl rfl ?_))), _, _, rfl⟩
    · show φ__law_chain_fits [Lx P, I (1 + k : Nat), .bor (Ow.ls (oI (chI P (1 + k)))).toD] = _
      rw [toD]; exact chain_fits_o (.inl rfl) (.inl rfl) (.inr rfl) (by omega) (by omega) hl
    · have := chI_len P (1 + k)
      rw [oI_len]; omega)
  refine seq_n (for_n (rng2_s (m := 1) (n := P.length + 1) rfl (bin_v el rfl (add_s _ _)) (by omega) (by omega) (by omega) (by omega)) ef) ?_
  refine seq_n (ρ' := [some (Lx P), some (I kind), some (.own (.fz (gv P b))), c, d]) (frz_n (if_f (not_v (tb_v (b := true) (call_ok (xs := [.val (.fz (.list (dI P))), .val (.fz (.int P.length)), .val (.ls (oI (chI P P.length)))]) (ev_cons rfl (ev_cons el (ev_cons (ech el hp (Nat.le_refl _)) rfl))) ?_))) rfl)) ?_
  · show φ__law_chain_fits [Lx P, I P.length, .own (.fz (Ow.ls (oI (chI P P.length))).toD)] = _
    rw [toD]; exact chain_fits_o (.inl rfl) (.inl rfl) (.inl rfl) hp (Nat.le_refl _) hl
  refine frz_n (ret_v (bin_v (un_v (x := .val (.fz (gv P b))) rfl (list_s gr)) rfl (fEq_self (y := .val (.fz (.list (dI P)))) ?_ (flat_shaped (flat_dI 0 P) (by decide)))))
  show PyData.list (toDs ((dI P).map Ow.fz)) = .list (dI P)
  rw [toDs_fz]
/-! ### the law -/
def oddO : List Ow := [.fz (.int 8), .fz (.int (-1)), .fz (.bool true), .fz .none, .fz (.str "1"), .ls [.fz (.int 1)], .fz (.bool false), .fz (.int 99), .fz (.tuple []), .fz (.int (-30))]
theorem odd_bad : ∀ o ∈ oddO, isNum o.toD 0 7 = false := by
  intro o ho
  simp only [oddO, List.mem_cons, List.not_mem_nil, or_false] at ho
  rcases ho with rfl | rfl | rfl | rfl | rfl | rfl | rfl | rfl | rfl | rfl <;> rfl
theorem odd_ix (z : Int) : ∃ o ∈ oddO, fIx (.val (.ls oddO)) (.val (.fz (.int (z % 10)))) = .ok (.val o) := by
  have b1 := Int.emod_nonneg z (show (10 : Int) ≠ 0 by decide)
  have b2 := Int.emod_lt_of_pos z (show (0 : Int) < 10 by decide)
  obtain ⟨j, ej⟩ : ∃ j : Nat, z % 10 = j := ⟨(z % 10).toNat, by omega⟩
  have hj : j < oddO.length := by show j < 10; omega
  refine ⟨oddO[j], List.getElem_mem hj, ?_⟩
  rw [ej]
  show (match L2.atI oddO (j : Int) with | some ow => Res.ok (RV.val ow) | none => .stuck) = _
  rw [atI_nat oddO (by omega) (by omega), Int.toNat_natCast, List.getElem?_eq_getElem hj]
theorem rowErr_at {P : List Int} {w : D} {es : List D} {d : D} (hd : rowOf d = some (dI P ++ w :: es)) (hP : ∀ x ∈ P, 0 ≤ x ∧ x ≤ 7) (hw : isNum w 0 7 = false) (hl : P.length + 1 + es.length ≤ 12) : rowErr d 12 = some (xLev P.length) := by
  unfold rowErr
  rw [hd]
  cases e : dI P ++ w :: es with
  | nil => simp at e
  | cons a r =>
    simp only
    rw [← e, if_neg (by simp [dI_len]; omega), firstBad_at hw (fun x hx => ?_), Nat.zero_add, dI_len]
    obtain ⟨n, hn, rfl⟩ := List.mem_map.mp hx
    have := hP n hn
    simp [isNum, this]
theorem rowErr_many {d : D} {ds : List D} (hd : rowOf d = some ds) (hl : 12 < ds.length) : rowErr d 12 = some (xMany 12) := by
  unfold rowErr
  rw [hd]
  cases ds with
  | nil => simp at hl
  | cons a r =>
    simp only
    rw [if_pos (by omega)]
def levT (k : Int) : D := .tuple [.str "levels", .int k, .bool true]
def manyT : D := .tuple [.str "many", .int 12, .bool true]
theorem set_past : ∀ (A B : List D) (x y : D) (m : Nat), A.length < m → (A ++ x :: B).set m y = A ++ x :: B.set (m - (A.length + 1)) y
  | [], B, x, y, m + 1, _ => by simp
  | a :: A, B, x, y, 0, h => by simp at h
  | a :: A, B, x, y, m + 1, h => by
    have ih := set_past A B x y m (by simpa using h)
    show a :: (A ++ x :: B).set m y = a :: (A ++ x :: B.set _ y)
    rw [ih]
    simp only [List.length_cons]
    rw [show m + 1 - (A.length + 1 + 1) = m - (A.length + 1) by omega]
theorem shaped_lev (k : Int) : SeqAt.shaped (levT k) = true := by simp [levT, SeqAt.shaped, PyData.canLay0, PyData.canLayAll0, PyData.depth, PyData.depthAll]; decide +kernel
theorem shaped_many : SeqAt.shaped manyT = true := by simp [manyT, SeqAt.shaped, PyData.canLay0, PyData.canLayAll0, PyData.depth, PyData.depthAll]; decide +kernel
theorem refd_call {d T : D} {x : Exn} {a b c : EC} {ρ : Rho} {va vb vc : RV} (ha : a ρ = .ok va) (hb : b ρ = .ok vb) (hc : c ρ = .ok vc) (h : Is va.arg d) (e : rowErr d 12 = some x) (hr : ∀ a b c d e, hRun2 esub CL x [a, b, c, d, e] = .ret (.fz T)) (hT : SeqAt.shaped T = true) (hu : Is vc.arg T) :
    eCall φ__law_refused [a, b, c] ρ = .ok (.val (.fz (.bool true))) :=
  call_ok (xs := [va, vb, vc]) (ev_cons ha (ev_cons hb (ev_cons hc rfl))) (refused_e h e hr hT hu)
theorem oI_fzs (L : List Int) : oI L = (dI L).map Ow.fz := (oI_fz L).symm
theorem toD_cat (L M : List Int) (o : Ow) : (Ow.ls (oI L ++ [o] ++ oI M)).toD = .list (dI L ++ o.toD :: dI M) := by
  show PyData.list (toDs _) = _
  have q : ∀ L : List Int, (oI L).map Ow.toD = dI L := fun L => by rw [← toDs_is, toDs_oI]
  rw [toDs_is, List.map_append, List.map_append, q, q]
  simp
theorem law_s (ns : List Int) : φ_law [scr ns] = .ok (.fz (.bool true)) := by
  obtain ⟨z0, h0⟩ := cell_s ns 0
  obtain ⟨z1, h1⟩ := cell_s ns 1
  obtain ⟨z2, h2⟩ := cell_s ns 2
  obtain ⟨z3, h3⟩ := cell_s ns 3
  obtain ⟨z4, h4⟩ := cell_s ns 4
  obtain ⟨z5, h5⟩ := cell_s ns 5
  have cell : ∀ {ρ : Rho} {k z : Int}, ρ[0]? = some (some (scr ns)) → φ__law_cell_k40 [scr ns, I k] = .ok (.fz (.int z)) → eCall φ__law_cell_k40 [eVar 0, eK (.int k)] ρ = .ok (.val (.fz (.int z))) := fun {ρ k z} hρ hk =>
    call_ok (xs := [.val (.fz (.list (dI ns))), .val (.fz (.int k))]) (ev_cons (ev_var hρ) (ev_cons rfl rfl)) hk
  -- count
  have c1 := Int.emod_nonneg z0 (show (12 : Int) ≠ 0 by decide)
  have c2 := Int.emod_lt_of_pos z0 (show (0 : Int) < 12 by decide)
  obtain ⟨n, en, n1, n12⟩ : ∃ n : Nat, 1 + z0 % 12 = n ∧ 1 ≤ n ∧ n ≤ 12 := ⟨(1 + z0 % 12).toNat, by omega, by omega, by omega⟩
  obtain ⟨sz, hsz, esz⟩ := lit_ix [8, 2, 3, 8] z1 4 rfl (by decide)
  have sz1 : 2 ≤ sz ∧ sz ≤ 8 := by simp at hsz; omega
  have p1 := Int.emod_nonneg (z1 / 4) (show (2 : Int) ≠ 0 by decide)
  have p2 := Int.emod_lt_of_pos (z1 / 4) (show (0 : Int) < 2 by decide)
  obtain ⟨sh, esh, sh0, sh1⟩ : ∃ sh, (8 - sz) * (z1 / 4 % 2) = sh ∧ 0 ≤ sh ∧ sh ≤ 8 - sz := by
    refine ⟨_, rfl, ?_⟩
    have : z1 / 4 % 2 = 0 ∨ z1 / 4 % 2 = 1 := by omega
    rcases this with e | e <;> rw [e] <;> omega
  obtain ⟨R, hR, lR, iR⟩ := row_s' z2 sz n (by omega) (by omega) (by omega)
  obtain ⟨P, eP⟩ : ∃ P, P = R.map fun x => x + sh := ⟨_, rfl⟩
  have lP : P.length = n := by rw [eP, List.length_map, lR]
  have oP : ∀ x ∈ P, 0 ≤ x ∧ x ≤ 7 := by
    intro x hx
    rw [eP] at hx
    obtain ⟨y, hy, rfl⟩ := List.mem_map.mp hx
    have := iR y hy
    omega
  have HP : LevOk P := ⟨fun e => by rw [e] at lP; simp only [List.length_nil] at lP; omega, by omega, oP⟩
  obtain ⟨L, hL, lL, iL⟩ := row_s' z5 8 13 (by decide) (by decide) (by decide)
  have oL : ∀ x ∈ L, 0 ≤ x ∧ x ≤ 7 := fun x hx => by have := iL x hx; omega
  have HL : LevOk (L.take 12) := ⟨fun e => by have := congrArg List.length e; rw [List.length_take, lL] at this; simp at this, by rw [List.length_take, lL]; decide, fun x hx => oL x (List.mem_of_mem_take hx)⟩
  have q3 := Int.emod_nonneg z3 (show (n : Int) ≠ 0 by omega)
  have q4 := Int.emod_lt_of_pos z3 (show (0 : Int) < n by omega)
  obtain ⟨pl, epl, hpl⟩ : ∃ pl : Nat, z3 % n = pl ∧ pl < n := ⟨(z3 % n).toNat, by omega, by omega⟩
  obtain ⟨o, ho, eo⟩ := odd_ix z4
  have bo := odd_bad o ho
  have two : ∀ z : Int, z % 2 = 0 ∨ z % 2 = 1 := fun z => by omega
  refine run_ret [some (scr ns), none, none, none, none, none, none, none, none, none, none, none, none] ?_
  refine seq_n (set_v (ow := .fz (.int n)) (bin_v rfl (bin_v (un_v (cell rfl h0) (int_s _)) rfl (mod_s _ _ (by decide))) (by rw [add_s, en]))) ?_
  refine seq_n (set_v (un_v (cell rfl h1) (int_s _))) ?_
  refine seq_n (set_v (ow := .fz (.int sz)) (bin_v (x := .val (.ls (oI [8, 2, 3, 8]))) rfl (bin_v rfl rfl (mod_s _ _ (by decide))) esz)) ?_
  refine seq_n (set_v (ow := .fz (.int sh)) (bin_v (bin_v rfl rfl (sub_s _ _)) (bin_v (bin_v rfl rfl (div_s _ _ (by decide))) rfl (mod_s _ _ (by decide))) (by rw [mul_l _ _ (by omega), esh]))) ?_
  have eR : ∀ {ρ : Rho} {c s : EC}, ρ[0]? = some (some (scr ns)) → c ρ = .ok (.val (.fz (.int n))) → s ρ = .ok (.val (.fz (.int sz))) → eCall φ__law_row_k40 [eCall φ__law_cell_k40 [eVar 0, eK (.int 2)], c, s] ρ = .ok (.val (.ls (oI R))) := fun {ρ c s} hρ hc hs =>
    call_ok (xs := [.val (.fz (.int z2)), .val (.fz (.int n)), .val (.fz (.int sz))]) (ev_cons (cell hρ h2) (ev_cons hc (ev_cons hs rfl))) hR
  have cP : ∀ {a b : Option Sl} , True := fun {_ _} => trivial
  refine seq_n (ρ' := [some (scr ns), some (I n), some (I z1), some (I sz), some (I sh), some (.own (.ls (oI P))), none, none, none, none, none, none, none]) (frz_n (set_v (ow := .ls (oI P)) ?_)) ?_
  · have := comp_I (i := 12) (t := tYes) (e := eBin fAdd (eVar 12) (eVar 4)) (ρ := [some (scr ns), some (I n), some (I z1), some (I sz), some (I sh), none, none, none, none, none, none, none, none]) (fun _ => true) (fun x => x + sh) (row_I (eR (c := eVar 1) (s := eVar 3) rfl rfl rfl) (.inr rfl)) (by omega) (fun x hx => ⟨rfl, fun _ => rfl⟩)
    rw [List.filter_eq_self.mpr (fun _ _ => rfl), ← eP] at this
    exact this
  refine seq_n (set_v (ow := .ls (oI L)) (call_ok (xs := [.val (.fz (.int z5)), .val (.fz (.int 13)), .val (.fz (.int 8))]) (ev_cons (cell rfl h5) rfl) hL)) ?_
  have tD := oI_toD
  refine seq_n (ρ' := [some (scr ns), some (I n), some (I z1), some (I sz), some (I sh), some (Lx P), some (Lx L), none, none, none, none, none, none]) (frz_n (frz_n ?_)) ?_
  · have eρ : (List.set (List.set [some (scr ns), some (I n), some (I z1), some (I sz), some (I sh), some (.own (.ls (oI P))), some (.own (.ls (oI L))), none, none, none, none, none, none] 6 (VL.frzSl (some (some (.own (.ls (oI L))))))) 5 (VL.frzSl (some (some (.own (.ls (oI P))))))) = [some (scr ns), some (I n), some (I z1), some (I sz), some (I sh), some (Lx P), some (Lx L), none, none, none, none, none, none] := by
      show [_, _, _, _, _, some (Sl.own (.fz (Ow.ls (oI P)).toD)), some (Sl.own (.fz (Ow.ls (oI L)).toD)), _, _, _, _, _, _] = _
      rw [tD, tD]
    refine Eq.trans (congrArg _ eρ) ?_
    refine if_f (or_f (not_v (tb_v (b := true) (call_ok (xs := [.val (.fz (.list (dI P))), .val (.fz (.int (z1 / 8 % 2)))]) (ev_cons rfl (ev_cons (bin_v (bin_v rfl rfl (div_s _ _ (by decide))) rfl (mod_s _ _ (by decide))) rfl)) (let_o HP (two _))))) (not_v (tb_v (b := true) (call_ok (xs := [.val (.ls (((dI L).take 12).map Ow.fz)), .val (.fz (.int (z1 / 16 % 2)))]) (ev_cons (slice_fz (h := 12) rfl rfl (by decide)) (ev_cons (bin_v (bin_v rfl rfl (div_s _ _ (by decide))) rfl (mod_s _ _ (by decide))) rfl)) ?_)))) rfl
    have : (dI L).take 12 = dI (L.take 12) := by unfold dI; rw [List.map_take]
    rw [this, oI_fz]
    show φ__law_let [.own (.fz (Ow.ls (oI (L.take 12))).toD), I (z1 / 16 % 2)] = _
    rw [tD]
    exact let_o HL (two _)
  refine seq_n (set_v (ow := .fz (.int pl)) (bin_v (y := .val (.fz (.int n))) (un_v (cell rfl h3) (int_s _)) rfl (by rw [mod_s _ _ (by omega), epl]))) ?_
  refine seq_n (set_v (ow := o) (bin_v (x := .val (.ls oddO)) rfl (bin_v (un_v (cell rfl h4) (int_s _)) rfl (mod_s _ _ (by decide))) eo)) ?_
  -- the broken row
  have tk : (dI P).take pl = dI (P.take pl) := by unfold dI; rw [List.map_take]
  have dk : (dI P).drop (pl + 1) = dI (P.drop (pl + 1)) := by unfold dI; rw [List.map_drop]
  have tkL : (dI L).take pl = dI (L.take pl) := by unfold dI; rw [List.map_take]
  have dkL : (dI L).drop (pl + 1) = dI (L.drop (pl + 1)) := by unfold dI; rw [List.map_drop]
  have lst : ∀ {ρ : Rho}, ρ[8]? = some (some (.own (.fz o.toD))) → eLst [eVar 8] ρ = .ok (.val (.ls [.fz o.toD])) := fun {ρ} hρ => by
    unfold eLst VL.evalAll
    rw [ev_var hρ]
    rfl
  have cat1 : ∀ (A : List D) (B C : List Ow), A.length + B.length ≤ 16777216 → fAdd (.val (.ls (A.map Ow.fz))) (.val (.ls B)) = .ok (.val (.ls (A.map Ow.fz ++ B))) := fun A B _ h => by
    show (match some (A.map Ow.fz), some B with | some xs, some ys => if xs.length + ys.length ≤ 16777216 then Res.ok (RV.val (.ls (xs ++ ys))) else .stuck | _, _ => .stuck) = _
    simp only [List.length_map]
    rw [if_pos h]
  have cut : ∀ (M : List Int) {ρ : Rho} (i : Nat), ρ[i]? = some (some (Lx M)) → ρ[7]? = some (some (I pl)) → ρ[8]? = some (some (.own (.fz o.toD))) → M.length ≤ 100 →
      (eBin fAdd (eBin fAdd (eSlice (eVar i) none (some (eVar 7))) (eLst [(eVar 8)])) (eSlice (eVar i) (some (eBin fAdd (eVar 7) (eK (.int 1)))) none)) ρ = .ok (.val (.ls ((dI (M.take pl) ++ o.toD :: dI (M.drop (pl + 1))).map Ow.fz))) := fun M ρ i hi h7 h8 hM => by
    have s1 : eSlice (eVar i) none (some (eVar 7)) ρ = .ok (.val (.ls (((dI M).take pl).map Ow.fz))) := by
      have := slice_fz (a := eVar i) (hi := eVar 7) (ρ := ρ) (ds := dI M) (h := pl) (ev_var hi) (ev_var h7) (by omega)
      rw [Int.toNat_natCast] at this; exact this
    have s2 : eSlice (eVar i) (some (eBin fAdd (eVar 7) (eK (.int 1)))) none ρ = .ok (.val (.ls (((dI M).drop (pl + 1)).map Ow.fz))) := by
      have := slice_lo (a := eVar i) (lo := eBin fAdd (eVar 7) (eK (.int 1))) (ρ := ρ) (ds := dI M) (h := (pl : Int) + 1) (ev_var hi) (bin_v (ev_var h7) rfl (add_s _ _)) (by omega)
      rw [show ((pl : Int) + 1).toNat = pl + 1 by omega] at this; exact this
    have l1 : ((dI M).take pl).length ≤ 100 := by simp [dI_len]; omega
    have l2 : ((dI M).drop (pl + 1)).length ≤ 100 := by simp [dI_len]; omega
    refine bin_v (bin_v s1 (lst h8) (cat1 _ _ [] (by simp; simp at l1; omega))) s2 ?_
    have e2 : ((dI M).take pl).map Ow.fz ++ [Ow.fz o.toD] = ((dI M).take pl ++ [o.toD]).map Ow.fz := by simp
    rw [e2, cat1 _ _ [] (by simp; simp at l1 l2; omega), ← List.map_append]
    have : (dI M).take pl = dI (M.take pl) := by unfold dI; rw [List.map_take]
    have : (dI M).drop (pl + 1) = dI (M.drop (pl + 1)) := by unfold dI; rw [List.map_drop]
    simp [*]
  refine seq_n (ρ' := [some (scr ns), some (I n), some (I z1), some (I sz), some (I sh), some (Lx P), some (Lx L), some (I pl), some (.own (.fz o.toD)), some (.own (.ls ((dI (P.take pl) ++ o.toD :: dI (P.drop (pl + 1))).map Ow.fz))), none, none, none]) (frz_n (frz_n (set_v (cut P 5 rfl rfl rfl (by omega))))) ?_
  -- perhaps None at its end
  obtain ⟨es, les, e9⟩ : ∃ es : List D, es.length ≤ P.length - (pl + 1) ∧ (sIf (tAnd (tB (eBin fEq (eBin fMod (eBin fDiv (eVar 2) (eK (.int 32))) (eK (.int 2))) (eK (.int 1)))) (tB (eBin fLt (eBin fAdd (eVar 7) (eK (.int 1))) (eVar 1)))) (sPut (eVar 9) (eBin fSub (eVar 1) (eK (.int 1))) (eK .none)) sPass) [some (scr ns), some (I n), some (I z1), some (I sz), some (I sh), some (Lx P), some (Lx L), some (I pl), some (.own (.fz o.toD)), some (.own (.ls ((dI (P.take pl) ++ o.toD :: dI (P.drop (pl + 1))).map Ow.fz))), none, none, none] =
      .next [some (scr ns), some (I n), some (I z1), some (I sz), some (I sh), some (Lx P), some (Lx L), some (I pl), some (.own (.fz o.toD)), some (.own (.ls ((dI (P.take pl) ++ o.toD :: es).map Ow.fz))), none, none, none] := by
    have lt1 : (P.take pl).length = pl := by simp; omega
    have ld1 : (P.drop (pl + 1)).length = n - (pl + 1) := by simp; omega
    by_cases ha : z1 / 32 % 2 = 1
    · by_cases hb : (pl : Int) + 1 < n
      · refine ⟨(dI (P.drop (pl + 1))).set (n - 1 - (pl + 1)) .none, by rw [List.length_set, dI_len, ld1]; omega, if_t (and_t (dT ha (eq_t (bin_v (bin_v rfl rfl (div_s _ _ (by decide))) rfl (mod_s _ _ (by decide))) rfl)) (dT hb (lt_t (bin_v rfl rfl (add_s _ _)) rfl))) ?_⟩
        refine (put_s (i := 9) (xs := (dI (P.take pl) ++ o.toD :: dI (P.drop (pl + 1))).map Ow.fz) (ow := .fz .none) (k := (n : Int) - 1) (n := n - 1) rfl rfl (bin_v rfl rfl (sub_s _ _)) rfl (by omega) (by simp [dI_len]; omega)).trans ?_
        refine congrArg SRes.next ?_
        show [_, _, _, _, _, _, _, _, _, some (Sl.own (.ls (List.set _ (n - 1) (.fz .none)))), _, _, _] = _
        rw [← List.map_set, set_past _ _ _ _ _ (by rw [dI_len, lt1]; omega), dI_len, lt1]
      · exact ⟨dI (P.drop (pl + 1)), by rw [dI_len, ld1]; omega, if_f (and_t (dT ha (eq_t (bin_v (bin_v rfl rfl (div_s _ _ (by decide))) rfl (mod_s _ _ (by decide))) rfl)) (dF hb (lt_t (bin_v rfl rfl (add_s _ _)) rfl))) rfl⟩
    · exact ⟨dI (P.drop (pl + 1)), by rw [dI_len, ld1]; omega, if_f (and_f (dF ha (eq_t (bin_v (bin_v rfl rfl (div_s _ _ (by decide))) rfl (mod_s _ _ (by decide))) rfl))) rfl⟩
  refine seq_n e9 ?_
  have lt1 : (P.take pl).length = pl := by simp; omega
  have oT : ∀ x ∈ P.take pl, 0 ≤ x ∧ x ≤ 7 := fun x hx => oP x (List.mem_of_mem_take hx)
  have bad : ∀ d, rowOf d = some (dI (P.take pl) ++ o.toD :: es) → rowErr d 12 = some (xLev pl) := fun d hd => by
    have := rowErr_at hd oT bo (by omega)
    rw [lt1] at this; exact this
  have tupv : ∀ {ρ : Rho} {a : EC} {w : D} {k : Int}, a ρ = .ok (.val (.fz (.int k))) → eTup [eK (.str "levels"), a, eK (.bool true)] ρ = .ok (.val (.fz (levT k))) := fun {ρ a w k} h => by
    unfold eTup
    rw [ev_cons rfl (ev_cons h (ev_cons rfl rfl))]
    rfl
  have tD2 : ∀ ds : List D, (Ow.ls (ds.map Ow.fz)).toD = .list ds := fun ds => by show PyData.list (toDs _) = _; rw [toDs_fz]
  refine seq_n (ρ' := [some (scr ns), some (I n), some (I z1), some (I sz), some (I sh), some (Lx P), some (Lx L), some (I pl), some (.own (.fz o.toD)), some (.own (.fz (.list (dI (P.take pl) ++ o.toD :: es)))), none, none, none]) (frz_n ?_) ?_
  · have eρ : (List.set [some (scr ns), some (I n), some (I z1), some (I sz), some (I sh), some (Lx P), some (Lx L), some (I pl), some (.own (.fz o.toD)), some (.own (.ls ((dI (P.take pl) ++ o.toD :: es).map Ow.fz))), none, none, none] 9 (VL.frzSl (some (some (.own (.ls ((dI (P.take pl) ++ o.toD :: es).map Ow.fz))))))) = [some (scr ns), some (I n), some (I z1), some (I sz), some (I sh), some (Lx P), some (Lx L), some (I pl), some (.own (.fz o.toD)), some (.own (.fz (.list (dI (P.take pl) ++ o.toD :: es)))), none, none, none] := by
      show [_, _, _, _, _, _, _, _, _, some (Sl.own (.fz (Ow.ls ((dI (P.take pl) ++ o.toD :: es).map Ow.fz)).toD)), _, _, _] = _
      rw [tD2]
    refine Eq.trans (congrArg _ eρ) ?_
    exact if_f (or_f (not_v (tb_v (refd_call rfl rfl (tupv (w := .none) (k := pl) rfl) (.inl rfl) (bad _ rfl) (run_lev _) (shaped_lev _) (.inl rfl)))) (not_v (tb_v (refd_call (va := .val (.fz (.tuple (dI (P.take pl) ++ o.toD :: es)))) (un_v rfl (tup_s rfl)) rfl (tupv (w := .none) (k := pl) rfl) (.inl rfl) (bad _ rfl) (run_lev _) (shaped_lev _) (.inl rfl))))) rfl
  refine seq_n (frz_n (if_f (not_v (tb_v (refd_call (d := .list (dI L)) rfl rfl (vc := .val (.fz manyT)) rfl (.inl rfl) (rowErr_many rfl (by rw [dI_len]; omega)) (run_many _) shaped_many (.inl rfl)))) rfl)) ?_
  refine seq_n (frz_n (frz_n (if_f (not_v (tb_v (refd_call (d := .list (dI (L.take pl) ++ o.toD :: dI (L.drop (pl + 1)))) (cut L 6 rfl rfl rfl (by omega)) rfl (vc := .val (.fz manyT)) rfl (.inl ?_) (rowErr_many rfl ?_) (run_many _) shaped_many (.inl rfl)))) rfl))) ?_
  · show Sl.own (.fz (Ow.ls _).toD) = _
    rw [tD2]
  · simp [dI_len]; omega
  have nots : ∀ (l : List Sl), (∀ v ∈ l, ∃ d, v = .own (.fz d) ∧ rowErr d 12 = some (xLev (-1))) → True := fun _ _ => trivial
  -- no rows
  obtain ⟨ρ1, f1, a1, rfl⟩ := forL_n (tg := [10]) (b := w_law_0) (vs := ([.none, .list [], .tuple [], .str "0", .int 3, .bool true] : List PyData).map fun d => [slOf d])
    (fun _ ρ => ∃ a, ρ = [some (scr ns), some (I n), some (I z1), some (I sz), some (I sh), some (Lx P), some (Lx L), some (I pl), some (.own (.fz o.toD)), some (.own (.fz (.list (dI (P.take pl) ++ o.toD :: es)))), a, none, none]) (ρ := [some (scr ns), some (I n), some (I z1), some (I sz), some (I sh), some (Lx P), some (Lx L), some (I pl), some (.own (.fz o.toD)), some (.own (.fz (.list (dI (P.take pl) ++ o.toD :: es)))), none, none, none]) ⟨none, rfl⟩ (by
    rintro k v ρ hv ⟨a, rfl⟩
    have hm : v ∈ ([.none, .list [], .tuple [], .str "0", .int 3, .bool true] : List PyData).map fun d => [slOf d] := List.mem_of_getElem? hv
    obtain ⟨d, hd, rfl⟩ := List.mem_map.mp hm
    have hr : rowErr d 12 = some (xLev (-1)) := by
      simp only [List.mem_cons, List.not_mem_nil, or_false] at hd
      rcases hd with rfl | rfl | rfl | rfl | rfl | rfl <;> rfl
    exact ⟨_, .inl (if_f (not_v (tb_v (refd_call (va := .val (.fz d)) rfl rfl (tupv (w := .none) (k := -1) rfl) (.inl rfl) hr (run_lev _) (shaped_lev _) (.inl rfl)))) rfl), _, rfl⟩)
  refine seq_n (for_n (vs := ([.none, .list [], .tuple [], .str "0", .int 3, .bool true] : List PyData).map fun d => [slOf d]) rfl f1) ?_
  -- wrong days
  obtain ⟨ρ2, f2, a2, rfl⟩ := forL_n (tg := [11]) (b := w_law_1) (vs := ([.int 0, .int (n + 1), .int (-1), .bool true, .none, .str "1", .list [.int 1], .int 1000] : List PyData).map fun d => [slOf d])
    (fun _ ρ => ∃ a, ρ = [some (scr ns), some (I n), some (I z1), some (I sz), some (I sh), some (Lx P), some (Lx L), some (I pl), some (.own (.fz o.toD)), some (.own (.fz (.list (dI (P.take pl) ++ o.toD :: es)))), a1, a, none]) (ρ := [some (scr ns), some (I n), some (I z1), some (I sz), some (I sh), some (Lx P), some (Lx L), some (I pl), some (.own (.fz o.toD)), some (.own (.fz (.list (dI (P.take pl) ++ o.toD :: es)))), a1, none, none]) ⟨none, rfl⟩ (by
    rintro k v ρ hv ⟨a, rfl⟩
    have hm : v ∈ ([.int 0, .int (n + 1), .int (-1), .bool true, .none, .str "1", .list [.int 1], .int 1000] : List PyData).map fun d => [slOf d] := List.mem_of_getElem? hv
    obtain ⟨d, hd, rfl⟩ := List.mem_map.mp hm
    have hr : isNum d 1 P.length = false := by
      rw [lP]
      simp only [List.mem_cons, List.not_mem_nil, or_false] at hd
      rcases hd with rfl | rfl | rfl | rfl | rfl | rfl | rfl | rfl <;> first | rfl | (simp [isNum]; done) | (simp [isNum]; omega)
    refine ⟨_, .inl (frz_n (if_f (tb_v (bin_v (call_ok (xs := [.val (.fz (.int 2)), .val (.ls (oI P)), .val (.fz d)]) (ev_cons rfl (ev_cons (un_v rfl (list_I (isI_fz P))) (ev_cons rfl rfl))) ?_) (y := .val (.fz (.tuple [.str "number", .str "day", .bool true]))) rfl (fNe_self rfl ?_))) rfl)), _, rfl⟩
    · show φ__law_refusal [I 2, .own (.fz (Ow.ls (oI P)).toD), .own (.fz d)] = _
      rw [tD]
      exact refusal_n (.inl rfl) rfl HP (.inl rfl) hr
    · simp [SeqAt.shaped, PyData.canLay0, PyData.canLayAll0, PyData.depth, PyData.depthAll, RV.d, Ow.toD]; decide +kernel)
  have it2 : (iRow (eLst [(eK (.int 0)), (eBin fAdd (eVar 1) (eK (.int 1))), (eUn fNeg (eK (.int 1))), (eK (.bool true)), (eK .none), (eK (.str "1")), (eLst [(eK (.int 1))]), (eK (.int 1000))])) [some (scr ns), some (I n), some (I z1), some (I sz), some (I sh), some (Lx P), some (Lx L), some (I pl), some (.own (.fz o.toD)), some (.own (.fz (.list (dI (P.take pl) ++ o.toD :: es)))), a1, none, none] = .ok (([.int 0, .int (n + 1), .int (-1), .bool true, .none, .str "1", .list [.int 1], .int 1000] : List PyData).map fun d => [slOf d]) := rfl
  exact seq_n (for_n it2 f2) (ret_v rfl)
end K40

set_option Elab.async false
set_option linter.all false
set_option maxRecDepth 100000
set_option maxHeartbeats 4000000
namespace K40
open PySem PySem.Spec PyProof.Rows L2 VL PR
def top (i : Nat) : Stmt := PySem.Challenge.pw_reelvault_k40_bases_and_chains.main.body.getD i (.Pass ⟨0, 0, 0, 0⟩)
structure Txt (mg : Str → Option Value) : Prop where
  b_int : mg "int" = none
  b_range : mg "range" = none
  b_len : mg "len" = none
  b_isinstance : mg "isinstance" = none
  b_tuple : mg "tuple" = none
  b_list : mg "list" = none
  b_bool : mg "bool" = none
  b_enumerate : mg "enumerate" = none
  c_LEVEL_LIMIT : ∃ t, mg "LEVEL_LIMIT" = some (.int 7 t)
  c_LEVELS_LIMIT : ∃ t, mg "LEVELS_LIMIT" = some (.int 12 t)
section
variable {P : Program} {w : World} {K : Frag} {mg : Str → Option Value} {base : Heap}
/-! _law_row -/
abbrev s__law_row : Stmt := top 21
theorem sc__law_row : FnScope ["cell", "count", "size", "row", "rest", "k", "mixed"] ["cell", "count", "size"] (defScope s__law_row) := ⟨rfl, rfl, rfl, by decide +kernel, rfl, by decide +kernel, by decide +kernel⟩
theorem ok__law_row {f : Addr} {fd : FuncData} (F : Fun K "_law_row" "_law_row" s__law_row f fd) (T : Txt mg)  : FOk P w K mg base 1 f fd ["cell", "count", "size"] φ__law_row_k40 :=
  fok_of (N := ["cell", "count", "size", "row", "rest", "k", "mixed"]) F sc__law_row fun cdv A outer s H E hr => (bok_cons (st 3 sc__law_row.nd (eok_lst aok_nil)) (bok_cons (st 4 sc__law_row.nd (eok_intc T.b_int (ev 0))) (bok_cons (sok_for (b := w__law_row_k40_0) pass_def rfl (iok_rng1 (i := 5) T.b_range (ev 1)) (tn 5 sc__law_row.nd) (bok_one (sok_if (tok_cmp op_ge op2_ge (ev 0) (eok_pow eok_int eok_int) (nomark _)) (bok_cons (sok_app (ev 3) (eok_mod (eok_intc T.b_int (ev 4)) (ev 2))) (bok_one (st 4 sc__law_row.nd (eok_div (ev 4) (ev 2))))) (bok_cons (st 6 sc__law_row.nd (eok_mod (eok_intc T.b_int (eok_add (eok_add (eok_mul (eok_mod (eok_intc T.b_int (ev 0)) eok_int) eok_int) (eok_mul (ev 5) eok_int)) eok_int)) eok_int)) (bok_cons (st 6 sc__law_row.nd (eok_mod (eok_intc T.b_int (eok_add (eok_add (eok_mul (ev 6) (ev 6)) (eok_mul eok_int (ev 5))) eok_int)) eok_int)) (bok_one (sok_app (ev 3) (eok_mod (eok_mod (eok_intc T.b_int (eok_add (eok_mul (ev 6) (eok_add (ev 6) eok_int)) (ev 5))) eok_int) (ev 2))))))))) (bok_one (sok_ret (ev 3))))))
/-! _law_cell -/
abbrev s__law_cell : Stmt := top 20
theorem sc__law_cell : FnScope ["script", "k"] ["script", "k"] (defScope s__law_cell) := ⟨rfl, rfl, rfl, by decide +kernel, rfl, by decide +kernel, by decide +kernel⟩
theorem ok__law_cell {f : Addr} {fd : FuncData} (F : Fun K "_law_cell" "_law_cell" s__law_cell f fd) (T : Txt mg)  : FOk P w K mg base 1 f fd ["script", "k"] φ__law_cell_k40 :=
  fok_of (N := ["script", "k"]) F sc__law_cell fun cdv A outer s H E hr => (bok_cons (sok_if (tok_cmp op_lt op2_lt (ev 1) (eok_len T.b_len (ev 0)) (nomark _)) (bok_one (sok_ret (eok_ix (ev 0) (ev 1)))) bok_nil) (bok_cons (sok_if (tok_cmp (op_eqD hr.units) op2_eq (eok_len T.b_len (ev 0)) eok_int (nomark _)) (bok_one (sok_ret (eok_mul eok_int (ev 1)))) bok_nil) (bok_one (sok_ret (eok_add (eok_mod (eok_intc T.b_int (eok_ix (ev 0) (eok_mod (eok_intc T.b_int (ev 1)) (eok_len T.b_len (ev 0))))) eok_int) (eok_mul eok_int (ev 1)))))))
/-! is_row -/
abbrev s_is_row : Stmt := top 7
theorem sc_is_row : FnScope ["value"] ["value"] (defScope s_is_row) := ⟨rfl, rfl, rfl, by decide +kernel, rfl, by decide +kernel, by decide +kernel⟩
theorem ok_is_row {f : Addr} {fd : FuncData} (F : Fun K "is_row" "is_row" s_is_row f fd) (T : Txt mg)  : FOk P w K mg base 1 f fd ["value"] φ_is_row :=
  fok_of (N := ["value"]) F sc_is_row fun cdv A outer s H E hr => (bok_one (sok_ret (eok_isIs T.b_isinstance (ev 0) (tys_cons (ty_name (c := .list) T.b_list (by rfl)) (tys_cons (ty_name (c := .tuple) T.b_tuple (by rfl)) tys_nil)))))
/-! is_number -/
abbrev s_is_number : Stmt := top 6
theorem sc_is_number : FnScope ["value", "low", "high"] ["value", "low", "high"] (defScope s_is_number) := ⟨rfl, rfl, rfl, by decide +kernel, rfl, by decide +kernel, by decide +kernel⟩
theorem ok_is_number {f : Addr} {fd : FuncData} (F : Fun K "is_number" "is_number" s_is_number f fd) (T : Txt mg)  : FOk P w K mg base 1 f fd ["value", "low", "high"] φ_is_number :=
  fok_of (N := ["value", "low", "high"]) F sc_is_number fun cdv A outer s H E hr => (bok_cons (sok_if (tok_w (wok_or (tok_not (tok_val (eok_isI T.b_isinstance (ev 0) (ty_name (c := .int) T.b_int (by rfl))))) (wok_or1 (tok_val (eok_isI T.b_isinstance (ev 0) (ty_name (c := .bool) T.b_bool (by rfl))))))) (bok_one (sok_ret eok_bool)) bok_nil) (bok_one (sok_ret (eok_chain op_le op_le op2_le op2_le (ev 1) (ev 0) (ev 2)))))
/-! check_small_row -/
abbrev s_check_small_row : Stmt := top 12
theorem sc_check_small_row : FnScope ["row", "most", "at", "member"] ["row", "most"] (defScope s_check_small_row) := ⟨rfl, rfl, rfl, by decide +kernel, rfl, by decide +kernel, by decide +kernel⟩
theorem ok_check_small_row {f : Addr} {fd : FuncData} (F : Fun K "check_small_row" "check_small_row" s_check_small_row f fd) (T : Txt mg) (R_BadLevels : Rz P w K mg base "BadLevels" "at") (R_TooMany : Rz P w K mg base "TooMany" "limit") {f_is_row : Addr} {fd_is_row : FuncData} (D_is_row : Df P w K mg base 1 f_is_row fd_is_row "is_row" ["value"] φ_is_row) {f_is_number : Addr} {fd_is_number : FuncData} (D_is_number : Df P w K mg base 1 f_is_number fd_is_number "is_number" ["value", "low", "high"] φ_is_number) : FOk P w K mg base 2 f fd ["row", "most"] φ_check_small_row :=
  fok_of (N := ["row", "most", "at", "member"]) F sc_check_small_row fun cdv A outer s H E hr => (bok_cons (sok_if (tok_w (wok_or (tok_not (tok_val (D_is_row.call hr (aok_cons (ev 0) aok_nil)))) (wok_or1 (tok_cmp (op_eqD hr.units) op2_eq (eok_len T.b_len (ev 0)) eok_int (nomark _))))) (bok_one (R_BadLevels.raise hr (eok_neg eok_int))) bok_nil) (bok_cons (sok_if (tok_cmp op_gt op2_gt (eok_len T.b_len (ev 0)) (ev 1) (nomark _)) (bok_one (R_TooMany.raise hr (ev 1))) bok_nil) (bok_cons (sok_for (b := w_check_small_row_0) pass_def rfl (iok_enum (i := 2) (j := 3) T.b_enumerate (ev 0)) (pg_row rfl (pgs_cons (tn 2 sc_check_small_row.nd) (pgs_cons (tn 3 sc_check_small_row.nd) pgs_nil))) (bok_one (sok_if (tok_not (tok_val (D_is_number.call hr (aok_cons (ev 3) (aok_cons eok_int (aok_cons (eg (.int 7) T.c_LEVEL_LIMIT.choose_spec ⟨_, rfl⟩) aok_nil)))))) (bok_one (R_BadLevels.raise hr (ev 2))) bok_nil))) (bok_one (sok_ret (eok_list T.b_list (ev 0)))))))
/-! check_levels -/
abbrev s_check_levels : Stmt := top 13
theorem sc_check_levels : FnScope ["levels"] ["levels"] (defScope s_check_levels) := ⟨rfl, rfl, rfl, by decide +kernel, rfl, by decide +kernel, by decide +kernel⟩
theorem ok_check_levels {f : Addr} {fd : FuncData} (F : Fun K "check_levels" "check_levels" s_check_levels f fd) (T : Txt mg) {f_check_small_row : Addr} {fd_check_small_row : FuncData} (D_check_small_row : Df P w K mg base 2 f_check_small_row fd_check_small_row "check_small_row" ["row", "most"] φ_check_small_row) : FOk P w K mg base 3 f fd ["levels"] φ_check_levels :=
  fok_of (N := ["levels"]) F sc_check_levels fun cdv A outer s H E hr => (bok_one (sok_ret (D_check_small_row.call hr (aok_cons (ev 0) (aok_cons (eg (.int 12) T.c_LEVELS_LIMIT.choose_spec ⟨_, rfl⟩) aok_nil)))))
/-! base_list -/
abbrev s_base_list : Stmt := top 14
theorem sc_base_list : FnScope ["levels", "found", "day", "base", "earlier"] ["levels"] (defScope s_base_list) := ⟨rfl, rfl, rfl, by decide +kernel, rfl, by decide +kernel, by decide +kernel⟩
theorem ok_base_list {f : Addr} {fd : FuncData} (F : Fun K "base_list" "base_list" s_base_list f fd) (T : Txt mg)  : FOk P w K mg base 1 f fd ["levels"] φ_base_list :=
  fok_of (N := ["levels", "found", "day", "base", "earlier"]) F sc_base_list fun cdv A outer s H E hr => (bok_cons (st 1 sc_base_list.nd (eok_lst aok_nil)) (bok_cons (sok_for (b := w_base_list_1) pass_def rfl (iok_rng2 (i := 2) T.b_range eok_int (eok_add (eok_len T.b_len (ev 0)) eok_int)) (tn 2 sc_base_list.nd) (bok_cons (st 3 sc_base_list.nd eok_int) (bok_cons (sok_for (b := w_base_list_0) pass_def rfl (iok_rng2 (i := 4) T.b_range eok_int (ev 2)) (tn 4 sc_base_list.nd) (bok_one (sok_if (tok_cmp op_lt op2_lt (eok_ix (ev 0) (eok_sub (ev 4) eok_int)) (eok_ix (ev 0) (eok_sub (ev 2) eok_int)) (nomark _)) (bok_one (st 3 sc_base_list.nd (ev 4))) bok_nil))) (bok_one (sok_frz (i := 3) (sok_app (ev 1) (ev 3))))))) (bok_one (sok_ret (ev 1)))))
/-! bases -/
abbrev s_bases : Stmt := top 16
theorem sc_bases : FnScope ["levels"] ["levels"] (defScope s_bases) := ⟨rfl, rfl, rfl, by decide +kernel, rfl, by decide +kernel, by decide +kernel⟩
theorem ok_bases {f : Addr} {fd : FuncData} (F : Fun K "bases" "bases" s_bases f fd) (T : Txt mg) {f_base_list : Addr} {fd_base_list : FuncData} (D_base_list : Df P w K mg base 1 f_base_list fd_base_list "base_list" ["levels"] φ_base_list) {f_check_levels : Addr} {fd_check_levels : FuncData} (D_check_levels : Df P w K mg base 3 f_check_levels fd_check_levels "check_levels" ["levels"] φ_check_levels) : FOk P w K mg base 4 f fd ["levels"] φ_bases :=
  fok_of (N := ["levels"]) F sc_bases fun cdv A outer s H E hr => (bok_one (sok_ret (D_base_list.call hr (aok_cons (D_check_levels.call hr (aok_cons (ev 0) aok_nil)) aok_nil))))
/-! check_number -/
abbrev s_check_number : Stmt := top 8
theorem sc_check_number : FnScope ["value", "low", "high", "what"] ["value", "low", "high", "what"] (defScope s_check_number) := ⟨rfl, rfl, rfl, by decide +kernel, rfl, by decide +kernel, by decide +kernel⟩
theorem ok_check_number {f : Addr} {fd : FuncData} (F : Fun K "check_number" "check_number" s_check_number f fd) (T : Txt mg) (R_BadNumber : Rz P w K mg base "BadNumber" "what") {f_is_number : Addr} {fd_is_number : FuncData} (D_is_number : Df P w K mg base 1 f_is_number fd_is_number "is_number" ["value", "low", "high"] φ_is_number) : FOk P w K mg base 2 f fd ["value", "low", "high", "what"] φ_check_number :=
  fok_of (N := ["value", "low", "high", "what"]) F sc_check_number fun cdv A outer s H E hr => (bok_one (sok_if (tok_not (tok_val (D_is_number.call hr (aok_cons (ev 0) (aok_cons (ev 1) (aok_cons (ev 2) aok_nil)))))) (bok_one (R_BadNumber.raise hr (ev 3))) bok_nil))
/-! chain_of -/
abbrev s_chain_of : Stmt := top 15
theorem sc_chain_of : FnScope ["found", "day", "days", "place"] ["found", "day"] (defScope s_chain_of) := ⟨rfl, rfl, rfl, by decide +kernel, rfl, by decide +kernel, by decide +kernel⟩
theorem ok_chain_of {f : Addr} {fd : FuncData} (F : Fun K "chain_of" "chain_of" s_chain_of f fd) (T : Txt mg)  : FOk P w K mg base 1 f fd ["found", "day"] φ_chain_of :=
  fok_of (N := ["found", "day", "days", "place"]) F sc_chain_of fun cdv A outer s H E hr => (bok_cons (st 2 sc_chain_of.nd (eok_lst aok_nil)) (bok_cons (st 3 sc_chain_of.nd (ev 1)) (bok_cons (sok_while (b := w_chain_of_0) pass_def (tok_cmp op_gt op2_gt (ev 3) eok_int (nomark _)) (bok_cons (sok_frz (i := 3) (sok_app (ev 2) (ev 3))) (bok_one (st 3 sc_chain_of.nd (eok_ix (ev 0) (eok_sub (ev 3) eok_int)))))) (bok_one (sok_frz (i := 2) (sok_ret (eok_rev (ev 2))))))))
/-! chain -/
abbrev s_chain : Stmt := top 17
theorem sc_chain : FnScope ["levels", "day"] ["levels", "day"] (defScope s_chain) := ⟨rfl, rfl, rfl, by decide +kernel, rfl, by decide +kernel, by decide +kernel⟩
theorem ok_chain {f : Addr} {fd : FuncData} (F : Fun K "chain" "chain" s_chain f fd) (T : Txt mg) {f_check_levels : Addr} {fd_check_levels : FuncData} (D_check_levels : Df P w K mg base 3 f_check_levels fd_check_levels "check_levels" ["levels"] φ_check_levels) {f_check_number : Addr} {fd_check_number : FuncData} (D_check_number : Df P w K mg base 2 f_check_number fd_check_number "check_number" ["value", "low", "high", "what"] φ_check_number) {f_chain_of : Addr} {fd_chain_of : FuncData} (D_chain_of : Df P w K mg base 1 f_chain_of fd_chain_of "chain_of" ["found", "day"] φ_chain_of) {f_base_list : Addr} {fd_base_list : FuncData} (D_base_list : Df P w K mg base 1 f_base_list fd_base_list "base_list" ["levels"] φ_base_list) : FOk P w K mg base 4 f fd ["levels", "day"] φ_chain :=
  fok_of (N := ["levels", "day"]) F sc_chain fun cdv A outer s H E hr => (bok_cons (sok_frz (i := 0) (st 0 sc_chain.nd (D_check_levels.call hr (aok_cons (ev 0) aok_nil)))) (bok_cons (sok_ex (D_check_number.call hr (aok_cons (ev 1) (aok_cons eok_int (aok_cons (eok_len T.b_len (ev 0)) (aok_cons eok_str aok_nil)))))) (bok_one (sok_frz (i := 0) (sok_ret (D_chain_of.call hr (aok_cons (D_base_list.call hr (aok_cons (ev 0) aok_nil)) (aok_cons (ev 1) aok_nil))))))))
/-! future_days -/
abbrev s_future_days : Stmt := top 18
theorem sc_future_days : FnScope ["levels", "last", "day"] ["levels"] (defScope s_future_days) := ⟨rfl, rfl, rfl, by decide +kernel, rfl, by decide +kernel, by decide +kernel⟩
theorem ok_future_days {f : Addr} {fd : FuncData} (F : Fun K "future_days" "future_days" s_future_days f fd) (T : Txt mg) {f_check_levels : Addr} {fd_check_levels : FuncData} (D_check_levels : Df P w K mg base 3 f_check_levels fd_check_levels "check_levels" ["levels"] φ_check_levels) {f_chain_of : Addr} {fd_chain_of : FuncData} (D_chain_of : Df P w K mg base 1 f_chain_of fd_chain_of "chain_of" ["found", "day"] φ_chain_of) {f_base_list : Addr} {fd_base_list : FuncData} (D_base_list : Df P w K mg base 1 f_base_list fd_base_list "base_list" ["levels"] φ_base_list) : FOk P w K mg base 4 f fd ["levels"] φ_future_days :=
  fok_of (N := ["levels", "last", "day"]) F sc_future_days fun cdv A outer s H E hr => (bok_cons (sok_frz (i := 0) (st 0 sc_future_days.nd (D_check_levels.call hr (aok_cons (ev 0) aok_nil)))) (bok_cons (sok_frz (i := 0) (st 1 sc_future_days.nd (D_chain_of.call hr (aok_cons (D_base_list.call hr (aok_cons (ev 0) aok_nil)) (aok_cons (eok_len T.b_len (ev 0)) aok_nil))))) (bok_one (sok_frz (i := 1) (sok_ret (eok_comp rfl sc_future_days.nd (iok_row (i := 2) (ev 1)) (blkOk_by (own := [("day", 2)]) (show blkC ["levels", "last", "day"] (defScope s_future_days) _ _ = true by decide +kernel)) rfl (fun _ _ _ _ _ => ⟨(tn 2 sc_future_days.nd), (pts_oneV (tok_cmp op_lt op2_lt (eok_ix (ev 0) (eok_sub (ev 2) eok_int)) (eg (.int 7) T.c_LEVEL_LIMIT.choose_spec ⟨_, rfl⟩) (nomark _))), (ev 2)⟩)))))))
/-! _law_is_number -/
abbrev s__law_is_number : Stmt := top 22
theorem sc__law_is_number : FnScope ["told"] ["told"] (defScope s__law_is_number) := ⟨rfl, rfl, rfl, by decide +kernel, rfl, by decide +kernel, by decide +kernel⟩
theorem ok__law_is_number {f : Addr} {fd : FuncData} (F : Fun K "_law_is_number" "_law_is_number" s__law_is_number f fd) (T : Txt mg)  : FOk P w K mg base 1 f fd ["told"] φ__law_is_number_k40 :=
  fok_of (N := ["told"]) F sc__law_is_number fun cdv A outer s H E hr => (bok_one (sok_ret (eok_and (eok_isI T.b_isinstance (ev 0) (ty_name (c := .int) T.b_int (by rfl))) (eok_one (eok_not (eok_isI T.b_isinstance (ev 0) (ty_name (c := .bool) T.b_bool (by rfl))))))))
theorem okW__law_is_number {f : Addr} {fd : FuncData} (F : Fun K "_law_is_number" "_law_is_number" s__law_is_number f fd) (T : Txt mg) : FOkW P w K mg base 1 f fd ["told"] φ__law_is_number_k40 :=
  fokw_of (N := ["told"]) F sc__law_is_number fun cdv A outer s H E => (bok_one (sok_ret (eok_and (eok_isI T.b_isinstance (ev 0) (ty_name (c := .int) T.b_int (by rfl))) (eok_one (eok_not (eok_isI T.b_isinstance (ev 0) (ty_name (c := .bool) T.b_bool (by rfl))))))))
/-! _law_refusal -/
abbrev s__law_refusal : Stmt := top 27
theorem sc__law_refusal : FnScope ["door", "levels", "day", "e", "plain"] ["door", "levels", "day"] (defScope s__law_refusal) := ⟨rfl, rfl, rfl, by decide +kernel, rfl, by decide +kernel, by decide +kernel⟩
theorem ok__law_refusal {f : Addr} {fd : FuncData} (F : Fun K "_law_refusal" "_law_refusal" s__law_refusal f fd) (T : Txt mg) (G : ErrF K mg ecls eys eflds esub) {fw__law_is_number : Addr} {fwd__law_is_number : FuncData} (W__law_is_number : DfW P w K mg base 1 fw__law_is_number fwd__law_is_number "_law_is_number" ["told"] φ__law_is_number_k40) {f_check_levels : Addr} {fd_check_levels : FuncData} (D_check_levels : Df P w K mg base 3 f_check_levels fd_check_levels "check_levels" ["levels"] φ_check_levels) {f_bases : Addr} {fd_bases : FuncData} (D_bases : Df P w K mg base 4 f_bases fd_bases "bases" ["levels"] φ_bases) {f_chain : Addr} {fd_chain : FuncData} (D_chain : Df P w K mg base 4 f_chain fd_chain "chain" ["levels", "day"] φ_chain) {f_future_days : Addr} {fd_future_days : FuncData} (D_future_days : Df P w K mg base 4 f_future_days fd_future_days "future_days" ["levels"] φ_future_days) : FOk P w K mg base 5 f fd ["door", "levels", "day"] φ__law_refusal :=
  fok_of (N := ["door", "levels", "day", "e", "plain"]) F sc__law_refusal fun cdv A outer s H E hr => (bok_cons (sok_try2 G rfl rfl sc__law_refusal.nd (fun pn xe hp => (bok_one (sok_if (tok_cmp (op_eqD hr.units) op2_eq (ev 0) eok_int (nomark _)) (bok_one (sok_ex (D_check_levels.call hr (aok_cons (ev 1) aok_nil)))) (bok_one (sok_if (tok_cmp (op_eqD hr.units) op2_eq (ev 0) eok_int (nomark _)) (bok_one (sok_ex (D_bases.call hr (aok_cons (ev 1) aok_nil)))) (bok_one (sok_if (tok_cmp (op_eqD hr.units) op2_eq (ev 0) eok_int (nomark _)) (bok_one (sok_ex (D_chain.call hr (aok_cons (ev 1) (aok_cons (ev 2) aok_nil))))) (bok_one (sok_ex (D_future_days.call hr (aok_cons (ev 1) aok_nil))))))))))) (HCs.cons (c := ⟨"BadLevels", 3, (hsLet 3 4 (hAnd (hNot (hIs esub "TooMany")) (hNot (hIs esub "BadNumber"))) (hsRetT [(fun _ _ => some (.str "levels")), (hFld ecls "at"), (hAnd (hVar 4) (hAnd (hCall φ__law_is_number_k40 (hFld ecls "at")) (hAnd (hIs esub "VaultError") (hIs esub "ValueError"))))]))⟩) rfl rfl rfl (by decide) (hs_let 4 sc__law_refusal.nd (heok_and (heok_not (heok_is G T.b_isinstance)) (heok_one (heok_not (heok_is G T.b_isinstance)))) (hs_retT (haok_cons heok_str (haok_cons (heok_fld G (by decide)) (haok_cons (heok_and (heok_var 4) (heok_and (heok_call W__law_is_number hr (heok_fld G (by decide))) (heok_and (heok_is G T.b_isinstance) (heok_one (heok_is G T.b_isinstance))))) haok_nil))) (by decide))) (HCs.cons (c := ⟨"TooMany", 3, (hsRetT [(fun _ _ => some (.str "many")), (hFld ecls "limit"), (hAnd (hCall φ__law_is_number_k40 (hFld ecls "limit")) (hAnd (hNot (hIs esub "BadNumber")) (hIs esub "VaultError")))])⟩) rfl rfl rfl (by decide) (hs_retT (haok_cons heok_str (haok_cons (heok_fld G (by decide)) (haok_cons (heok_and (heok_call W__law_is_number hr (heok_fld G (by decide))) (heok_and (heok_not (heok_is G T.b_isinstance)) (heok_one (heok_is G T.b_isinstance)))) haok_nil))) (by decide)) (HCs.cons (c := ⟨"BadNumber", 3, (hsRetT [(fun _ _ => some (.str "number")), (hFld ecls "what"), (hIs esub "VaultError")])⟩) rfl rfl rfl (by decide) (hs_retT (haok_cons heok_str (haok_cons (heok_fld G (by decide)) (haok_cons (heok_is G T.b_isinstance) haok_nil))) (by decide)) HCs.nil))) (by decide)) (bok_one (sok_ret (eok_tup (aok_cons eok_str (aok_cons eok_int (aok_cons eok_bool aok_nil)))))))
/-! _law_refused -/
abbrev s__law_refused : Stmt := top 28
theorem sc__law_refused : FnScope ["levels", "day", "due", "door"] ["levels", "day", "due"] (defScope s__law_refused) := ⟨rfl, rfl, rfl, by decide +kernel, rfl, by decide +kernel, by decide +kernel⟩
theorem ok__law_refused {f : Addr} {fd : FuncData} (F : Fun K "_law_refused" "_law_refused" s__law_refused f fd) (T : Txt mg) {f__law_refusal : Addr} {fd__law_refusal : FuncData} (D__law_refusal : Df P w K mg base 5 f__law_refusal fd__law_refusal "_law_refusal" ["door", "levels", "day"] φ__law_refusal) : FOk P w K mg base 6 f fd ["levels", "day", "due"] φ__law_refused :=
  fok_of (N := ["levels", "day", "due", "door"]) F sc__law_refused fun cdv A outer s H E hr => (bok_cons (sok_for (b := w__law_refused_0) pass_def rfl (iok_rng1 (i := 3) T.b_range eok_int) (tn 3 sc__law_refused.nd) (bok_one (sok_if (tok_cmp (op_neD hr.units) op2_ne (D__law_refusal.call hr (aok_cons (ev 3) (aok_cons (ev 0) (aok_cons (ev 1) aok_nil)))) (ev 2) (nomark _)) (bok_one (sok_ret eok_bool)) bok_nil))) (bok_one (sok_ret eok_bool)))
/-! _law_are_numbers -/
abbrev s__law_are_numbers : Stmt := top 23
theorem sc__law_are_numbers : FnScope ["told", "due", "k"] ["told", "due"] (defScope s__law_are_numbers) := ⟨rfl, rfl, rfl, by decide +kernel, rfl, by decide +kernel, by decide +kernel⟩
theorem ok__law_are_numbers {f : Addr} {fd : FuncData} (F : Fun K "_law_are_numbers" "_law_are_numbers" s__law_are_numbers f fd) (T : Txt mg) {f__law_is_number : Addr} {fd__law_is_number : FuncData} (D__law_is_number : Df P w K mg base 1 f__law_is_number fd__law_is_number "_law_is_number" ["told"] φ__law_is_number_k40) : FOk P w K mg base 2 f fd ["told", "due"] φ__law_are_numbers_k40 :=
  fok_of (N := ["told", "due", "k"]) F sc__law_are_numbers fun cdv A outer s H E hr => (bok_cons (sok_if (tok_w (wok_or (tok_not (tok_val (eok_isI T.b_isinstance (ev 0) (ty_name (c := .list) T.b_list (by rfl))))) (wok_or1 (tok_cmp (op_neD hr.units) op2_ne (eok_len T.b_len (ev 0)) (eok_len T.b_len (ev 1)) (nomark _))))) (bok_one (sok_ret eok_bool)) bok_nil) (bok_cons (sok_for (b := w__law_are_numbers_k40_0) pass_def rfl (iok_rng1 (i := 2) T.b_range (eok_len T.b_len (ev 1))) (tn 2 sc__law_are_numbers.nd) (bok_one (sok_if (tok_w (wok_or (tok_not (tok_val (D__law_is_number.call hr (aok_cons (eok_ix (ev 0) (ev 2)) aok_nil)))) (wok_or1 (tok_cmp (op_neD hr.units) op2_ne (eok_ix (ev 0) (ev 2)) (eok_ix (ev 1) (ev 2)) (nomark _))))) (bok_one (sok_ret eok_bool)) bok_nil))) (bok_one (sok_ret eok_bool))))
/-! _law_is_base -/
abbrev s__law_is_base : Stmt := top 24
theorem sc__law_is_base : FnScope ["plan", "day", "base", "between"] ["plan", "day", "base"] (defScope s__law_is_base) := ⟨rfl, rfl, rfl, by decide +kernel, rfl, by decide +kernel, by decide +kernel⟩
theorem ok__law_is_base {f : Addr} {fd : FuncData} (F : Fun K "_law_is_base" "_law_is_base" s__law_is_base f fd) (T : Txt mg) {f__law_is_number : Addr} {fd__law_is_number : FuncData} (D__law_is_number : Df P w K mg base 1 f__law_is_number fd__law_is_number "_law_is_number" ["told"] φ__law_is_number_k40) : FOk P w K mg base 2 f fd ["plan", "day", "base"] φ__law_is_base :=
  fok_of (N := ["plan", "day", "base", "between"]) F sc__law_is_base fun cdv A outer s H E hr => (bok_cons (sok_if (tok_w (wok_or (tok_not (tok_val (D__law_is_number.call hr (aok_cons (ev 2) aok_nil)))) (wok_or (tok_cmp op_lt op2_lt (ev 2) eok_int (nomark _)) (wok_or1 (tok_cmp op_ge op2_ge (ev 2) (ev 1) (nomark _)))))) (bok_one (sok_ret eok_bool)) bok_nil) (bok_cons (sok_if (tok_w (wok_and (tok_cmp op_gt op2_gt (ev 2) eok_int (nomark _)) (wok_and1 (tok_cmp op_ge op2_ge (eok_ix (ev 0) (eok_sub (ev 2) eok_int)) (eok_ix (ev 0) (eok_sub (ev 1) eok_int)) (nomark _))))) (bok_one (sok_ret eok_bool)) bok_nil) (bok_cons (sok_for (b := w__law_is_base_0) pass_def rfl (iok_rng2 (i := 3) T.b_range (eok_add (ev 2) eok_int) (ev 1)) (tn 3 sc__law_is_base.nd) (bok_one (sok_if (tok_cmp op_lt op2_lt (eok_ix (ev 0) (eok_sub (ev 3) eok_int)) (eok_ix (ev 0) (eok_sub (ev 1) eok_int)) (nomark _)) (bok_one (sok_ret eok_bool)) bok_nil))) (bok_one (sok_ret eok_bool)))))
/-! _law_bases_fit -/
abbrev s__law_bases_fit : Stmt := top 25
theorem sc__law_bases_fit : FnScope ["plan", "told", "at"] ["plan", "told"] (defScope s__law_bases_fit) := ⟨rfl, rfl, rfl, by decide +kernel, rfl, by decide +kernel, by decide +kernel⟩
theorem ok__law_bases_fit {f : Addr} {fd : FuncData} (F : Fun K "_law_bases_fit" "_law_bases_fit" s__law_bases_fit f fd) (T : Txt mg) {f__law_is_base : Addr} {fd__law_is_base : FuncData} (D__law_is_base : Df P w K mg base 2 f__law_is_base fd__law_is_base "_law_is_base" ["plan", "day", "base"] φ__law_is_base) : FOk P w K mg base 3 f fd ["plan", "told"] φ__law_bases_fit :=
  fok_of (N := ["plan", "told", "at"]) F sc__law_bases_fit fun cdv A outer s H E hr => (bok_cons (sok_if (tok_w (wok_or (tok_not (tok_val (eok_isI T.b_isinstance (ev 1) (ty_name (c := .list) T.b_list (by rfl))))) (wok_or1 (tok_cmp (op_neD hr.units) op2_ne (eok_len T.b_len (ev 1)) (eok_len T.b_len (ev 0)) (nomark _))))) (bok_one (sok_ret eok_bool)) bok_nil) (bok_cons (sok_for (b := w__law_bases_fit_0) pass_def rfl (iok_rng1 (i := 2) T.b_range (eok_len T.b_len (ev 0))) (tn 2 sc__law_bases_fit.nd) (bok_one (sok_if (tok_not (tok_val (D__law_is_base.call hr (aok_cons (ev 0) (aok_cons (eok_add (ev 2) eok_int) (aok_cons (eok_ix (ev 1) (ev 2)) aok_nil)))))) (bok_one (sok_ret eok_bool)) bok_nil))) (bok_one (sok_ret eok_bool))))
/-! _law_chain_fits -/
abbrev s__law_chain_fits : Stmt := top 26
theorem sc__law_chain_fits : FnScope ["plan", "day", "told", "before", "member"] ["plan", "day", "told"] (defScope s__law_chain_fits) := ⟨rfl, rfl, rfl, by decide +kernel, rfl, by decide +kernel, by decide +kernel⟩
theorem ok__law_chain_fits {f : Addr} {fd : FuncData} (F : Fun K "_law_chain_fits" "_law_chain_fits" s__law_chain_fits f fd) (T : Txt mg) {f__law_is_base : Addr} {fd__law_is_base : FuncData} (D__law_is_base : Df P w K mg base 2 f__law_is_base fd__law_is_base "_law_is_base" ["plan", "day", "base"] φ__law_is_base) {f__law_is_number : Addr} {fd__law_is_number : FuncData} (D__law_is_number : Df P w K mg base 1 f__law_is_number fd__law_is_number "_law_is_number" ["told"] φ__law_is_number_k40) : FOk P w K mg base 3 f fd ["plan", "day", "told"] φ__law_chain_fits :=
  fok_of (N := ["plan", "day", "told", "before", "member"]) F sc__law_chain_fits fun cdv A outer s H E hr => (bok_cons (sok_if (tok_w (wok_or (tok_not (tok_val (eok_isI T.b_isinstance (ev 2) (ty_name (c := .list) T.b_list (by rfl))))) (wok_or1 (tok_cmp op_gt op2_gt (eok_len T.b_len (ev 2)) (eok_len T.b_len (ev 0)) (nomark _))))) (bok_one (sok_ret eok_bool)) bok_nil) (bok_cons (st 3 sc__law_chain_fits.nd eok_int) (bok_cons (sok_for (b := w__law_chain_fits_0) pass_def rfl (iok_row (i := 4) (ev 2)) (tn 4 sc__law_chain_fits.nd) (bok_cons (sok_if (tok_w (wok_or (tok_not (tok_val (D__law_is_number.call hr (aok_cons (ev 4) aok_nil)))) (wok_or (tok_cmp op_lt op2_lt (ev 4) eok_int (nomark _)) (wok_or1 (tok_cmp op_gt op2_gt (ev 4) (eok_len T.b_len (ev 0)) (nomark _)))))) (bok_one (sok_ret eok_bool)) bok_nil) (bok_cons (sok_frz (i := 3) (sok_if (tok_not (tok_val (D__law_is_base.call hr (aok_cons (ev 0) (aok_cons (ev 4) (aok_cons (ev 3) aok_nil)))))) (bok_one (sok_ret eok_bool)) bok_nil)) (bok_one (st 3 sc__law_chain_fits.nd (ev 4)))))) (bok_one (sok_ret (eok_cmp (op_eqD hr.units) op2_eq (ev 3) (ev 1) (nomark _)))))))
/-! _law_let -/
abbrev s__law_let : Stmt := top 29
theorem sc__law_let : FnScope ["plan", "kind", "given", "told", "day"] ["plan", "kind"] (defScope s__law_let) := ⟨rfl, rfl, rfl, by decide +kernel, rfl, by decide +kernel, by decide +kernel⟩
theorem ok__law_let {f : Addr} {fd : FuncData} (F : Fun K "_law_let" "_law_let" s__law_let f fd) (T : Txt mg) {f_check_levels : Addr} {fd_check_levels : FuncData} (D_check_levels : Df P w K mg base 3 f_check_levels fd_check_levels "check_levels" ["levels"] φ_check_levels) {f_bases : Addr} {fd_bases : FuncData} (D_bases : Df P w K mg base 4 f_bases fd_bases "bases" ["levels"] φ_bases) {f__law_are_numbers : Addr} {fd__law_are_numbers : FuncData} (D__law_are_numbers : Df P w K mg base 2 f__law_are_numbers fd__law_are_numbers "_law_are_numbers" ["told", "due"] φ__law_are_numbers_k40) {f__law_bases_fit : Addr} {fd__law_bases_fit : FuncData} (D__law_bases_fit : Df P w K mg base 3 f__law_bases_fit fd__law_bases_fit "_law_bases_fit" ["plan", "told"] φ__law_bases_fit) {f_chain : Addr} {fd_chain : FuncData} (D_chain : Df P w K mg base 4 f_chain fd_chain "chain" ["levels", "day"] φ_chain) {f__law_chain_fits : Addr} {fd__law_chain_fits : FuncData} (D__law_chain_fits : Df P w K mg base 3 f__law_chain_fits fd__law_chain_fits "_law_chain_fits" ["plan", "day", "told"] φ__law_chain_fits) : FOk P w K mg base 5 f fd ["plan", "kind"] φ__law_let :=
  fok_of (N := ["plan", "kind", "given", "told", "day"]) F sc__law_let fun cdv A outer s H E hr => (bok_cons (st 2 sc__law_let.nd (eok_list T.b_list (ev 0))) (bok_cons (sok_if (tok_cmp (op_eqD hr.units) op2_eq (ev 1) eok_int (nomark _)) (bok_one (st 2 sc__law_let.nd (eok_tuple T.b_tuple (ev 0)))) bok_nil) (bok_cons (sok_frz (i := 2) (st 3 sc__law_let.nd (D_check_levels.call hr (aok_cons (ev 2) aok_nil)))) (bok_cons (sok_if (tok_not (tok_val (D__law_are_numbers.call hr (aok_cons (ev 3) (aok_cons (ev 0) aok_nil))))) (bok_one (sok_ret eok_bool)) bok_nil) (bok_cons (sok_app (ev 3) eok_int) (bok_cons (sok_frz (i := 2) (st 3 sc__law_let.nd (D_bases.call hr (aok_cons (ev 2) aok_nil)))) (bok_cons (sok_if (tok_not (tok_val (D__law_bases_fit.call hr (aok_cons (ev 0) (aok_cons (ev 3) aok_nil))))) (bok_one (sok_ret eok_bool)) bok_nil) (bok_cons (sok_put (ev 3) eok_int eok_int) (bok_cons (sok_frz (i := 2) (sok_if (tok_not (tok_val (D__law_bases_fit.call hr (aok_cons (ev 0) (aok_cons (D_bases.call hr (aok_cons (ev 2) aok_nil)) aok_nil))))) (bok_one (sok_ret eok_bool)) bok_nil)) (bok_cons (sok_for (b := w__law_let_0) pass_def rfl (iok_rng2 (i := 4) T.b_range eok_int (eok_add (eok_len T.b_len (ev 0)) eok_int)) (tn 4 sc__law_let.nd) (bok_cons (sok_frz (i := 2) (st 3 sc__law_let.nd (D_chain.call hr (aok_cons (ev 2) (aok_cons (ev 4) aok_nil))))) (bok_cons (sok_if (tok_not (tok_val (D__law_chain_fits.call hr (aok_cons (ev 0) (aok_cons (ev 4) (aok_cons (ev 3) aok_nil)))))) (bok_one (sok_ret eok_bool)) bok_nil) (bok_one (sok_app (ev 3) eok_int))))) (bok_cons (sok_frz (i := 2) (sok_if (tok_not (tok_val (D__law_chain_fits.call hr (aok_cons (ev 0) (aok_cons (eok_len T.b_len (ev 0)) (aok_cons (D_chain.call hr (aok_cons (ev 2) (aok_cons (eok_len T.b_len (ev 0)) aok_nil))) aok_nil)))))) (bok_one (sok_ret eok_bool)) bok_nil)) (bok_one (sok_frz (i := 2) (sok_ret (eok_cmp (op_eqD hr.units) op2_eq (eok_list T.b_list (ev 2)) (ev 0) (nomark _))))))))))))))))
/-! law -/
abbrev s_law : Stmt := top 30
theorem sc_law : FnScope ["script", "count", "pick", "size", "shift", "plan", "longer", "place", "wrong", "broken", "nothing", "day", "level"] ["script"] (defScope s_law) := ⟨rfl, rfl, rfl, by decide +kernel, rfl, by decide +kernel, by decide +kernel⟩
theorem ok_law {f : Addr} {fd : FuncData} (F : Fun K "law" "law" s_law f fd) (T : Txt mg) {f__law_row : Addr} {fd__law_row : FuncData} (D__law_row : Df P w K mg base 1 f__law_row fd__law_row "_law_row" ["cell", "count", "size"] φ__law_row_k40) {f__law_cell : Addr} {fd__law_cell : FuncData} (D__law_cell : Df P w K mg base 1 f__law_cell fd__law_cell "_law_cell" ["script", "k"] φ__law_cell_k40) {f__law_refused : Addr} {fd__law_refused : FuncData} (D__law_refused : Df P w K mg base 6 f__law_refused fd__law_refused "_law_refused" ["levels", "day", "due"] φ__law_refused) {f__law_let : Addr} {fd__law_let : FuncData} (D__law_let : Df P w K mg base 5 f__law_let fd__law_let "_law_let" ["plan", "kind"] φ__law_let) {f__law_refusal : Addr} {fd__law_refusal : FuncData} (D__law_refusal : Df P w K mg base 5 f__law_refusal fd__law_refusal "_law_refusal" ["door", "levels", "day"] φ__law_refusal) : FOk P w K mg base 7 f fd ["script"] φ_law :=
  fok_of (N := ["script", "count", "pick", "size", "shift", "plan", "longer", "place", "wrong", "broken", "nothing", "day", "level"]) F sc_law fun cdv A outer s H E hr => (bok_cons (st 1 sc_law.nd (eok_add eok_int (eok_mod (eok_intc T.b_int (D__law_cell.call hr (aok_cons (ev 0) (aok_cons eok_int aok_nil)))) eok_int))) (bok_cons (st 2 sc_law.nd (eok_intc T.b_int (D__law_cell.call hr (aok_cons (ev 0) (aok_cons eok_int aok_nil))))) (bok_cons (st 3 sc_law.nd (eok_ix (eok_lst (aok_cons eok_int (aok_cons eok_int (aok_cons eok_int (aok_cons eok_int aok_nil))))) (eok_mod (ev 2) eok_int))) (bok_cons (st 4 sc_law.nd (eok_mul (eok_sub eok_int (ev 3)) (eok_mod (eok_div (ev 2) eok_int) eok_int))) (bok_cons (sok_frz (i := 3) (sok_setLc rfl sc_law.nd rfl rfl (by rfl) (iok_row (i := 12) (D__law_row.call hr (aok_cons (D__law_cell.call hr (aok_cons (ev 0) (aok_cons eok_int aok_nil))) (aok_cons (ev 1) (aok_cons (ev 3) aok_nil))))) (blkOk_by (own := [("level", 12)]) (show blkC ["script", "count", "pick", "size", "shift", "plan", "longer", "place", "wrong", "broken", "nothing", "day", "level"] (defScope s_law) _ _ = true by decide +kernel)) rfl (fun _ _ _ _ _ => ⟨(tn 12 sc_law.nd), pts_nilV, (eok_add (ev 12) (ev 4))⟩))) (bok_cons (st 6 sc_law.nd (D__law_row.call hr (aok_cons (D__law_cell.call hr (aok_cons (ev 0) (aok_cons eok_int aok_nil))) (aok_cons eok_int (aok_cons eok_int aok_nil))))) (bok_cons (sok_frz (i := 6) (sok_frz (i := 5) (sok_if (tok_w (wok_or (tok_not (tok_val (D__law_let.call hr (aok_cons (ev 5) (aok_cons (eok_mod (eok_div (ev 2) eok_int) eok_int) aok_nil))))) (wok_or1 (tok_not (tok_val (D__law_let.call hr (aok_cons (eok_slice (ev 6) pok_none (pok_some eok_int)) (aok_cons (eok_mod (eok_div (ev 2) eok_int) eok_int) aok_nil)))))))) (bok_one (sok_ret eok_bool)) bok_nil))) (bok_cons (st 7 sc_law.nd (eok_mod (eok_intc T.b_int (D__law_cell.call hr (aok_cons (ev 0) (aok_cons eok_int aok_nil)))) (ev 1))) (bok_cons (st 8 sc_law.nd (eok_ix (eok_lst (aok_cons eok_int (aok_cons (eok_neg eok_int) (aok_cons eok_bool (aok_cons eok_none (aok_cons eok_str (aok_cons (eok_lst (aok_cons eok_int aok_nil)) (aok_cons eok_bool (aok_cons eok_int (aok_cons (eok_tup aok_nil) (aok_cons (eok_neg eok_int) aok_nil))))))))))) (eok_mod (eok_intc T.b_int (D__law_cell.call hr (aok_cons (ev 0) (aok_cons eok_int aok_nil)))) eok_int))) (bok_cons (sok_frz (i := 8) (sok_frz (i := 5) (st 9 sc_law.nd (eok_add (eok_add (eok_slice (ev 5) pok_none (pok_some (ev 7))) (eok_lst (aok_cons (ev 8) aok_nil))) (eok_slice (ev 5) (pok_some (eok_add (ev 7) eok_int)) pok_none))))) (bok_cons (sok_if (tok_w (wok_and (tok_cmp (op_eqD hr.units) op2_eq (eok_mod (eok_div (ev 2) eok_int) eok_int) eok_int (nomark _)) (wok_and1 (tok_cmp op_lt op2_lt (eok_add (ev 7) eok_int) (ev 1) (nomark _))))) (bok_one (sok_put (ev 9) (eok_sub (ev 1) eok_int) eok_none)) bok_nil) (bok_cons (sok_frz (i := 9) (sok_if (tok_w (wok_or (tok_not (tok_val (D__law_refused.call hr (aok_cons (ev 9) (aok_cons eok_int (aok_cons (eok_tup (aok_cons eok_str (aok_cons (ev 7) (aok_cons eok_bool aok_nil)))) aok_nil)))))) (wok_or1 (tok_not (tok_val (D__law_refused.call hr (aok_cons (eok_tuple T.b_tuple (ev 9)) (aok_cons eok_int (aok_cons (eok_tup (aok_cons eok_str (aok_cons (ev 7) (aok_cons eok_bool aok_nil)))) aok_nil))))))))) (bok_one (sok_ret eok_bool)) bok_nil)) (bok_cons (sok_frz (i := 6) (sok_if (tok_not (tok_val (D__law_refused.call hr (aok_cons (ev 6) (aok_cons eok_int (aok_cons (eok_tup (aok_cons eok_str (aok_cons eok_int (aok_cons eok_bool aok_nil)))) aok_nil)))))) (bok_one (sok_ret eok_bool)) bok_nil)) (bok_cons (sok_frz (i := 8) (sok_frz (i := 6) (sok_if (tok_not (tok_val (D__law_refused.call hr (aok_cons (eok_add (eok_add (eok_slice (ev 6) pok_none (pok_some (ev 7))) (eok_lst (aok_cons (ev 8) aok_nil))) (eok_slice (ev 6) (pok_some (eok_add (ev 7) eok_int)) pok_none)) (aok_cons eok_int (aok_cons (eok_tup (aok_cons eok_str (aok_cons eok_int (aok_cons eok_bool aok_nil)))) aok_nil)))))) (bok_one (sok_ret eok_bool)) bok_nil))) (bok_cons (sok_for (b := w_law_0) pass_def rfl (iok_row (i := 10) (eok_lst (aok_cons eok_none (aok_cons (eok_lst aok_nil) (aok_cons (eok_tup aok_nil) (aok_cons eok_str (aok_cons eok_int (aok_cons eok_bool aok_nil)))))))) (tn 10 sc_law.nd) (bok_one (sok_if (tok_not (tok_val (D__law_refused.call hr (aok_cons (ev 10) (aok_cons eok_int (aok_cons (eok_tup (aok_cons eok_str (aok_cons (eok_neg eok_int) (aok_cons eok_bool aok_nil)))) aok_nil)))))) (bok_one (sok_ret eok_bool)) bok_nil))) (bok_cons (sok_for (b := w_law_1) pass_def rfl (iok_row (i := 11) (eok_lst (aok_cons eok_int (aok_cons (eok_add (ev 1) eok_int) (aok_cons (eok_neg eok_int) (aok_cons eok_bool (aok_cons eok_none (aok_cons eok_str (aok_cons (eok_lst (aok_cons eok_int aok_nil)) (aok_cons eok_int aok_nil)))))))))) (tn 11 sc_law.nd) (bok_one (sok_frz (i := 5) (sok_if (tok_cmp (op_neD hr.units) op2_ne (D__law_refusal.call hr (aok_cons eok_int (aok_cons (eok_list T.b_list (ev 5)) (aok_cons (ev 11) aok_nil)))) (eok_tup (aok_cons eok_str (aok_cons eok_str (aok_cons eok_bool aok_nil)))) (nomark _)) (bok_one (sok_ret eok_bool)) bok_nil)))) (bok_one (sok_ret eok_bool))))))))))))))))))
end
abbrev si_BadLevels : Stmt := inClass (top 3) 0
theorem sci_BadLevels : InScope ["self", "at"] (defScope si_BadLevels) := ⟨rfl, rfl, rfl, by decide +kernel, rfl, rfl, by decide +kernel, by decide +kernel, by decide +kernel⟩
abbrev si_TooMany : Stmt := inClass (top 4) 0
theorem sci_TooMany : InScope ["self", "limit"] (defScope si_TooMany) := ⟨rfl, rfl, rfl, by decide +kernel, rfl, rfl, by decide +kernel, by decide +kernel, by decide +kernel⟩
abbrev si_BadNumber : Stmt := inClass (top 2) 0
theorem sci_BadNumber : InScope ["self", "what"] (defScope si_BadNumber) := ⟨rfl, rfl, rfl, by decide +kernel, rfl, rfl, by decide +kernel, by decide +kernel, by decide +kernel⟩
end K40

set_option Elab.async false
set_option linter.all false
set_option maxRecDepth 100000
set_option maxHeartbeats 4000000
namespace K40
open PySem PySem.Spec PyProof.Rows L2 VL PR
theorem all_mk {l : PySem.W.OpenLaw} {w : World} {K : Frag} {h : Heap} {mg : Str → Option Value} {fa : Addr} {f0 : Addr} {od0 an0 : Option Addr} {sl0 : Array (Option Value)} {oc0 kV0 dc0 pm0 cd0 ct0 : Value} {f1 : Addr} {od1 an1 : Option Addr} {sl1 : Array (Option Value)} {oc1 kV1 dc1 pm1 cd1 ct1 : Value} {f2 : Addr} {od2 an2 : Option Addr} {sl2 : Array (Option Value)} {oc2 kV2 dc2 pm2 cd2 ct2 : Value} {f3 : Addr} {od3 an3 : Option Addr} {sl3 : Array (Option Value)} {oc3 kV3 dc3 pm3 cd3 ct3 : Value} {f4 : Addr} {od4 an4 : Option Addr} {sl4 : Array (Option Value)} {oc4 kV4 dc4 pm4 cd4 ct4 : Value} {f5 : Addr} {od5 an5 : Option Addr} {sl5 : Array (Option Value)} {oc5 kV5 dc5 pm5 cd5 ct5 : Value} {f6 : Addr} {od6 an6 : Option Addr} {sl6 : Array (Option Value)} {oc6 kV6 dc6 pm6 cd6 ct6 : Value} {f7 : Addr} {od7 an7 : Option Addr} {sl7 : Array (Option Value)} {oc7 kV7 dc7 pm7 cd7 ct7 : Value} {f8 : Addr} {od8 an8 : Option Addr} {sl8 : Array (Option Value)} {oc8 kV8 dc8 pm8 cd8 ct8 : Value} {f9 : Addr} {od9 an9 : Option Addr} {sl9 : Array (Option Value)} {oc9 kV9 dc9 pm9 cd9 ct9 : Value} {f10 : Addr} {od10 an10 : Option Addr} {sl10 : Array (Option Value)} {oc10 kV10 dc10 pm10 cd10 ct10 : Value} {f11 : Addr} {od11 an11 : Option Addr} {sl11 : Array (Option Value)} {oc11 kV11 dc11 pm11 cd11 ct11 : Value} {f12 : Addr} {od12 an12 : Option Addr} {sl12 : Array (Option Value)} {oc12 kV12 dc12 pm12 cd12 ct12 : Value} {f13 : Addr} {od13 an13 : Option Addr} {sl13 : Array (Option Value)} {oc13 kV13 dc13 pm13 cd13 ct13 : Value} {f14 : Addr} {od14 an14 : Option Addr} {sl14 : Array (Option Value)} {oc14 kV14 dc14 pm14 cd14 ct14 : Value} {f15 : Addr} {od15 an15 : Option Addr} {sl15 : Array (Option Value)} {oc15 kV15 dc15 pm15 cd15 ct15 : Value} {f16 : Addr} {od16 an16 : Option Addr} {sl16 : Array (Option Value)} {oc16 kV16 dc16 pm16 cd16 ct16 : Value} {f17 : Addr} {od17 an17 : Option Addr} {sl17 : Array (Option Value)} {oc17 kV17 dc17 pm17 cd17 ct17 : Value} {f18 : Addr} {od18 an18 : Option Addr} {sl18 : Array (Option Value)} {oc18 kV18 dc18 pm18 cd18 ct18 : Value} {f19 : Addr} {od19 an19 : Option Addr} {sl19 : Array (Option Value)} {oc19 kV19 dc19 pm19 cd19 ct19 : Value} {f20 : Addr} {od20 an20 : Option Addr} {sl20 : Array (Option Value)} {oc20 kV20 dc20 pm20 cd20 ct20 : Value} {t0 : Tok} {t1 : Tok} {C_BadLevels : Addr} {C_TooMany : Addr} {C_BadNumber : Addr} {C_VaultError : Addr} {nm_BadLevels qn_BadLevels : Str} {N_BadLevels : Addr} {bs_BadLevels bm_BadLevels : List Value} {sn_BadLevels : List Str} {sub_BadLevels : List Value} {ab_BadLevels : Bool} {col_BadLevels : Option Bool} {dd_BadLevels : Option Addr} {k0_BadLevels k1_BadLevels k2_BadLevels k3_BadLevels k5_BadLevels : Option Value} {fI_BadLevels cda_BadLevels cc_BadLevels : Addr} {ocI_BadLevels kVI_BadLevels dcI_BadLevels pmI_BadLevels ctI_BadLevels ccl_BadLevels cl_BadLevels : Value} {odI_BadLevels anI_BadLevels cdd_BadLevels cld_BadLevels : Option Addr} {osI_BadLevels ccs_BadLevels csl_BadLevels : Array (Option Value)} {vs_BadLevels : Array Value} {file_BadLevels : Str} {tf_BadLevels : Tok} {nm_TooMany qn_TooMany : Str} {N_TooMany : Addr} {bs_TooMany bm_TooMany : List Value} {sn_TooMany : List Str} {sub_TooMany : List Value} {ab_TooMany : Bool} {col_TooMany : Option Bool} {dd_TooMany : Option Addr} {k0_TooMany k1_TooMany k2_TooMany k3_TooMany k5_TooMany : Option Value} {fI_TooMany cda_TooMany cc_TooMany : Addr} {ocI_TooMany kVI_TooMany dcI_TooMany pmI_TooMany ctI_TooMany ccl_TooMany cl_TooMany : Value} {odI_TooMany anI_TooMany cdd_TooMany cld_TooMany : Option Addr} {osI_TooMany ccs_TooMany csl_TooMany : Array (Option Value)} {vs_TooMany : Array Value} {file_TooMany : Str} {tf_TooMany : Tok} {nm_BadNumber qn_BadNumber : Str} {N_BadNumber : Addr} {bs_BadNumber bm_BadNumber : List Value} {sn_BadNumber : List Str} {sub_BadNumber : List Value} {ab_BadNumber : Bool} {col_BadNumber : Option Bool} {dd_BadNumber : Option Addr} {k0_BadNumber k1_BadNumber k2_BadNumber k3_BadNumber k5_BadNumber : Option Value} {fI_BadNumber cda_BadNumber cc_BadNumber : Addr} {ocI_BadNumber kVI_BadNumber dcI_BadNumber pmI_BadNumber ctI_BadNumber ccl_BadNumber cl_BadNumber : Value} {odI_BadNumber anI_BadNumber cdd_BadNumber cld_BadNumber : Option Addr} {osI_BadNumber ccs_BadNumber csl_BadNumber : Array (Option Value)} {vs_BadNumber : Array Value} {file_BadNumber : Str} {tf_BadNumber : Tok}
    (X : K.In h) (G : h.Ns mainGlobals mg) (hfa : mg "law" = some (.ref fa)) (a0 : PySem.W.nsIn K mainGlobals "_law_row" = some (some (.ref f0)))
    (l0 : K.lookup f0 = some ⟨oc0, od0, .func (PySem.W.fnOf "_law_row" "_law_row" (defArgs s__law_row) (defBody s__law_row) (defScope s__law_row) .none kV0 dc0 pm0 an0 cd0 ct0), sl0⟩)
    (c0 : PySem.W.codeIn K cd0 "_law_row" = true)
    (k0 : PySem.W.keepIn K (.ref f0) = true)
    (a1 : PySem.W.nsIn K mainGlobals "_law_cell" = some (some (.ref f1)))
    (l1 : K.lookup f1 = some ⟨oc1, od1, .func (PySem.W.fnOf "_law_cell" "_law_cell" (defArgs s__law_cell) (defBody s__law_cell) (defScope s__law_cell) .none kV1 dc1 pm1 an1 cd1 ct1), sl1⟩)
    (c1 : PySem.W.codeIn K cd1 "_law_cell" = true)
    (k1 : PySem.W.keepIn K (.ref f1) = true)
    (a2 : PySem.W.nsIn K mainGlobals "is_row" = some (some (.ref f2)))
    (l2 : K.lookup f2 = some ⟨oc2, od2, .func (PySem.W.fnOf "is_row" "is_row" (defArgs s_is_row) (defBody s_is_row) (defScope s_is_row) .none kV2 dc2 pm2 an2 cd2 ct2), sl2⟩)
    (c2 : PySem.W.codeIn K cd2 "is_row" = true)
    (k2 : PySem.W.keepIn K (.ref f2) = true)
    (a3 : PySem.W.nsIn K mainGlobals "is_number" = some (some (.ref f3)))
    (l3 : K.lookup f3 = some ⟨oc3, od3, .func (PySem.W.fnOf "is_number" "is_number" (defArgs s_is_number) (defBody s_is_number) (defScope s_is_number) .none kV3 dc3 pm3 an3 cd3 ct3), sl3⟩)
    (c3 : PySem.W.codeIn K cd3 "is_number" = true)
    (k3 : PySem.W.keepIn K (.ref f3) = true)
    (a4 : PySem.W.nsIn K mainGlobals "check_small_row" = some (some (.ref f4)))
    (l4 : K.lookup f4 = some ⟨oc4, od4, .func (PySem.W.fnOf "check_small_row" "check_small_row" (defArgs s_check_small_row) (defBody s_check_small_row) (defScope s_check_small_row) .none kV4 dc4 pm4 an4 cd4 ct4), sl4⟩)
    (c4 : PySem.W.codeIn K cd4 "check_small_row" = true)
    (k4 : PySem.W.keepIn K (.ref f4) = true)
    (a5 : PySem.W.nsIn K mainGlobals "check_levels" = some (some (.ref f5)))
    (l5 : K.lookup f5 = some ⟨oc5, od5, .func (PySem.W.fnOf "check_levels" "check_levels" (defArgs s_check_levels) (defBody s_check_levels) (defScope s_check_levels) .none kV5 dc5 pm5 an5 cd5 ct5), sl5⟩)
    (c5 : PySem.W.codeIn K cd5 "check_levels" = true)
    (k5 : PySem.W.keepIn K (.ref f5) = true)
    (a6 : PySem.W.nsIn K mainGlobals "base_list" = some (some (.ref f6)))
    (l6 : K.lookup f6 = some ⟨oc6, od6, .func (PySem.W.fnOf "base_list" "base_list" (defArgs s_base_list) (defBody s_base_list) (defScope s_base_list) .none kV6 dc6 pm6 an6 cd6 ct6), sl6⟩)
    (c6 : PySem.W.codeIn K cd6 "base_list" = true)
    (k6 : PySem.W.keepIn K (.ref f6) = true)
    (a7 : PySem.W.nsIn K mainGlobals "bases" = some (some (.ref f7)))
    (l7 : K.lookup f7 = some ⟨oc7, od7, .func (PySem.W.fnOf "bases" "bases" (defArgs s_bases) (defBody s_bases) (defScope s_bases) .none kV7 dc7 pm7 an7 cd7 ct7), sl7⟩)
    (c7 : PySem.W.codeIn K cd7 "bases" = true)
    (k7 : PySem.W.keepIn K (.ref f7) = true)
    (a8 : PySem.W.nsIn K mainGlobals "check_number" = some (some (.ref f8)))
    (l8 : K.lookup f8 = some ⟨oc8, od8, .func (PySem.W.fnOf "check_number" "check_number" (defArgs s_check_number) (defBody s_check_number) (defScope s_check_number) .none kV8 dc8 pm8 an8 cd8 ct8), sl8⟩)
    (c8 : PySem.W.codeIn K cd8 "check_number" = true)
    (k8 : PySem.W.keepIn K (.ref f8) = true)
    (a9 : PySem.W.nsIn K mainGlobals "chain_of" = some (some (.ref f9)))
    (l9 : K.lookup f9 = some ⟨oc9, od9, .func (PySem.W.fnOf "chain_of" "chain_of" (defArgs s_chain_of) (defBody s_chain_of) (defScope s_chain_of) .none kV9 dc9 pm9 an9 cd9 ct9), sl9⟩)
    (c9 : PySem.W.codeIn K cd9 "chain_of" = true)
    (k9 : PySem.W.keepIn K (.ref f9) = true)
    (a10 : PySem.W.nsIn K mainGlobals "chain" = some (some (.ref f10)))
    (l10 : K.lookup f10 = some ⟨oc10, od10, .func (PySem.W.fnOf "chain" "chain" (defArgs s_chain) (defBody s_chain) (defScope s_chain) .none kV10 dc10 pm10 an10 cd10 ct10), sl10⟩)
    (c10 : PySem.W.codeIn K cd10 "chain" = true)
    (k10 : PySem.W.keepIn K (.ref f10) = true)
    (a11 : PySem.W.nsIn K mainGlobals "future_days" = some (some (.ref f11)))
    (l11 : K.lookup f11 = some ⟨oc11, od11, .func (PySem.W.fnOf "future_days" "future_days" (defArgs s_future_days) (defBody s_future_days) (defScope s_future_days) .none kV11 dc11 pm11 an11 cd11 ct11), sl11⟩)
    (c11 : PySem.W.codeIn K cd11 "future_days" = true)
    (k11 : PySem.W.keepIn K (.ref f11) = true)
    (a12 : PySem.W.nsIn K mainGlobals "_law_is_number" = some (some (.ref f12)))
    (l12 : K.lookup f12 = some ⟨oc12, od12, .func (PySem.W.fnOf "_law_is_number" "_law_is_number" (defArgs s__law_is_number) (defBody s__law_is_number) (defScope s__law_is_number) .none kV12 dc12 pm12 an12 cd12 ct12), sl12⟩)
    (c12 : PySem.W.codeIn K cd12 "_law_is_number" = true)
    (k12 : PySem.W.keepIn K (.ref f12) = true)
    (a13 : PySem.W.nsIn K mainGlobals "_law_refusal" = some (some (.ref f13)))
    (l13 : K.lookup f13 = some ⟨oc13, od13, .func (PySem.W.fnOf "_law_refusal" "_law_refusal" (defArgs s__law_refusal) (defBody s__law_refusal) (defScope s__law_refusal) .none kV13 dc13 pm13 an13 cd13 ct13), sl13⟩)
    (c13 : PySem.W.codeIn K cd13 "_law_refusal" = true)
    (k13 : PySem.W.keepIn K (.ref f13) = true)
    (a14 : PySem.W.nsIn K mainGlobals "_law_refused" = some (some (.ref f14)))
    (l14 : K.lookup f14 = some ⟨oc14, od14, .func (PySem.W.fnOf "_law_refused" "_law_refused" (defArgs s__law_refused) (defBody s__law_refused) (defScope s__law_refused) .none kV14 dc14 pm14 an14 cd14 ct14), sl14⟩)
    (c14 : PySem.W.codeIn K cd14 "_law_refused" = true)
    (k14 : PySem.W.keepIn K (.ref f14) = true)
    (a15 : PySem.W.nsIn K mainGlobals "_law_are_numbers" = some (some (.ref f15)))
    (l15 : K.lookup f15 = some ⟨oc15, od15, .func (PySem.W.fnOf "_law_are_numbers" "_law_are_numbers" (defArgs s__law_are_numbers) (defBody s__law_are_numbers) (defScope s__law_are_numbers) .none kV15 dc15 pm15 an15 cd15 ct15), sl15⟩)
    (c15 : PySem.W.codeIn K cd15 "_law_are_numbers" = true)
    (k15 : PySem.W.keepIn K (.ref f15) = true)
    (a16 : PySem.W.nsIn K mainGlobals "_law_is_base" = some (some (.ref f16)))
    (l16 : K.lookup f16 = some ⟨oc16, od16, .func (PySem.W.fnOf "_law_is_base" "_law_is_base" (defArgs s__law_is_base) (defBody s__law_is_base) (defScope s__law_is_base) .none kV16 dc16 pm16 an16 cd16 ct16), sl16⟩)
    (c16 : PySem.W.codeIn K cd16 "_law_is_base" = true)
    (k16 : PySem.W.keepIn K (.ref f16) = true)
    (a17 : PySem.W.nsIn K mainGlobals "_law_bases_fit" = some (some (.ref f17)))
    (l17 : K.lookup f17 = some ⟨oc17, od17, .func (PySem.W.fnOf "_law_bases_fit" "_law_bases_fit" (defArgs s__law_bases_fit) (defBody s__law_bases_fit) (defScope s__law_bases_fit) .none kV17 dc17 pm17 an17 cd17 ct17), sl17⟩)
    (c17 : PySem.W.codeIn K cd17 "_law_bases_fit" = true)
    (k17 : PySem.W.keepIn K (.ref f17) = true)
    (a18 : PySem.W.nsIn K mainGlobals "_law_chain_fits" = some (some (.ref f18)))
    (l18 : K.lookup f18 = some ⟨oc18, od18, .func (PySem.W.fnOf "_law_chain_fits" "_law_chain_fits" (defArgs s__law_chain_fits) (defBody s__law_chain_fits) (defScope s__law_chain_fits) .none kV18 dc18 pm18 an18 cd18 ct18), sl18⟩)
    (c18 : PySem.W.codeIn K cd18 "_law_chain_fits" = true)
    (k18 : PySem.W.keepIn K (.ref f18) = true)
    (a19 : PySem.W.nsIn K mainGlobals "_law_let" = some (some (.ref f19)))
    (l19 : K.lookup f19 = some ⟨oc19, od19, .func (PySem.W.fnOf "_law_let" "_law_let" (defArgs s__law_let) (defBody s__law_let) (defScope s__law_let) .none kV19 dc19 pm19 an19 cd19 ct19), sl19⟩)
    (c19 : PySem.W.codeIn K cd19 "_law_let" = true)
    (k19 : PySem.W.keepIn K (.ref f19) = true)
    (a20 : PySem.W.nsIn K mainGlobals "law" = some (some (.ref f20)))
    (l20 : K.lookup f20 = some ⟨oc20, od20, .func (PySem.W.fnOf "law" "law" (defArgs s_law) (defBody s_law) (defScope s_law) .none kV20 dc20 pm20 an20 cd20 ct20), sl20⟩)
    (c20 : PySem.W.codeIn K cd20 "law" = true)
    (k20 : PySem.W.keepIn K (.ref f20) = true)
    (z0 : PySem.W.nsIn K mainGlobals "int" = some none)
    (z1 : PySem.W.nsIn K mainGlobals "range" = some none)
    (z2 : PySem.W.nsIn K mainGlobals "len" = some none)
    (z3 : PySem.W.nsIn K mainGlobals "isinstance" = some none)
    (z4 : PySem.W.nsIn K mainGlobals "tuple" = some none)
    (z5 : PySem.W.nsIn K mainGlobals "list" = some none)
    (z6 : PySem.W.nsIn K mainGlobals "bool" = some none)
    (z7 : PySem.W.nsIn K mainGlobals "enumerate" = some none)
    (n0 : PySem.W.nsIn K mainGlobals "LEVEL_LIMIT" = some (some (.int 7 t0)))
    (n1 : PySem.W.nsIn K mainGlobals "LEVELS_LIMIT" = some (some (.int 12 t1)))
    (xs : PySem.W.nsIn K mainGlobals "super" = some none)
    (xo : PySem.W.nsIn K PySem.cStatics "thirdparty.any" = some none)
    (xt : (l.prog.main.scope.names.lookup ("super" : Str)).isSome = false)
    (xn_ValueError : PySem.W.nsIn K mainGlobals "ValueError" = some none)
    (xm_BadLevels : PySem.W.nsIn K mainGlobals "BadLevels" = some (some (.ref C_BadLevels)))
    (xm_TooMany : PySem.W.nsIn K mainGlobals "TooMany" = some (some (.ref C_TooMany)))
    (xm_BadNumber : PySem.W.nsIn K mainGlobals "BadNumber" = some (some (.ref C_BadNumber)))
    (xm_VaultError : PySem.W.nsIn K mainGlobals "VaultError" = some (some (.ref C_VaultError)))
    (xl_BadLevels : K.lookup C_BadLevels = some (excClassObj nm_BadLevels qn_BadLevels C_BadLevels N_BadLevels bs_BadLevels bm_BadLevels true sn_BadLevels sub_BadLevels ab_BadLevels col_BadLevels dd_BadLevels k0_BadLevels k1_BadLevels k2_BadLevels k3_BadLevels k5_BadLevels "ValueError.__new__"))
    (xb_BadLevels : PySem.HandSPX.refsVE bm_BadLevels = true)
    (xsa_BadLevels : PySem.W.findIn K (.ref C_BadLevels) "__setattr__" = some (some (.builtin "object.__setattr__")))
    (xex_BadLevels : PySem.W.subIn K (.ref C_BadLevels) (.type "BaseException") = some true)
    (xty_BadLevels : PySem.W.typeIn K (.ref C_BadLevels) = some (.type "type"))
    (xkp_BadLevels : PySem.W.keepIn K (.ref C_BadLevels) = true)
    (xic_BadLevels : PySem.W.findIn K (.ref C_BadLevels) "__init__" = some (some (.ref fI_BadLevels)))
    (xti_BadLevels : PySem.W.typeIn K (.ref fI_BadLevels) = some (.type "function"))
    (xlf_BadLevels : K.lookup fI_BadLevels = some ⟨ocI_BadLevels, odI_BadLevels, .func (PySem.W.ksFn "__init__" "BadLevels.__init__" (defArgs si_BadLevels) (defBody si_BadLevels) (defScope si_BadLevels) .none kVI_BadLevels dcI_BadLevels pmI_BadLevels anI_BadLevels (.ref cda_BadLevels) ctI_BadLevels cc_BadLevels), osI_BadLevels⟩)
    (xcd_BadLevels : PySem.W.codeIn K (.ref cda_BadLevels) "BadLevels.__init__" = true)
    (xlc_BadLevels : K.lookup cda_BadLevels = some ⟨ccl_BadLevels, cdd_BadLevels, .fields vs_BadLevels, ccs_BadLevels⟩)
    (xv2_BadLevels : vs_BadLevels[2]? = some (.str file_BadLevels tf_BadLevels))
    (xff_BadLevels : ((l.prog.main.file : Str) == file_BadLevels) = true)
    (xle_BadLevels : K.lookup cc_BadLevels = some ⟨cl_BadLevels, cld_BadLevels, .cell (some (.ref C_BadLevels)), csl_BadLevels⟩)
    (xms_BadLevels : PySem.W.ks_superIn K C_BadLevels C_BadLevels "__init__" = some (some (.builtin "ValueError.__init__")))
    (xf_at_BadLevels : PySem.W.findIn K (.ref C_BadLevels) "at" = some none)
    (xf_limit_BadLevels : PySem.W.findIn K (.ref C_BadLevels) "limit" = some none)
    (xf_what_BadLevels : PySem.W.findIn K (.ref C_BadLevels) "what" = some none)
    (eg_BadLevels : PySem.W.findIn K (.ref C_BadLevels) "__getattribute__" = some (some (.builtin "BaseException.__getattribute__")))
    (ek_BadLevels : PySem.W.findIn K (.ref C_BadLevels) "__getattr__" = some none)
    (ed_BadLevels : PySem.W.hasDictIn K C_BadLevels = true)
    (ea_BadLevels : PySem.W.findIn K (.ref C_BadLevels) "__class__" = some (some (.builtin "object.__class__")))
    (em_BadLevels : PySem.W.mroIn K C_BadLevels (.type "object") = some true)
    (qk_BadNumber_BadLevels : PySem.W.kitOne K (.ref C_BadLevels) (.ref C_BadNumber) = some false)
    (qe_BadNumber_BadLevels : PySem.W.exmOne K (.ref C_BadLevels) (.ref C_BadNumber) = some false)
    (qk_VaultError_BadLevels : PySem.W.kitOne K (.ref C_BadLevels) (.ref C_VaultError) = some true)
    (qe_VaultError_BadLevels : PySem.W.exmOne K (.ref C_BadLevels) (.ref C_VaultError) = some true)
    (qk_TooMany_BadLevels : PySem.W.kitOne K (.ref C_BadLevels) (.ref C_TooMany) = some false)
    (qe_TooMany_BadLevels : PySem.W.exmOne K (.ref C_BadLevels) (.ref C_TooMany) = some false)
    (qk_BadLevels_BadLevels : PySem.W.kitOne K (.ref C_BadLevels) (.ref C_BadLevels) = some true)
    (qe_BadLevels_BadLevels : PySem.W.exmOne K (.ref C_BadLevels) (.ref C_BadLevels) = some true)
    (qk_ValueError_BadLevels : PySem.W.kitOne K (.ref C_BadLevels) (.type "ValueError") = some true)
    (qe_ValueError_BadLevels : PySem.W.exmOne K (.ref C_BadLevels) (.type "ValueError") = some true)
    (xl_TooMany : K.lookup C_TooMany = some (excClassObj nm_TooMany qn_TooMany C_TooMany N_TooMany bs_TooMany bm_TooMany true sn_TooMany sub_TooMany ab_TooMany col_TooMany dd_TooMany k0_TooMany k1_TooMany k2_TooMany k3_TooMany k5_TooMany "ValueError.__new__"))
    (xb_TooMany : PySem.HandSPX.refsVE bm_TooMany = true)
    (xsa_TooMany : PySem.W.findIn K (.ref C_TooMany) "__setattr__" = some (some (.builtin "object.__setattr__")))
    (xex_TooMany : PySem.W.subIn K (.ref C_TooMany) (.type "BaseException") = some true)
    (xty_TooMany : PySem.W.typeIn K (.ref C_TooMany) = some (.type "type"))
    (xkp_TooMany : PySem.W.keepIn K (.ref C_TooMany) = true)
    (xic_TooMany : PySem.W.findIn K (.ref C_TooMany) "__init__" = some (some (.ref fI_TooMany)))
    (xti_TooMany : PySem.W.typeIn K (.ref fI_TooMany) = some (.type "function"))
    (xlf_TooMany : K.lookup fI_TooMany = some ⟨ocI_TooMany, odI_TooMany, .func (PySem.W.ksFn "__init__" "TooMany.__init__" (defArgs si_TooMany) (defBody si_TooMany) (defScope si_TooMany) .none kVI_TooMany dcI_TooMany pmI_TooMany anI_TooMany (.ref cda_TooMany) ctI_TooMany cc_TooMany), osI_TooMany⟩)
    (xcd_TooMany : PySem.W.codeIn K (.ref cda_TooMany) "TooMany.__init__" = true)
    (xlc_TooMany : K.lookup cda_TooMany = some ⟨ccl_TooMany, cdd_TooMany, .fields vs_TooMany, ccs_TooMany⟩)
    (xv2_TooMany : vs_TooMany[2]? = some (.str file_TooMany tf_TooMany))
    (xff_TooMany : ((l.prog.main.file : Str) == file_TooMany) = true)
    (xle_TooMany : K.lookup cc_TooMany = some ⟨cl_TooMany, cld_TooMany, .cell (some (.ref C_TooMany)), csl_TooMany⟩)
    (xms_TooMany : PySem.W.ks_superIn K C_TooMany C_TooMany "__init__" = some (some (.builtin "ValueError.__init__")))
    (xf_at_TooMany : PySem.W.findIn K (.ref C_TooMany) "at" = some none)
    (xf_limit_TooMany : PySem.W.findIn K (.ref C_TooMany) "limit" = some none)
    (xf_what_TooMany : PySem.W.findIn K (.ref C_TooMany) "what" = some none)
    (eg_TooMany : PySem.W.findIn K (.ref C_TooMany) "__getattribute__" = some (some (.builtin "BaseException.__getattribute__")))
    (ek_TooMany : PySem.W.findIn K (.ref C_TooMany) "__getattr__" = some none)
    (ed_TooMany : PySem.W.hasDictIn K C_TooMany = true)
    (ea_TooMany : PySem.W.findIn K (.ref C_TooMany) "__class__" = some (some (.builtin "object.__class__")))
    (em_TooMany : PySem.W.mroIn K C_TooMany (.type "object") = some true)
    (qk_BadNumber_TooMany : PySem.W.kitOne K (.ref C_TooMany) (.ref C_BadNumber) = some false)
    (qe_BadNumber_TooMany : PySem.W.exmOne K (.ref C_TooMany) (.ref C_BadNumber) = some false)
    (qk_VaultError_TooMany : PySem.W.kitOne K (.ref C_TooMany) (.ref C_VaultError) = some true)
    (qe_VaultError_TooMany : PySem.W.exmOne K (.ref C_TooMany) (.ref C_VaultError) = some true)
    (qk_TooMany_TooMany : PySem.W.kitOne K (.ref C_TooMany) (.ref C_TooMany) = some true)
    (qe_TooMany_TooMany : PySem.W.exmOne K (.ref C_TooMany) (.ref C_TooMany) = some true)
    (qk_BadLevels_TooMany : PySem.W.kitOne K (.ref C_TooMany) (.ref C_BadLevels) = some false)
    (qe_BadLevels_TooMany : PySem.W.exmOne K (.ref C_TooMany) (.ref C_BadLevels) = some false)
    (qk_ValueError_TooMany : PySem.W.kitOne K (.ref C_TooMany) (.type "ValueError") = some true)
    (qe_ValueError_TooMany : PySem.W.exmOne K (.ref C_TooMany) (.type "ValueError") = some true)
    (xl_BadNumber : K.lookup C_BadNumber = some (excClassObj nm_BadNumber qn_BadNumber C_BadNumber N_BadNumber bs_BadNumber bm_BadNumber true sn_BadNumber sub_BadNumber ab_BadNumber col_BadNumber dd_BadNumber k0_BadNumber k1_BadNumber k2_BadNumber k3_BadNumber k5_BadNumber "ValueError.__new__"))
    (xb_BadNumber : PySem.HandSPX.refsVE bm_BadNumber = true)
    (xsa_BadNumber : PySem.W.findIn K (.ref C_BadNumber) "__setattr__" = some (some (.builtin "object.__setattr__")))
    (xex_BadNumber : PySem.W.subIn K (.ref C_BadNumber) (.type "BaseException") = some true)
    (xty_BadNumber : PySem.W.typeIn K (.ref C_BadNumber) = some (.type "type"))
    (xkp_BadNumber : PySem.W.keepIn K (.ref C_BadNumber) = true)
    (xic_BadNumber : PySem.W.findIn K (.ref C_BadNumber) "__init__" = some (some (.ref fI_BadNumber)))
    (xti_BadNumber : PySem.W.typeIn K (.ref fI_BadNumber) = some (.type "function"))
    (xlf_BadNumber : K.lookup fI_BadNumber = some ⟨ocI_BadNumber, odI_BadNumber, .func (PySem.W.ksFn "__init__" "BadNumber.__init__" (defArgs si_BadNumber) (defBody si_BadNumber) (defScope si_BadNumber) .none kVI_BadNumber dcI_BadNumber pmI_BadNumber anI_BadNumber (.ref cda_BadNumber) ctI_BadNumber cc_BadNumber), osI_BadNumber⟩)
    (xcd_BadNumber : PySem.W.codeIn K (.ref cda_BadNumber) "BadNumber.__init__" = true)
    (xlc_BadNumber : K.lookup cda_BadNumber = some ⟨ccl_BadNumber, cdd_BadNumber, .fields vs_BadNumber, ccs_BadNumber⟩)
    (xv2_BadNumber : vs_BadNumber[2]? = some (.str file_BadNumber tf_BadNumber))
    (xff_BadNumber : ((l.prog.main.file : Str) == file_BadNumber) = true)
    (xle_BadNumber : K.lookup cc_BadNumber = some ⟨cl_BadNumber, cld_BadNumber, .cell (some (.ref C_BadNumber)), csl_BadNumber⟩)
    (xms_BadNumber : PySem.W.ks_superIn K C_BadNumber C_BadNumber "__init__" = some (some (.builtin "ValueError.__init__")))
    (xf_at_BadNumber : PySem.W.findIn K (.ref C_BadNumber) "at" = some none)
    (xf_limit_BadNumber : PySem.W.findIn K (.ref C_BadNumber) "limit" = some none)
    (xf_what_BadNumber : PySem.W.findIn K (.ref C_BadNumber) "what" = some none)
    (eg_BadNumber : PySem.W.findIn K (.ref C_BadNumber) "__getattribute__" = some (some (.builtin "BaseException.__getattribute__")))
    (ek_BadNumber : PySem.W.findIn K (.ref C_BadNumber) "__getattr__" = some none)
    (ed_BadNumber : PySem.W.hasDictIn K C_BadNumber = true)
    (ea_BadNumber : PySem.W.findIn K (.ref C_BadNumber) "__class__" = some (some (.builtin "object.__class__")))
    (em_BadNumber : PySem.W.mroIn K C_BadNumber (.type "object") = some true)
    (qk_BadNumber_BadNumber : PySem.W.kitOne K (.ref C_BadNumber) (.ref C_BadNumber) = some true)
    (qe_BadNumber_BadNumber : PySem.W.exmOne K (.ref C_BadNumber) (.ref C_BadNumber) = some true)
    (qk_VaultError_BadNumber : PySem.W.kitOne K (.ref C_BadNumber) (.ref C_VaultError) = some true)
    (qe_VaultError_BadNumber : PySem.W.exmOne K (.ref C_BadNumber) (.ref C_VaultError) = some true)
    (qk_TooMany_BadNumber : PySem.W.kitOne K (.ref C_BadNumber) (.ref C_TooMany) = some false)
    (qe_TooMany_BadNumber : PySem.W.exmOne K (.ref C_BadNumber) (.ref C_TooMany) = some false)
    (qk_BadLevels_BadNumber : PySem.W.kitOne K (.ref C_BadNumber) (.ref C_BadLevels) = some false)
    (qe_BadLevels_BadNumber : PySem.W.exmOne K (.ref C_BadNumber) (.ref C_BadLevels) = some false)
    (qk_ValueError_BadNumber : PySem.W.kitOne K (.ref C_BadNumber) (.type "ValueError") = some true)
    (qe_ValueError_BadNumber : PySem.W.exmOne K (.ref C_BadNumber) (.type "ValueError") = some true)
    (en : PySem.W.specialIn K (.builtin "object.__class__") "__get__" = some (some (.builtin "getset_descriptor.__get__")))
    (et : PySem.W.takesIn K (.builtin "object.__class__") = some true) :
    ∃ fd : FuncData, (∀ (s : Shared) (u : Value), BindsTo s fd ⟨[u], []⟩ [("script", u)]) ∧ ∀ base : Heap, K.In base → base.Ns mainGlobals mg → FOk l.prog w K mg base 7 fa fd ["script"] φ_law := by
  have e := hfa.symm.trans (PySem.W.mg_of X G a20)
  cases e
  have T : Txt mg := ⟨PySem.W.mg_none_of X G z0, PySem.W.mg_none_of X G z1, PySem.W.mg_none_of X G z2, PySem.W.mg_none_of X G z3, PySem.W.mg_none_of X G z4, PySem.W.mg_none_of X G z5, PySem.W.mg_none_of X G z6, PySem.W.mg_none_of X G z7, ⟨_, PySem.W.mg_of X G n0⟩, ⟨_, PySem.W.mg_of X G n1⟩⟩
  have F0 := fun_mk (st := s__law_row) l0 c0 k0
  have B0 := F0.binds (ps := ["cell", "count", "size"]) fun _ _ _ _ _ _ us hl => match us, hl with | [_, _, _], _ => rfl
  have F1 := fun_mk (st := s__law_cell) l1 c1 k1
  have B1 := F1.binds (ps := ["script", "k"]) fun _ _ _ _ _ _ us hl => match us, hl with | [_, _], _ => rfl
  have F2 := fun_mk (st := s_is_row) l2 c2 k2
  have B2 := F2.binds (ps := ["value"]) fun _ _ _ _ _ _ us hl => match us, hl with | [_], _ => rfl
  have F3 := fun_mk (st := s_is_number) l3 c3 k3
  have B3 := F3.binds (ps := ["value", "low", "high"]) fun _ _ _ _ _ _ us hl => match us, hl with | [_, _, _], _ => rfl
  have F4 := fun_mk (st := s_check_small_row) l4 c4 k4
  have B4 := F4.binds (ps := ["row", "most"]) fun _ _ _ _ _ _ us hl => match us, hl with | [_, _], _ => rfl
  have F5 := fun_mk (st := s_check_levels) l5 c5 k5
  have B5 := F5.binds (ps := ["levels"]) fun _ _ _ _ _ _ us hl => match us, hl with | [_], _ => rfl
  have F6 := fun_mk (st := s_base_list) l6 c6 k6
  have B6 := F6.binds (ps := ["levels"]) fun _ _ _ _ _ _ us hl => match us, hl with | [_], _ => rfl
  have F7 := fun_mk (st := s_bases) l7 c7 k7
  have B7 := F7.binds (ps := ["levels"]) fun _ _ _ _ _ _ us hl => match us, hl with | [_], _ => rfl
  have F8 := fun_mk (st := s_check_number) l8 c8 k8
  have B8 := F8.binds (ps := ["value", "low", "high", "what"]) fun _ _ _ _ _ _ us hl => match us, hl with | [_, _, _, _], _ => rfl
  have F9 := fun_mk (st := s_chain_of) l9 c9 k9
  have B9 := F9.binds (ps := ["found", "day"]) fun _ _ _ _ _ _ us hl => match us, hl with | [_, _], _ => rfl
  have F10 := fun_mk (st := s_chain) l10 c10 k10
  have B10 := F10.binds (ps := ["levels", "day"]) fun _ _ _ _ _ _ us hl => match us, hl with | [_, _], _ => rfl
  have F11 := fun_mk (st := s_future_days) l11 c11 k11
  have B11 := F11.binds (ps := ["levels"]) fun _ _ _ _ _ _ us hl => match us, hl with | [_], _ => rfl
  have F12 := fun_mk (st := s__law_is_number) l12 c12 k12
  have B12 := F12.binds (ps := ["told"]) fun _ _ _ _ _ _ us hl => match us, hl with | [_], _ => rfl
  have F13 := fun_mk (st := s__law_refusal) l13 c13 k13
  have B13 := F13.binds (ps := ["door", "levels", "day"]) fun _ _ _ _ _ _ us hl => match us, hl with | [_, _, _], _ => rfl
  have F14 := fun_mk (st := s__law_refused) l14 c14 k14
  have B14 := F14.binds (ps := ["levels", "day", "due"]) fun _ _ _ _ _ _ us hl => match us, hl with | [_, _, _], _ => rfl
  have F15 := fun_mk (st := s__law_are_numbers) l15 c15 k15
  have B15 := F15.binds (ps := ["told", "due"]) fun _ _ _ _ _ _ us hl => match us, hl with | [_, _], _ => rfl
  have F16 := fun_mk (st := s__law_is_base) l16 c16 k16
  have B16 := F16.binds (ps := ["plan", "day", "base"]) fun _ _ _ _ _ _ us hl => match us, hl with | [_, _, _], _ => rfl
  have F17 := fun_mk (st := s__law_bases_fit) l17 c17 k17
  have B17 := F17.binds (ps := ["plan", "told"]) fun _ _ _ _ _ _ us hl => match us, hl with | [_, _], _ => rfl
  have F18 := fun_mk (st := s__law_chain_fits) l18 c18 k18
  have B18 := F18.binds (ps := ["plan", "day", "told"]) fun _ _ _ _ _ _ us hl => match us, hl with | [_, _, _], _ => rfl
  have F19 := fun_mk (st := s__law_let) l19 c19 k19
  have B19 := F19.binds (ps := ["plan", "kind"]) fun _ _ _ _ _ _ us hl => match us, hl with | [_, _], _ => rfl
  have F20 := fun_mk (st := s_law) l20 c20 k20
  have B20 := F20.binds (ps := ["script"]) fun _ _ _ _ _ _ us hl => match us, hl with | [_], _ => rfl
  have M_BadLevels := PySem.W.mg_of X G xm_BadLevels
  have M_TooMany := PySem.W.mg_of X G xm_TooMany
  have M_BadNumber := PySem.W.mg_of X G xm_BadNumber
  have M_VaultError := PySem.W.mg_of X G xm_VaultError
  have OX_BadLevels := oexC_mk xl_BadLevels xb_BadLevels xsa_BadLevels xex_BadLevels xty_BadLevels xkp_BadLevels
  have IX_BadLevels := iniC_mk (P := l.prog) (st := si_BadLevels) xlf_BadLevels xcd_BadLevels xlc_BadLevels xv2_BadLevels xff_BadLevels xle_BadLevels xo xms_BadLevels xt
  have R_BadLevels : ∀ base : Heap, Rz l.prog w K mg base "BadLevels" "at" := fun base => rz_mk OX_BadLevels IX_BadLevels M_BadLevels xic_BadLevels xti_BadLevels xf_at_BadLevels (PySem.W.mg_none_of X G xs) (fun _ _ _ _ => ⟨_, rfl⟩) sci_BadLevels rfl rfl (fun _ _ _ _ _ _ _ us hl => match us, hl with | [_, _], _ => rfl)
  have OX_TooMany := oexC_mk xl_TooMany xb_TooMany xsa_TooMany xex_TooMany xty_TooMany xkp_TooMany
  have IX_TooMany := iniC_mk (P := l.prog) (st := si_TooMany) xlf_TooMany xcd_TooMany xlc_TooMany xv2_TooMany xff_TooMany xle_TooMany xo xms_TooMany xt
  have R_TooMany : ∀ base : Heap, Rz l.prog w K mg base "TooMany" "limit" := fun base => rz_mk OX_TooMany IX_TooMany M_TooMany xic_TooMany xti_TooMany xf_limit_TooMany (PySem.W.mg_none_of X G xs) (fun _ _ _ _ => ⟨_, rfl⟩) sci_TooMany rfl rfl (fun _ _ _ _ _ _ _ us hl => match us, hl with | [_, _], _ => rfl)
  have OX_BadNumber := oexC_mk xl_BadNumber xb_BadNumber xsa_BadNumber xex_BadNumber xty_BadNumber xkp_BadNumber
  have IX_BadNumber := iniC_mk (P := l.prog) (st := si_BadNumber) xlf_BadNumber xcd_BadNumber xlc_BadNumber xv2_BadNumber xff_BadNumber xle_BadNumber xo xms_BadNumber xt
  have R_BadNumber : ∀ base : Heap, Rz l.prog w K mg base "BadNumber" "what" := fun base => rz_mk OX_BadNumber IX_BadNumber M_BadNumber xic_BadNumber xti_BadNumber xf_what_BadNumber (PySem.W.mg_none_of X G xs) (fun _ _ _ _ => ⟨_, rfl⟩) sci_BadNumber rfl rfl (fun _ _ _ _ _ _ _ us hl => match us, hl with | [_, _], _ => rfl)
  have E_BadLevels : EC1 K mg eflds ("BadLevels", C_BadLevels) := ⟨M_BadLevels, ⟨eg_BadLevels, ek_BadLevels, xex_BadLevels, ed_BadLevels, ea_BadLevels, en, et, em_BadLevels⟩, ⟨xf_what_BadLevels, xf_limit_BadLevels, xf_at_BadLevels, trivial⟩⟩
  have E_TooMany : EC1 K mg eflds ("TooMany", C_TooMany) := ⟨M_TooMany, ⟨eg_TooMany, ek_TooMany, xex_TooMany, ed_TooMany, ea_TooMany, en, et, em_TooMany⟩, ⟨xf_what_TooMany, xf_limit_TooMany, xf_at_TooMany, trivial⟩⟩
  have E_BadNumber : EC1 K mg eflds ("BadNumber", C_BadNumber) := ⟨M_BadNumber, ⟨eg_BadNumber, ek_BadNumber, xex_BadNumber, ed_BadNumber, ea_BadNumber, en, et, em_BadNumber⟩, ⟨xf_what_BadNumber, xf_limit_BadNumber, xf_at_BadNumber, trivial⟩⟩
  have GE : ErrF K mg ecls eys eflds esub := errf_mk [("BadNumber", C_BadNumber), ("BadLevels", C_BadLevels), ("TooMany", C_TooMany)] [("BadNumber", .ref C_BadNumber, .ref C_BadNumber), ("VaultError", .ref C_VaultError, .ref C_VaultError), ("TooMany", .ref C_TooMany, .ref C_TooMany), ("BadLevels", .ref C_BadLevels, .ref C_BadLevels), ("ValueError", .ty "ValueError", .type "ValueError")] ⟨E_BadNumber, E_BadLevels, E_TooMany, trivial⟩ ⟨⟨.inl M_BadNumber, .own _⟩, ⟨.inl M_VaultError, .own _⟩, ⟨.inl M_TooMany, .own _⟩, ⟨.inl M_BadLevels, .own _⟩, ⟨.inr ⟨PySem.W.mg_none_of X G xn_ValueError, PyProof.Rows.Boot.«ValueError», by decide⟩, .ty _⟩, trivial⟩ ⟨⟨⟨qk_BadNumber_BadNumber, qe_BadNumber_BadNumber⟩, ⟨qk_VaultError_BadNumber, qe_VaultError_BadNumber⟩, ⟨qk_TooMany_BadNumber, qe_TooMany_BadNumber⟩, ⟨qk_BadLevels_BadNumber, qe_BadLevels_BadNumber⟩, ⟨qk_ValueError_BadNumber, qe_ValueError_BadNumber⟩, trivial⟩, ⟨⟨qk_BadNumber_BadLevels, qe_BadNumber_BadLevels⟩, ⟨qk_VaultError_BadLevels, qe_VaultError_BadLevels⟩, ⟨qk_TooMany_BadLevels, qe_TooMany_BadLevels⟩, ⟨qk_BadLevels_BadLevels, qe_BadLevels_BadLevels⟩, ⟨qk_ValueError_BadLevels, qe_ValueError_BadLevels⟩, trivial⟩, ⟨⟨qk_BadNumber_TooMany, qe_BadNumber_TooMany⟩, ⟨qk_VaultError_TooMany, qe_VaultError_TooMany⟩, ⟨qk_TooMany_TooMany, qe_TooMany_TooMany⟩, ⟨qk_BadLevels_TooMany, qe_BadLevels_TooMany⟩, ⟨qk_ValueError_TooMany, qe_ValueError_TooMany⟩, trivial⟩, trivial⟩
  refine ⟨PySem.W.fnOf "law" "law" (defArgs s_law) (defBody s_law) (defScope s_law) .none kV20 dc20 pm20 an20 cd20 ct20, fun s v => .of_eq rfl, fun base _ _ => ?_⟩
  have D0 := Df.mk' (x := "_law_row") F0 (PySem.W.mg_of X G a0) B0 (ok__law_row (P := l.prog) (w := w) (base := base) F0 T )
  have D1 := Df.mk' (x := "_law_cell") F1 (PySem.W.mg_of X G a1) B1 (ok__law_cell (P := l.prog) (w := w) (base := base) F1 T )
  have D2 := Df.mk' (x := "is_row") F2 (PySem.W.mg_of X G a2) B2 (ok_is_row (P := l.prog) (w := w) (base := base) F2 T )
  have D3 := Df.mk' (x := "is_number") F3 (PySem.W.mg_of X G a3) B3 (ok_is_number (P := l.prog) (w := w) (base := base) F3 T )
  have D4 := Df.mk' (x := "check_small_row") F4 (PySem.W.mg_of X G a4) B4 (ok_check_small_row (P := l.prog) (w := w) (base := base) F4 T (R_BadLevels base) (R_TooMany base) D2 D3)
  have D5 := Df.mk' (x := "check_levels") F5 (PySem.W.mg_of X G a5) B5 (ok_check_levels (P := l.prog) (w := w) (base := base) F5 T D4)
  have D6 := Df.mk' (x := "base_list") F6 (PySem.W.mg_of X G a6) B6 (ok_base_list (P := l.prog) (w := w) (base := base) F6 T )
  have D7 := Df.mk' (x := "bases") F7 (PySem.W.mg_of X G a7) B7 (ok_bases (P := l.prog) (w := w) (base := base) F7 T D6 D5)
  have D8 := Df.mk' (x := "check_number") F8 (PySem.W.mg_of X G a8) B8 (ok_check_number (P := l.prog) (w := w) (base := base) F8 T (R_BadNumber base) D3)
  have D9 := Df.mk' (x := "chain_of") F9 (PySem.W.mg_of X G a9) B9 (ok_chain_of (P := l.prog) (w := w) (base := base) F9 T )
  have D10 := Df.mk' (x := "chain") F10 (PySem.W.mg_of X G a10) B10 (ok_chain (P := l.prog) (w := w) (base := base) F10 T D5 D8 D9 D6)
  have D11 := Df.mk' (x := "future_days") F11 (PySem.W.mg_of X G a11) B11 (ok_future_days (P := l.prog) (w := w) (base := base) F11 T D5 D9 D6)
  have D12 := Df.mk' (x := "_law_is_number") F12 (PySem.W.mg_of X G a12) B12 (ok__law_is_number (P := l.prog) (w := w) (base := base) F12 T )
  have W12 := DfW.mk' (x := "_law_is_number") F12 (PySem.W.mg_of X G a12) B12 (okW__law_is_number (P := l.prog) (w := w) (base := base) F12 T)
  have D13 := Df.mk' (x := "_law_refusal") F13 (PySem.W.mg_of X G a13) B13 (ok__law_refusal (P := l.prog) (w := w) (base := base) F13 T GE W12 D5 D7 D10 D11)
  have D14 := Df.mk' (x := "_law_refused") F14 (PySem.W.mg_of X G a14) B14 (ok__law_refused (P := l.prog) (w := w) (base := base) F14 T D13)
  have D15 := Df.mk' (x := "_law_are_numbers") F15 (PySem.W.mg_of X G a15) B15 (ok__law_are_numbers (P := l.prog) (w := w) (base := base) F15 T D12)
  have D16 := Df.mk' (x := "_law_is_base") F16 (PySem.W.mg_of X G a16) B16 (ok__law_is_base (P := l.prog) (w := w) (base := base) F16 T D12)
  have D17 := Df.mk' (x := "_law_bases_fit") F17 (PySem.W.mg_of X G a17) B17 (ok__law_bases_fit (P := l.prog) (w := w) (base := base) F17 T D16)
  have D18 := Df.mk' (x := "_law_chain_fits") F18 (PySem.W.mg_of X G a18) B18 (ok__law_chain_fits (P := l.prog) (w := w) (base := base) F18 T D16 D12)
  have D19 := Df.mk' (x := "_law_let") F19 (PySem.W.mg_of X G a19) B19 (ok__law_let (P := l.prog) (w := w) (base := base) F19 T D5 D7 D15 D17 D10 D18)
  exact ok_law F20 T D0 D1 D14 D19 D13
end K40
open PySem PySem.W PyProof.Rows in
set_option maxRecDepth 100000 in
set_option maxHeartbeats 0 in
theorem PySem.Challenge.cw_reelvault_k40_bases_and_chains_holds : PySem.Challenge.rw_reelvault_k40_bases_and_chains.Holds := by
  w_on; o_law; k_head; (case hw => w_witness2)
  k_fill
  refine VL.walk_ofV (l := PySem.Challenge.rw_reelvault_k40_bases_and_chains) (k := 7) (x := "script") (φ := K40.φ_law) rfl rfl ⟨rfl, by decide, by decide⟩ (fun w h Y => PySem.W.kIn_of Y) ?F (fun ns _ => K40.law_s ns)
  case F =>
    intro w mg fa h KX G hmg
    refine' K40.all_mk KX G hmg ?a0 ?l0 ?c0 ?k0 ?a1 ?l1 ?c1 ?k1 ?a2 ?l2 ?c2 ?k2 ?a3 ?l3 ?c3 ?k3 ?a4 ?l4 ?c4 ?k4 ?a5 ?l5 ?c5 ?k5 ?a6 ?l6 ?c6 ?k6 ?a7 ?l7 ?c7 ?k7 ?a8 ?l8 ?c8 ?k8 ?a9 ?l9 ?c9 ?k9 ?a10 ?l10 ?c10 ?k10 ?a11 ?l11 ?c11 ?k11 ?a12 ?l12 ?c12 ?k12 ?a13 ?l13 ?c13 ?k13 ?a14 ?l14 ?c14 ?k14 ?a15 ?l15 ?c15 ?k15 ?a16 ?l16 ?c16 ?k16 ?a17 ?l17 ?c17 ?k17 ?a18 ?l18 ?c18 ?k18 ?a19 ?l19 ?c19 ?k19 ?a20 ?l20 ?c20 ?k20 ?z0 ?z1 ?z2 ?z3 ?z4 ?z5 ?z6 ?z7 ?n0 ?n1 ?xs ?xo ?xt ?xn_ValueError ?xm_BadLevels ?xm_TooMany ?xm_BadNumber ?xm_VaultError ?xl_BadLevels ?xb_BadLevels ?xsa_BadLevels ?xex_BadLevels ?xty_BadLevels ?xkp_BadLevels ?xic_BadLevels ?xti_BadLevels ?xlf_BadLevels ?xcd_BadLevels ?xlc_BadLevels ?xv2_BadLevels ?xff_BadLevels ?xle_BadLevels ?xms_BadLevels ?xf_at_BadLevels ?xf_limit_BadLevels ?xf_what_BadLevels ?eg_BadLevels ?ek_BadLevels ?ed_BadLevels ?ea_BadLevels ?em_BadLevels ?qk_BadNumber_BadLevels ?qe_BadNumber_BadLevels ?qk_VaultError_BadLevels ?qe_VaultError_BadLevels ?qk_TooMany_BadLevels ?qe_TooMany_BadLevels ?qk_BadLevels_BadLevels ?qe_BadLevels_BadLevels ?qk_ValueError_BadLevels ?qe_ValueError_BadLevels ?xl_TooMany ?xb_TooMany ?xsa_TooMany ?xex_TooMany ?xty_TooMany ?xkp_TooMany ?xic_TooMany ?xti_TooMany ?xlf_TooMany ?xcd_TooMany ?xlc_TooMany ?xv2_TooMany ?xff_TooMany ?xle_TooMany ?xms_TooMany ?xf_at_TooMany ?xf_limit_TooMany ?xf_what_TooMany ?eg_TooMany ?ek_TooMany ?ed_TooMany ?ea_TooMany ?em_TooMany ?qk_BadNumber_TooMany ?qe_BadNumber_TooMany ?qk_VaultError_TooMany ?qe_VaultError_TooMany ?qk_TooMany_TooMany ?qe_TooMany_TooMany ?qk_BadLevels_TooMany ?qe_BadLevels_TooMany ?qk_ValueError_TooMany ?qe_ValueError_TooMany ?xl_BadNumber ?xb_BadNumber ?xsa_BadNumber ?xex_BadNumber ?xty_BadNumber ?xkp_BadNumber ?xic_BadNumber ?xti_BadNumber ?xlf_BadNumber ?xcd_BadNumber ?xlc_BadNumber ?xv2_BadNumber ?xff_BadNumber ?xle_BadNumber ?xms_BadNumber ?xf_at_BadNumber ?xf_limit_BadNumber ?xf_what_BadNumber ?eg_BadNumber ?ek_BadNumber ?ed_BadNumber ?ea_BadNumber ?em_BadNumber ?qk_BadNumber_BadNumber ?qe_BadNumber_BadNumber ?qk_VaultError_BadNumber ?qe_VaultError_BadNumber ?qk_TooMany_BadNumber ?qe_TooMany_BadNumber ?qk_BadLevels_BadNumber ?qe_BadLevels_BadNumber ?qk_ValueError_BadNumber ?qe_ValueError_BadNumber ?en ?et
    (case a0 => k_is)
    (case l0 => k_is)
    (case c0 => k_is)
    (case k0 => k_is)
    (case a1 => k_is)
    (case l1 => k_is)
    (case c1 => k_is)
    (case k1 => k_is)
    (case a2 => k_is)
    (case l2 => k_is)
    (case c2 => k_is)
    (case k2 => k_is)
    (case a3 => k_is)
    (case l3 => k_is)
    (case c3 => k_is)
    (case k3 => k_is)
    (case a4 => k_is)
    (case l4 => k_is)
    (case c4 => k_is)
    (case k4 => k_is)
    (case a5 => k_is)
    (case l5 => k_is)
    (case c5 => k_is)
    (case k5 => k_is)
    (case a6 => k_is)
    (case l6 => k_is)
    (case c6 => k_is)
    (case k6 => k_is)
    (case a7 => k_is)
    (case l7 => k_is)
    (case c7 => k_is)
    (case k7 => k_is)
    (case a8 => k_is)
    (case l8 => k_is)
    (case c8 => k_is)
    (case k8 => k_is)
    (case a9 => k_is)
    (case l9 => k_is)
    (case c9 => k_is)
    (case k9 => k_is)
    (case a10 => k_is)
    (case l10 => k_is)
    (case c10 => k_is)
    (case k10 => k_is)
    (case a11 => k_is)
    (case l11 => k_is)
    (case c11 => k_is)
    (case k11 => k_is)
    (case a12 => k_is)
    (case l12 => k_is)
    (case c12 => k_is)
    (case k12 => k_is)
    (case a13 => k_is)
    (case l13 => k_is)
    (case c13 => k_is)
    (case k13 => k_is)
    (case a14 => k_is)
    (case l14 => k_is)
    (case c14 => k_is)
    (case k14 => k_is)
    (case a15 => k_is)
    (case l15 => k_is)
    (case c15 => k_is)
    (case k15 => k_is)
    (case a16 => k_is)
    (case l16 => k_is)
    (case c16 => k_is)
    (case k16 => k_is)
    (case a17 => k_is)
    (case l17 => k_is)
    (case c17 => k_is)
    (case k17 => k_is)
    (case a18 => k_is)
    (case l18 => k_is)
    (case c18 => k_is)
    (case k18 => k_is)
    (case a19 => k_is)
    (case l19 => k_is)
    (case c19 => k_is)
    (case k19 => k_is)
    (case a20 => k_is)
    (case l20 => k_is)
    (case c20 => k_is)
    (case k20 => k_is)
    (case z0 => k_is)
    (case z1 => k_is)
    (case z2 => k_is)
    (case z3 => k_is)
    (case z4 => k_is)
    (case z5 => k_is)
    (case z6 => k_is)
    (case z7 => k_is)
    (case n0 => k_is)
    (case n1 => k_is)
    (case xs => k_is)
    (case xo => k_is)
    (case xt => exact rfl)
    (case xn_ValueError => k_is)
    (case xm_BadLevels => k_is)
    (case xm_TooMany => k_is)
    (case xm_BadNumber => k_is)
    (case xm_VaultError => k_is)
    (case xl_BadLevels => k_is)
    (case xb_BadLevels => exact rfl)
    (case xsa_BadLevels => k_is)
    (case xex_BadLevels => k_is)
    (case xty_BadLevels => k_is)
    (case xkp_BadLevels => k_is)
    (case xic_BadLevels => k_is)
    (case xti_BadLevels => k_is)
    (case xlf_BadLevels => k_is)
    (case xcd_BadLevels => k_is)
    (case xlc_BadLevels => k_is)
    (case xv2_BadLevels => exact rfl)
    (case xff_BadLevels => first | exact rfl | decide +kernel)
    (case xle_BadLevels => k_is)
    (case xms_BadLevels => ks_is)
    (case xf_at_BadLevels => k_is)
    (case xf_limit_BadLevels => k_is)
    (case xf_what_BadLevels => k_is)
    (case eg_BadLevels => k_is)
    (case ek_BadLevels => k_is)
    (case ed_BadLevels => k_is)
    (case ea_BadLevels => k_is)
    (case em_BadLevels => k_is)
    (case qk_BadNumber_BadLevels => kit_is)
    (case qe_BadNumber_BadLevels => kts_exm)
    (case qk_VaultError_BadLevels => kit_is)
    (case qe_VaultError_BadLevels => kts_exm)
    (case qk_TooMany_BadLevels => kit_is)
    (case qe_TooMany_BadLevels => kts_exm)
    (case qk_BadLevels_BadLevels => kit_is)
    (case qe_BadLevels_BadLevels => kts_exm)
    (case qk_ValueError_BadLevels => kit_is)
    (case qe_ValueError_BadLevels => kts_exm)
    (case xl_TooMany => k_is)
    (case xb_TooMany => exact rfl)
    (case xsa_TooMany => k_is)
    (case xex_TooMany => k_is)
    (case xty_TooMany => k_is)
    (case xkp_TooMany => k_is)
    (case xic_TooMany => k_is)
    (case xti_TooMany => k_is)
    (case xlf_TooMany => k_is)
    (case xcd_TooMany => k_is)
    (case xlc_TooMany => k_is)
    (case xv2_TooMany => exact rfl)
    (case xff_TooMany => first | exact rfl | decide +kernel)
    (case xle_TooMany => k_is)
    (case xms_TooMany => ks_is)
    (case xf_at_TooMany => k_is)
    (case xf_limit_TooMany => k_is)
    (case xf_what_TooMany => k_is)
    (case eg_TooMany => k_is)
    (case ek_TooMany => k_is)
    (case ed_TooMany => k_is)
    (case ea_TooMany => k_is)
    (case em_TooMany => k_is)
    (case qk_BadNumber_TooMany => kit_is)
    (case qe_BadNumber_TooMany => kts_exm)
    (case qk_VaultError_TooMany => kit_is)
    (case qe_VaultError_TooMany => kts_exm)
    (case qk_TooMany_TooMany => kit_is)
    (case qe_TooMany_TooMany => kts_exm)
    (case qk_BadLevels_TooMany => kit_is)
    (case qe_BadLevels_TooMany => kts_exm)
    (case qk_ValueError_TooMany => kit_is)
    (case qe_ValueError_TooMany => kts_exm)
    (case xl_BadNumber => k_is)
    (case xb_BadNumber => exact rfl)
    (case xsa_BadNumber => k_is)
    (case xex_BadNumber => k_is)
    (case xty_BadNumber => k_is)
    (case xkp_BadNumber => k_is)
    (case xic_BadNumber => k_is)
    (case xti_BadNumber => k_is)
    (case xlf_BadNumber => k_is)
    (case xcd_BadNumber => k_is)
    (case xlc_BadNumber => k_is)
    (case xv2_BadNumber => exact rfl)
    (case xff_BadNumber => first | exact rfl | decide +kernel)
    (case xle_BadNumber => k_is)
    (case xms_BadNumber => ks_is)
    (case xf_at_BadNumber => k_is)
    (case xf_limit_BadNumber => k_is)
    (case xf_what_BadNumber => k_is)
    (case eg_BadNumber => k_is)
    (case ek_BadNumber => k_is)
    (case ed_BadNumber => k_is)
    (case ea_BadNumber => k_is)
    (case em_BadNumber => k_is)
    (case qk_BadNumber_BadNumber => kit_is)
    (case qe_BadNumber_BadNumber => kts_exm)
    (case qk_VaultError_BadNumber => kit_is)
    (case qe_VaultError_BadNumber => kts_exm)
    (case qk_TooMany_BadNumber => kit_is)
    (case qe_TooMany_BadNumber => kts_exm)
    (case qk_BadLevels_BadNumber => kit_is)
    (case qe_BadLevels_BadNumber => kts_exm)
    (case qk_ValueError_BadNumber => kit_is)
    (case qe_ValueError_BadNumber => kts_exm)
    (case en => k_is)
    (case et => k_is)

