import PyProof.Rows.All
import Wide.All
import OpenK.AllK
import Wide.FinOn
import HandS.ForMost
import HandS.ForExc
import HandS.IsInst
import HandS.Conv
import HandS.Deep
import HandS.SortInts
import HandS.Style
import HandS.TupAny
import KE.KSortedM
import HandS.TryOnly
import KE.GoesEnum
import KE.GoesMore
import HandS.Ends
import PySem.Challenge.RW_reelvault_k41_whole_future_days
set_option Elab.async false
set_option linter.all false
set_option maxRecDepth 100000
set_option maxHeartbeats 2000000
/-! VL1: a layer of plain values over the hand layer. Data are trees (PyData); a slot holds a tree, part of which may be owned (lists that nobody else holds). -/
namespace VL
open PySem PySem.Spec PyProof.Rows L2

abbrev D := PySem.PyData
abbrev Frag := PySem.W.Frag
abbrev S := L2.St

/-- an owned value: frozen data, or a list (a tuple) that nobody else holds, of owned values -/
inductive Ow where
  | fz (d : D)
  | ls (xs : List Ow)
  | tp (xs : List Ow)
mutual
def Ow.toD : Ow → D
  | .fz d => d
  | .ls xs => .list (toDs xs)
  | .tp xs => .tuple (toDs xs)
def toDs : List Ow → List D
  | [] => []
  | x :: xs => x.toD :: toDs xs
end
theorem toDs_map : ∀ xs : List Ow, toDs xs = xs.map Ow.toD
  | [] => rfl
  | x :: xs => by rw [toDs, toDs_map xs]; rfl
theorem toDs_fz : ∀ ds : List D, toDs (ds.map Ow.fz) = ds
  | [] => rfl
  | d :: ds => by
    show Ow.toD (.fz d) :: toDs (ds.map Ow.fz) = d :: ds
    rw [toDs_fz ds]; rfl

/-- a slot: its own value, or a thing of the caller's that is read alone -/
inductive Sl where
  | own (ow : Ow)
  | bor (d : D)
def Sl.d : Sl → D
  | .own ow => ow.toD
  | .bor d => d
abbrev Rho := List (Option Sl)
/-- an expression's value: a value of its own; the thing at a path of an owned slot; a thing of the caller's -/
inductive RV where
  | val (ow : Ow)
  | ref (i : Nat) (p : List Nat) (ow : Ow)
  | bor (d : D)
def RV.d : RV → D
  | .val ow => ow.toD
  | .ref _ _ ow => ow.toD
  | .bor d => d
/-- an exception: its class, its fields -/
structure Exn where
  cls : Str
  fs : List (Str × D)
inductive Res (α : Type) where
  | ok (a : α)
  | err (x : Exn)
  | stuck
def Res.bind {α β : Type} : Res α → (α → Res β) → Res β
  | .ok a, f => f a
  | .err x, _ => .err x
  | .stuck, _ => .stuck
abbrev EC := Rho → Res RV
abbrev TC := Rho → Res Bool
inductive SRes where
  | next (ρ : Rho)
  | ret (ow : Ow)
  | brk (ρ : Rho)
  | cont (ρ : Rho)
  | err (x : Exn) (ρ : Rho)
  | stuck
abbrev SC := Rho → SRes

/-! ### heaps -/
def Sub (F F' : Hp) : Prop := ∀ a o, F a = some o → F' a = some o
theorem Sub.refl (F : Hp) : Sub F F := fun _ _ h => h
theorem Sub.trans {A B C : Hp} (h : Sub A B) (h' : Sub B C) : Sub A C := fun a o e => h' a o (h a o e)
theorem Sub.rd {F F' : Hp} (h : Sub F F') {a : Addr} {u : HO} (r : Rd F a u) : Rd F' a u := by
  rcases r with r | ⟨o, r⟩
  · exact .inl (h a _ r)
  · exact .inr ⟨o, h a _ r⟩
theorem Sub.sqL {K : Frag} {F F' : Hp} (h : Sub F F') {a : Addr} {xs : List V} (r : SqL K F a xs) : SqL K F' a xs := by
  rcases r with r | r
  · exact .inl (h.rd r)
  · exact .inr r
theorem Sub.sqT {K : Frag} {F F' : Hp} (h : Sub F F') {a : Addr} {xs : List V} (r : SqT K F a xs) : SqT K F' a xs := by
  rcases r with r | r
  · exact .inl (h.rd r)
  · exact .inr r
/-- a list: tracked, or of the written part -/
def LK (K : Frag) (H : Hp) (a : Addr) (xs : List V) : Prop := Rd H a (.lst xs) ∨ ∃ (its : Array Value) (n : Nat), K.lookup a = some { cls := .type "list", data := .seq its n } ∧ its.size ≤ sizeLine ∧ Vals xs its.toList
theorem LK.sqL {K : Frag} {H : Hp} {a : Addr} {xs : List V} (h : LK K H a xs) : SqL K H a xs := by
  rcases h with h | ⟨its, n, h1, h2, h3⟩
  · exact .inl h
  · exact .inr ⟨_, its, n, h1, rfl, rfl, rfl, h2, h3⟩
theorem LK.of {K : Frag} {H : Hp} {a : Addr} {xs : List V} (h : H a = some (.lst xs)) : LK K H a xs := .inl (.inl h)
theorem Sub.lk {K : Frag} {F F' : Hp} (h : Sub F F') {a : Addr} {xs : List V} (r : LK K F a xs) : LK K F' a xs := by
  rcases r with r | r
  · exact .inl (h.rd r)
  · exact .inr r
/-! what a value stands for: a tree -/
mutual
inductive Rp (K : Frag) (H : Hp) : V → D → Prop
  | non : Rp K H .non .none
  | bl (b : Bool) : Rp K H (.bl b) (.bool b)
  | int (i : Int) : Rp K H (.int i) (.int i)
  | str (x : Str) : Rp K H (.str x) (.str x)
  | lst {a : Addr} {xs : List V} {ds : List D} : LK K H a xs → RpAll K H xs ds → Rp K H (.ref a) (.list ds)
  | tup {a : Addr} {xs : List V} {ds : List D} : SqT K H a xs → RpAll K H xs ds → Rp K H (.ref a) (.tuple ds)
inductive RpAll (K : Frag) (H : Hp) : List V → List D → Prop
  | nil : RpAll K H [] []
  | cons {v : V} {vs : List V} {d : D} {ds : List D} : Rp K H v d → RpAll K H vs ds → RpAll K H (v :: vs) (d :: ds)
end
mutual
theorem Rp.dp {K : Frag} {H : Hp} : ∀ {d : D} {v : V}, Rp K H v d → Dp K H v d
  | .none, _, .non => .non
  | .bool _, _, .bl b => .bl b
  | .int _, _, .int i => .int i
  | .str _, _, .str x => .str x
  | .list _, _, .lst s a => .lst s.sqL (RpAll.dp a)
  | .tuple _, _, .tup s a => .tup s (RpAll.dp a)
theorem RpAll.dp {K : Frag} {H : Hp} : ∀ {ds : List D} {vs : List V}, RpAll K H vs ds → DpAll K H vs ds
  | [], _, .nil => .nil
  | _ :: _, _, .cons a r => .cons (Rp.dp a) (RpAll.dp r)
end
mutual
theorem Rp.mono {K : Frag} {F F' : Hp} (h : Sub F F') : ∀ {d : D} {v : V}, Rp K F v d → Rp K F' v d
  | .none, _, .non => .non
  | .bool _, _, .bl b => .bl b
  | .int _, _, .int i => .int i
  | .str _, _, .str x => .str x
  | .list _, _, .lst s a => .lst (h.lk s) (RpAll.mono h a)
  | .tuple _, _, .tup s a => .tup (h.sqT s) (RpAll.mono h a)
theorem RpAll.mono {K : Frag} {F F' : Hp} (h : Sub F F') : ∀ {ds : List D} {vs : List V}, RpAll K F vs ds → RpAll K F' vs ds
  | [], _, .nil => .nil
  | _ :: _, _, .cons a r => .cons (Rp.mono h a) (RpAll.mono h r)
end
theorem RpAll.length {K : PySem.W.Frag} {F : Hp} : ∀ {ds : List PyData} {vs : List V}, RpAll K F vs ds → vs.length = ds.length
  | [], _, .nil => rfl
  | _ :: _, _, .cons _ r => by simp [RpAll.length r]
theorem RpAll.get {K : PySem.W.Frag} {F : Hp} : ∀ {ds : List PyData} {vs : List V} {i : Nat} {v : V}, RpAll K F vs ds → vs[i]? = some v → ∃ d, ds[i]? = some d ∧ Rp K F v d
  | [], _, _, _, .nil, e => by simp at e
  | d :: _, _, 0, _, .cons a r, e => by simp at e; subst e; exact ⟨d, rfl, a⟩
  | _ :: _, _, i + 1, _, .cons a r, e => by
    obtain ⟨d, h1, h2⟩ := RpAll.get (i := i) r (by simpa using e)
    exact ⟨d, by simpa using h1, h2⟩
theorem RpAll.get' {K : PySem.W.Frag} {F : Hp} {ds : List PyData} {vs : List V} {i : Nat} {d : PyData} (h : RpAll K F vs ds) (e : ds[i]? = some d) : ∃ v, vs[i]? = some v ∧ Rp K F v d := by
  have hl := h.length
  have hi : i < vs.length := by rw [hl]; exact (List.getElem?_eq_some_iff.mp e).1
  obtain ⟨d', h1, h2⟩ := h.get (v := vs[i]) (List.getElem?_eq_getElem hi)
  rw [e] at h1
  cases h1
  exact ⟨vs[i], List.getElem?_eq_getElem hi, h2⟩
theorem RpAll.append {K : PySem.W.Frag} {F : Hp} : ∀ {ds es : List PyData} {vs ws : List V}, RpAll K F vs ds → RpAll K F ws es → RpAll K F (vs ++ ws) (ds ++ es)
  | [], _, _, _, .nil, h => h
  | _ :: _, _, _, _, .cons a r, h => .cons a (RpAll.append r h)
/-- the heap grows: what stood stands; what is frozen anew was not there -/
structure Gr (H F H' F' : Hp) : Prop where
  hh : Sub H H'
  ff : Sub F F'
  fn : ∀ a, F' a ≠ none → F a ≠ none ∨ H a = none
  fh' : Sub F' H'
theorem Gr.refl {H F : Hp} (h : Sub F H) : Gr H F H F := ⟨Sub.refl _, Sub.refl _, fun _ h => .inl h, h⟩
theorem Sub.none {F F' : Hp} (h : Sub F F') {a : Addr} (e : F' a = none) : F a = none := by
  cases q : F a with
  | none => rfl
  | some o => rw [h a o q] at e; cases e
theorem Gr.trans {H F H1 F1 H2 F2 : Hp} (a : Gr H F H1 F1) (b : Gr H1 F1 H2 F2) : Gr H F H2 F2 :=
  ⟨a.hh.trans b.hh, a.ff.trans b.ff, fun x h => by
    rcases b.fn x h with q | q
    · exact a.fn x q
    · exact .inr (a.hh.none q), b.fh'⟩
theorem Gr.stay {H F H' F' : Hp} (g : Gr H F H' F') {a : Addr} (h1 : H a ≠ none) (h2 : F a = none) : F' a = none := by
  cases q : F' a with
  | none => rfl
  | some o =>
    rcases g.fn a (by rw [q]; simp) with z | z
    · exact absurd h2 z
    · exact absurd z h1

/-! ### what a value stands for -/
mutual
inductive OR (K : Frag) (H F : Hp) : V → Ow → List Addr → Prop
  | fz {v : V} {d : D} : Rp K F v d → OR K H F v (.fz d) []
  | ls {a : Addr} {vs : List V} {xs : List Ow} {A : List Addr} : H a = some (.lst vs) → F a = none → a ∉ A → ORs K H F vs xs A → OR K H F (.ref a) (.ls xs) (a :: A)
  | tp {a : Addr} {vs : List V} {xs : List Ow} {A : List Addr} : H a = some (.tup vs) → F a = none → a ∉ A → ORs K H F vs xs A → OR K H F (.ref a) (.tp xs) (a :: A)
inductive ORs (K : Frag) (H F : Hp) : List V → List Ow → List Addr → Prop
  | nil : ORs K H F [] [] []
  | cons {v : V} {x : Ow} {vs : List V} {xs : List Ow} {A B : List Addr} : OR K H F v x A → ORs K H F vs xs B → (∀ a ∈ A, a ∉ B) → ORs K H F (v :: vs) (x :: xs) (A ++ B)
end
mutual
theorem OR.keep {K : Frag} {H F H' F' : Hp} (hf : Sub F F') : ∀ {ow : Ow} {v : V} {A : List Addr}, OR K H F v ow A → (∀ a ∈ A, H' a = H a ∧ F' a = none) → OR K H' F' v ow A
  | .fz _, _, _, .fz h, _ => .fz (Rp.mono hf h)
  | .ls _, _, _, .ls h1 h2 h3 h4, k => .ls (by rw [(k _ List.mem_cons_self).1]; exact h1) (k _ List.mem_cons_self).2 h3 (ORs.keep hf h4 fun a h => k a (List.mem_cons_of_mem _ h))
  | .tp _, _, _, .tp h1 h2 h3 h4, k => .tp (by rw [(k _ List.mem_cons_self).1]; exact h1) (k _ List.mem_cons_self).2 h3 (ORs.keep hf h4 fun a h => k a (List.mem_cons_of_mem _ h))
theorem ORs.keep {K : Frag} {H F H' F' : Hp} (hf : Sub F F') : ∀ {xs : List Ow} {vs : List V} {A : List Addr}, ORs K H F vs xs A → (∀ a ∈ A, H' a = H a ∧ F' a = none) → ORs K H' F' vs xs A
  | [], _, _, .nil, _ => .nil
  | _ :: _, _, _, .cons h1 h2 h3, k => .cons (OR.keep hf h1 fun a h => k a (List.mem_append_left _ h)) (ORs.keep hf h2 fun a h => k a (List.mem_append_right _ h)) h3
end
mutual
theorem OR.there {K : Frag} {H F : Hp} : ∀ {ow : Ow} {v : V} {A : List Addr}, OR K H F v ow A → ∀ a ∈ A, H a ≠ none ∧ F a = none
  | .fz _, _, _, .fz _, a, h => by cases h
  | .ls _, _, _, .ls h1 h2 _ h4, a, h => by
    rcases List.mem_cons.mp h with rfl | h
    · exact ⟨by rw [h1]; simp, h2⟩
    · exact ORs.there h4 a h
  | .tp _, _, _, .tp h1 h2 _ h4, a, h => by
    rcases List.mem_cons.mp h with rfl | h
    · exact ⟨by rw [h1]; simp, h2⟩
    · exact ORs.there h4 a h
theorem ORs.there {K : Frag} {H F : Hp} : ∀ {xs : List Ow} {vs : List V} {A : List Addr}, ORs K H F vs xs A → ∀ a ∈ A, H a ≠ none ∧ F a = none
  | [], _, _, .nil, a, h => by cases h
  | _ :: _, _, _, .cons h1 h2 _, a, h => by
    rcases List.mem_append.mp h with h | h
    · exact OR.there h1 a h
    · exact ORs.there h2 a h
end
theorem OR.gr {K : Frag} {H F H' F' : Hp} {ow : Ow} {v : V} {A : List Addr} (h : OR K H F v ow A) (g : Gr H F H' F') : OR K H' F' v ow A :=
  h.keep g.ff fun a ha => by
    obtain ⟨h1, h2⟩ := h.there a ha
    refine ⟨?_, g.stay h1 h2⟩
    cases q : H a with
    | none => exact absurd q h1
    | some o => exact g.hh a o q
theorem ORs.gr {K : Frag} {H F H' F' : Hp} {xs : List Ow} {vs : List V} {A : List Addr} (h : ORs K H F vs xs A) (g : Gr H F H' F') : ORs K H' F' vs xs A :=
  h.keep g.ff fun a ha => by
    obtain ⟨h1, h2⟩ := h.there a ha
    refine ⟨?_, g.stay h1 h2⟩
    cases q : H a with
    | none => exact absurd q h1
    | some o => exact g.hh a o q
/-! read as data, in a heap that holds both -/
mutual
theorem OR.dpIn {K : Frag} {H F G : Hp} (hf : Sub F G) : ∀ {ow : Ow} {v : V} {A : List Addr}, OR K H F v ow A → (∀ a ∈ A, G a = H a) → Rp K G v ow.toD
  | .fz _, _, _, .fz h, _ => Rp.mono hf h
  | .ls _, _, _, .ls h1 _ _ h4, k => .lst (.of (by rw [k _ List.mem_cons_self]; exact h1)) (ORs.dpIn hf h4 fun a h => k a (List.mem_cons_of_mem _ h))
  | .tp _, _, _, .tp h1 _ _ h4, k => .tup (.of (by rw [k _ List.mem_cons_self]; exact h1)) (ORs.dpIn hf h4 fun a h => k a (List.mem_cons_of_mem _ h))
theorem ORs.dpIn {K : Frag} {H F G : Hp} (hf : Sub F G) : ∀ {xs : List Ow} {vs : List V} {A : List Addr}, ORs K H F vs xs A → (∀ a ∈ A, G a = H a) → RpAll K G vs (toDs xs)
  | [], _, _, .nil, _ => .nil
  | _ :: _, _, _, .cons h1 h2 _, k => .cons (OR.dpIn hf h1 fun a h => k a (List.mem_append_left _ h)) (ORs.dpIn hf h2 fun a h => k a (List.mem_append_right _ h))
end
theorem OR.dp {K : Frag} {H F : Hp} {ow : Ow} {v : V} {A : List Addr} (h : OR K H F v ow A) (hf : Sub F H) : Rp K H v ow.toD := h.dpIn hf fun _ _ => rfl
theorem ORs.dp {K : Frag} {H F : Hp} {xs : List Ow} {vs : List V} {A : List Addr} (h : ORs K H F vs xs A) (hf : Sub F H) : RpAll K H vs (toDs xs) := h.dpIn hf fun _ _ => rfl
theorem ORs.length {K : Frag} {H F : Hp} : ∀ {xs : List Ow} {vs : List V} {A : List Addr}, ORs K H F vs xs A → vs.length = xs.length
  | [], _, _, .nil => rfl
  | _ :: _, _, _, .cons _ r _ => by simp [ORs.length r]
theorem ORs.ofDp {K : Frag} {H F : Hp} : ∀ {ds : List D} {vs : List V}, RpAll K F vs ds → ORs K H F vs (ds.map Ow.fz) []
  | [], _, .nil => .nil
  | _ :: _, _, .cons a r => .cons (A := []) (B := []) (.fz a) (ORs.ofDp r) (fun _ h => by cases h)
theorem ORs.append {K : Frag} {H F : Hp} : ∀ {xs ys : List Ow} {vs ws : List V} {A B : List Addr}, ORs K H F vs xs A → ORs K H F ws ys B → (∀ a ∈ A, a ∉ B) → ORs K H F (vs ++ ws) (xs ++ ys) (A ++ B)
  | [], _, _, _, _, _, .nil, h, _ => h
  | x :: xs, ys, _, ws, _, B, @ORs.cons _ _ _ v _ vs _ A1 A2 a r k, h, n => by
    have ih := ORs.append r h (fun a ha => n a (List.mem_append_right _ ha))
    have : (A1 ++ A2) ++ B = A1 ++ (A2 ++ B) := List.append_assoc ..
    rw [this]
    refine .cons a ih fun b hb hm => ?_
    rcases List.mem_append.mp hm with z | z
    · exact k b hb z
    · exact n b (List.mem_append_left _ hb) z
/-- some addresses frozen -/
def frz (F H : Hp) (A : List Addr) : Hp := fun a => if a ∈ A then H a else F a
theorem frz_in {F H : Hp} {A : List Addr} {a : Addr} (h : a ∈ A) : frz F H A a = H a := by unfold frz; rw [if_pos h]
theorem frz_out {F H : Hp} {A : List Addr} {a : Addr} (h : a ∉ A) : frz F H A a = F a := by unfold frz; rw [if_neg h]
theorem frz_sub {F H : Hp} {A : List Addr} (h : ∀ a ∈ A, F a = none) : Sub F (frz F H A) := fun a o e => by
  by_cases q : a ∈ A
  · rw [h a q] at e; cases e
  · rw [frz_out q]; exact e
theorem frz_subH {F H : Hp} {A : List Addr} (h : Sub F H) : Sub (frz F H A) H := fun a o e => by
  by_cases q : a ∈ A
  · rw [frz_in q] at e; exact e
  · rw [frz_out q] at e; exact h a o e
theorem OR.freeze {K : Frag} {H F : Hp} {ow : Ow} {v : V} {A : List Addr} (h : OR K H F v ow A) : Rp K (frz F H A) v ow.toD :=
  h.dpIn (frz_sub fun a ha => (h.there a ha).2) fun a ha => frz_in ha
theorem ORs.freeze {K : Frag} {H F : Hp} {xs : List Ow} {vs : List V} {A : List Addr} (h : ORs K H F vs xs A) : RpAll K (frz F H A) vs (toDs xs) :=
  h.dpIn (frz_sub fun a ha => (h.there a ha).2) fun a ha => frz_in ha

/-! ### the state -/
def SlOk (K : Frag) (H0 H F : Hp) (σ : S) (i : Nat) (A : List Addr) : Option (Option Sl) → Prop
  | some (some (.own ow)) => ∃ v, σ[i]? = some (some v) ∧ OR K H F v ow A ∧ ∀ a ∈ A, H0 a = none
  | some (some (.bor d)) => A = [] ∧ ∃ v, σ[i]? = some (some v) ∧ Rp K H0 v d
  | _ => A = []
/-- .. with the owned addresses of each slot -/
structure SRA (K : Frag) (H0 F0 : Hp) (A : Nat → List Addr) (σ : S) (H F : Hp) (ρ : Rho) : Prop where
  len : ρ.length = σ.length
  gr : Gr H0 F0 H F
  sl : ∀ i, SlOk K H0 H F σ i (A i) ρ[i]?
  ap : ∀ i j, i ≠ j → ∀ a ∈ A i, a ∉ A j
structure SR (K : Frag) (H0 F0 : Hp) (σ : S) (H F : Hp) (ρ : Rho) : Prop where
  len : ρ.length = σ.length
  gr : Gr H0 F0 H F
  sl : ∃ A : Nat → List Addr, (∀ i, SlOk K H0 H F σ i (A i) ρ[i]?) ∧ ∀ i j, i ≠ j → ∀ a ∈ A i, a ∉ A j
theorem SRA.sr {K : Frag} {H0 F0 : Hp} {A : Nat → List Addr} {σ : S} {H F : Hp} {ρ : Rho} (h : SRA K H0 F0 A σ H F ρ) : SR K H0 F0 σ H F ρ := ⟨h.len, h.gr, A, h.sl, h.ap⟩
theorem SR.sra {K : Frag} {H0 F0 : Hp} {σ : S} {H F : Hp} {ρ : Rho} (h : SR K H0 F0 σ H F ρ) : ∃ A, SRA K H0 F0 A σ H F ρ := let ⟨A, a, b⟩ := h.sl; ⟨A, h.len, h.gr, a, b⟩
theorem SlOk.there {K : Frag} {H0 H F : Hp} {σ : S} {i : Nat} {A : List Addr} {o : Option (Option Sl)} (h : SlOk K H0 H F σ i A o) : ∀ a ∈ A, H a ≠ none ∧ F a = none ∧ H0 a = none := by
  intro a ha
  match o, h with
  | some (some (.own ow)), ⟨v, _, h, k⟩ => exact ⟨(h.there a ha).1, (h.there a ha).2, k a ha⟩
  | some (some (.bor d)), ⟨e, _⟩ => rw [e] at ha; cases ha
  | some none, e => rw [show A = [] from e] at ha; cases ha
  | none, e => rw [show A = [] from e] at ha; cases ha
theorem SlOk.gr {K : Frag} {H0 H F H' F' : Hp} {σ : S} {i : Nat} {A : List Addr} {o : Option (Option Sl)} (h : SlOk K H0 H F σ i A o) (g : Gr H F H' F') : SlOk K H0 H' F' σ i A o := by
  match o, h with
  | some (some (.own ow)), ⟨v, e, h, k⟩ => exact ⟨v, e, h.gr g, k⟩
  | some (some (.bor d)), h => exact h
  | some none, e => exact e
  | none, e => exact e
theorem SR.step {K : Frag} {H0 F0 H F H' F' : Hp} {σ : S} {ρ : Rho} (h : SR K H0 F0 σ H F ρ) (g : Gr H F H' F') : SR K H0 F0 σ H' F' ρ :=
  ⟨h.len, h.gr.trans g, let ⟨A, h1, h2⟩ := h.sl; ⟨A, fun i => (h1 i).gr g, h2⟩⟩
theorem SRA.step {K : Frag} {H0 F0 H F H' F' : Hp} {A : Nat → List Addr} {σ : S} {ρ : Rho} (h : SRA K H0 F0 A σ H F ρ) (g : Gr H F H' F') : SRA K H0 F0 A σ H' F' ρ :=
  ⟨h.len, h.gr.trans g, fun i => (h.sl i).gr g, h.ap⟩
theorem SR.sub {K : Frag} {H0 F0 H F : Hp} {σ : S} {ρ : Rho} (h : SR K H0 F0 σ H F ρ) : Sub F H := h.gr.fh'
/-- v is what lies at the path p of v0 (lists alone) -/
def At (H : Hp) : V → List Nat → V → Prop
  | v0, [], v => v = v0
  | v0, k :: p, v => ∃ a vs w, v0 = .ref a ∧ (H a = some (.lst vs) ∨ H a = some (.tup vs)) ∧ vs[k]? = some w ∧ At H w p v
def Ow.at : Ow → List Nat → Option Ow
  | ow, [] => some ow
  | .ls xs, k :: p => match xs[k]? with
    | some x => Ow.at x p
    | none => none
  | .tp xs, k :: p => match xs[k]? with
    | some x => Ow.at x p
    | none => none
  | .fz _, _ :: _ => none
theorem At.gr {H H' : Hp} (h : Sub H H') : ∀ {p : List Nat} {v0 v : V}, At H v0 p v → At H' v0 p v
  | [], _, _, e => e
  | _ :: _, _, _, ⟨a, vs, w, e, o, k, r⟩ => ⟨a, vs, w, e, o.imp (h a _) (h a _), k, At.gr h r⟩
/-- what an expression's value is -/
def RVOk (K : Frag) (H0 H F : Hp) (σ : S) (ρ : Rho) (v : V) (A : List Addr) : RV → Prop
  | .val ow => OR K H F v ow A
  | .ref i p ow => A = [] ∧ (∃ v0, σ[i]? = some (some v0) ∧ At H v0 p v) ∧ (∃ ow0, ρ[i]? = some (some (.own ow0)) ∧ ow0.at p = some ow) ∧ ∃ B, OR K H F v ow B
  | .bor d => A = [] ∧ Rp K H0 v d
theorem RVOk.gr {K : Frag} {H0 H F H' F' : Hp} {σ : S} {ρ : Rho} {v : V} {A : List Addr} {rv : RV} (h : RVOk K H0 H F σ ρ v A rv) (g : Gr H F H' F') : RVOk K H0 H' F' σ ρ v A rv := by
  match rv, h with
  | .val ow, h => exact OR.gr h g
  | .ref i p ow, ⟨e, ⟨v0, e0, r⟩, q, B, h⟩ => exact ⟨e, ⟨v0, e0, r.gr g.hh⟩, q, B, h.gr g⟩
  | .bor d, h => exact h
theorem RVOk.there {K : Frag} {H0 H F : Hp} {σ : S} {ρ : Rho} {v : V} {A : List Addr} {rv : RV} (h : RVOk K H0 H F σ ρ v A rv) : ∀ a ∈ A, H a ≠ none ∧ F a = none := by
  intro a ha
  match rv, h with
  | .val ow, h => exact OR.there h a ha
  | .ref i p ow, ⟨e, _⟩ => rw [e] at ha; cases ha
  | .bor d, ⟨e, _⟩ => rw [e] at ha; cases ha
theorem RVOk.dp {K : Frag} {H0 F0 H F : Hp} {σ : S} {ρ : Rho} {v : V} {A : List Addr} {rv : RV} (h : RVOk K H0 H F σ ρ v A rv) (s : SR K H0 F0 σ H F ρ) : Rp K H v rv.d := by
  match rv, h with
  | .val ow, h => exact OR.dp h s.sub
  | .ref i p ow, ⟨_, _, _, B, h⟩ => exact h.dp s.sub
  | .bor d, ⟨_, h⟩ => exact Rp.mono s.gr.hh h
/-- a new thing laid: the heap has grown -/
theorem Gr.laid {H F : Hp} {p : Addr} {o : HO} (h : Sub F H) (hp : H p = none) : Gr H F (upd H p o) F :=
  ⟨fun a u e => by rw [upd_ne (ne_of_none e hp)]; exact e, Sub.refl _, fun _ h => .inl h, fun a u e => by rw [upd_ne (ne_of_none (h a u e) hp)]; exact h a u e⟩
/-- .. and what it holds is frozen with it -/
theorem Gr.frozen {H F : Hp} {A : List Addr} {Hs Fs : Hp} (g : Gr Hs Fs H F) (hA : ∀ a ∈ A, Hs a = none) (hF : ∀ a ∈ A, F a = none) : Gr Hs Fs H (frz F H A) :=
  ⟨g.hh, g.ff.trans (frz_sub hF), fun a h => by
    by_cases q : a ∈ A
    · exact .inr (hA a q)
    · rw [frz_out q] at h; exact g.fn a h, frz_subH g.fh'⟩
end VL

set_option Elab.async false
set_option linter.all false
set_option maxRecDepth 100000
set_option maxHeartbeats 2000000
/-! VL2: what expressions and statements compute, over plain values (no heap). -/
namespace VL
open PySem PySem.Spec PyProof.Rows L2

def scal : D → Bool
  | .none => true
  | .bool _ => true
  | .int _ => true
  | .str _ => true
  | _ => false
def isFz : Ow → Bool
  | .fz _ => true
  | _ => false
def vOf : D → V
  | .none => .non
  | .bool b => .bl b
  | .int i => .int i
  | .str x => .str x
  | _ => .non
def Sl.rv (i : Nat) : Sl → RV
  | .own (.fz d) => .val (.fz d)
  | .own (.ls xs) => .ref i [] (.ls xs)
  | .own (.tp xs) => .ref i [] (.tp xs)
  | .bor d => if scal d = true then .val (.fz d) else .bor d
def rD (d : D) : Res RV := .ok (.val (.fz d))
def eVar (i : Nat) : EC := fun ρ => match ρ[i]? with
  | some (some s) => .ok (s.rv i)
  | _ => .stuck
def eK (d : D) : EC := fun _ => rD d
def eUn (f : RV → Res RV) (a : EC) : EC := fun ρ => (a ρ).bind f
def eBin (f : RV → RV → Res RV) (a b : EC) : EC := fun ρ => (a ρ).bind fun x => (b ρ).bind fun y => f x y

/-! ### the items of a row, to be stored elsewhere -/
def RV.items : RV → Option (List Ow)
  | .val (.fz (.list ds)) => some (ds.map Ow.fz)
  | .val (.fz (.tuple ds)) => some (ds.map Ow.fz)
  | .val (.fz _) => none
  | .val (.ls xs) => some xs
  | .val (.tp xs) => some xs
  | .ref _ _ (.ls xs) => if xs.all isFz = true then some xs else none
  | .ref _ _ (.tp xs) => if xs.all isFz = true then some xs else none
  | .ref _ _ (.fz _) => none
  | .bor (.list ds) => if ds.all scal = true then some (ds.map Ow.fz) else none
  | .bor (.tuple ds) => if ds.all scal = true then some (ds.map Ow.fz) else none
  | .bor _ => none
def isL : D → Bool
  | .list _ => true
  | _ => false
def isT : D → Bool
  | .tuple _ => true
  | _ => false
/-- a thing to be stored -/
def RV.ow : RV → Option Ow
  | .val ow => some ow
  | _ => none

/-! ### operators -/
def catL (x y : RV) : Res RV := match x.items, y.items with
  | some xs, some ys => if xs.length + ys.length ≤ 16777216 then .ok (.val (.ls (xs ++ ys))) else .stuck
  | _, _ => .stuck
def fAdd (x y : RV) : Res RV := match x.d, y.d with
  | .int i, .int j => rD (.int (i + j))
  | .list _, .list _ => catL x y
  | .str a, .str b => if a.length + b.length ≤ 16777216 then rD (.str (a ++ b)) else .stuck
  | _, _ => .stuck
def fSub (x y : RV) : Res RV := match x.d, y.d with
  | .int i, .int j => rD (.int (i - j))
  | _, _ => .stuck
def mulOk (i j : Int) : Bool := (decide (-(2 ^ 64) < i) && decide (i < 2 ^ 64)) || (decide (-(2 ^ 64) < j) && decide (j < 2 ^ 64))
def fMul (x y : RV) : Res RV := match x.d, y.d with
  | .int i, .int j => if mulOk i j = true then rD (.int (i * j)) else .stuck
  | _, _ => .stuck
def fDiv (x y : RV) : Res RV := match x.d, y.d with
  | .int i, .int j => if 0 < j ∧ j < 1073741824 then rD (.int (i / j)) else .stuck
  | _, _ => .stuck
def fMod (x y : RV) : Res RV := match x.d, y.d with
  | .int i, .int j => if 0 < j then rD (.int (i % j)) else .stuck
  | _, _ => .stuck
def fPow (x y : RV) : Res RV := match x.d, y.d with
  | .int i, .int j => if 0 ≤ j ∧ j ≤ 1000000 ∧ i.natAbs < 2 ^ 64 then rD (.int (i ^ j.toNat)) else .stuck
  | _, _ => .stuck
def fShl (x y : RV) : Res RV := match x.d, y.d with
  | .int i, .int j => if 0 ≤ j ∧ j ≤ 1000000 ∧ i.natAbs < 2 ^ 64 then rD (.int (i * 2 ^ j.toNat)) else .stuck
  | _, _ => .stuck
def fBitOr (x y : RV) : Res RV := match x.d, y.d with
  | .int i, .int j => rD (.int (Builtin.bitOr i j))
  | _, _ => .stuck
def fBitAnd (x y : RV) : Res RV := match x.d, y.d with
  | .int i, .int j => rD (.int (Builtin.bitAnd i j))
  | _, _ => .stuck
def fNeg (x : RV) : Res RV := match x.d with
  | .int i => rD (.int (-i))
  | _ => .stuck
def fLt (x y : RV) : Res RV := match x.d, y.d with
  | .int i, .int j => rD (.bool (decide (i < j)))
  | _, _ => .stuck
def fLe (x y : RV) : Res RV := match x.d, y.d with
  | .int i, .int j => rD (.bool (decide (i ≤ j)))
  | _, _ => .stuck
def fGt (x y : RV) : Res RV := match x.d, y.d with
  | .int i, .int j => rD (.bool (decide (j < i)))
  | _, _ => .stuck
def fGe (x y : RV) : Res RV := match x.d, y.d with
  | .int i, .int j => rD (.bool (decide (j ≤ i)))
  | _, _ => .stuck
def fEq (x y : RV) : Res RV := if SeqAt.shaped x.d = true ∧ SeqAt.shaped y.d = true then rD (.bool (PyData.eqv x.d y.d)) else .stuck
def fNe (x y : RV) : Res RV := if SeqAt.shaped x.d = true ∧ SeqAt.shaped y.d = true then rD (.bool (!PyData.eqv x.d y.d)) else .stuck
def rowOf : D → Option (List D)
  | .list ds => some ds
  | .tuple ds => some ds
  | _ => none
def eqF (a b : D) : Bool := eqV (vOf a) (vOf b)
def fIn (x y : RV) : Res RV := match rowOf y.d with
  | some ds => if scal x.d = true ∧ ds.all scal = true then rD (.bool (ds.any fun d => eqF d x.d)) else .stuck
  | none => .stuck
def fNotIn (x y : RV) : Res RV := match rowOf y.d with
  | some ds => if scal x.d = true ∧ ds.all scal = true then rD (.bool (!(ds.any fun d => eqF d x.d))) else .stuck
  | none => .stuck
def isN : D → Bool
  | .none => true
  | _ => false
def fIsN (x : RV) : Res RV := rD (.bool (isN x.d))
def fNotN (x : RV) : Res RV := rD (.bool (!isN x.d))

/-! ### tests -/
def truthD : D → Bool
  | .none => false
  | .bool b => b
  | .int i => i != 0
  | .str x => x.length != 0
  | .list ds => !ds.isEmpty
  | .tuple ds => !ds.isEmpty
  | .dict ds => !ds.isEmpty
def tB (a : EC) : TC := fun ρ => (a ρ).bind fun x => match x.d with
  | .bool b => .ok b
  | _ => .stuck
def tTr (a : EC) : TC := fun ρ => (a ρ).bind fun x => .ok (truthD x.d)
def tAnd (a b : TC) : TC := fun ρ => (a ρ).bind fun x => if x = true then b ρ else .ok false
def tOr (a b : TC) : TC := fun ρ => (a ρ).bind fun x => if x = true then .ok true else b ρ
def tNot (a : TC) : TC := fun ρ => (a ρ).bind fun x => .ok (!x)
def tYes : TC := fun _ => .ok true
def eAnd (a b : EC) : EC := fun ρ => (a ρ).bind fun x => match x.d with
  | .bool true => b ρ
  | .bool false => rD (.bool false)
  | _ => .stuck
def eOr (a b : EC) : EC := fun ρ => (a ρ).bind fun x => match x.d with
  | .bool true => rD (.bool true)
  | .bool false => b ρ
  | _ => .stuck
def fNot (x : RV) : Res RV := match x.d with
  | .bool b => rD (.bool (!b))
  | _ => .stuck
def eIf (t : TC) (a b : EC) : EC := fun ρ => (t ρ).bind fun c => if c = true then a ρ else b ρ
/-- a op b op' c -/
def eChain (f g : RV → RV → Res RV) (a b c : EC) : EC := fun ρ => (a ρ).bind fun x => (b ρ).bind fun y => (f x y).bind fun z => match z.d with
  | .bool true => (c ρ).bind fun w => g y w
  | .bool false => rD (.bool false)
  | _ => .stuck

/-! ### built-in functions -/
/-- the built-in classes that are asked for -/
inductive Ty where
  | int | bool | str | list | tuple
def Ty.name : Ty → String
  | .int => "int"
  | .bool => "bool"
  | .str => "str"
  | .list => "list"
  | .tuple => "tuple"
def tyName : D → String
  | .none => "NoneType"
  | .bool _ => "bool"
  | .int _ => "int"
  | .str _ => "str"
  | .list _ => "list"
  | .tuple _ => "tuple"
  | .dict _ => "dict"
def inst : D → Ty → Bool
  | .bool _, .int => true
  | .bool _, .bool => true
  | .int _, .int => true
  | .str _, .str => true
  | .list _, .list => true
  | .tuple _, .tuple => true
  | _, _ => false
def fIsI (c : Ty) (x : RV) : Res RV := rD (.bool (inst x.d c))
def fIsIs (cs : List Ty) (x : RV) : Res RV := rD (.bool (cs.any fun c => inst x.d c))
def fLen (x : RV) : Res RV := match x.d with
  | .list ds => rD (.int ds.length)
  | .tuple ds => rD (.int ds.length)
  | .str x => if x.length ≤ 16777216 then rD (.int x.length) else .stuck
  | _ => .stuck
def fList (x : RV) : Res RV := match x.items with
  | some xs => .ok (.val (.ls xs))
  | none => .stuck
/-- a tuple of things: frozen if they are -/
def mkTup (xs : List Ow) : Ow := if xs.all isFz = true then .fz (.tuple (toDs xs)) else .tp xs
def fTuple (x : RV) : Res RV := match x.d with
  | .list _ => match x.items with
    | some xs => .ok (.val (mkTup xs))
    | none => .stuck
  | .tuple _ => match x with
    | .val ow => .ok (.val ow)
    | _ => .stuck
  | _ => .stuck
def intsOf : List D → Option (List Int)
  | [] => some []
  | .int i :: r => match intsOf r with
    | some is => some (i :: is)
    | none => none
  | _ :: _ => none
def insI (a : Int) : List Int → List Int
  | [] => [a]
  | b :: r => if a ≤ b then a :: b :: r else b :: insI a r
def sortI : List Int → List Int
  | [] => []
  | a :: r => insI a (sortI r)
def fSorted (x : RV) : Res RV := match x.d with
  | .list ds => match intsOf ds with
    | some ns => .ok (.val (.ls ((sortI ns).map fun i => .fz (.int i))))
    | none => .stuck
  | _ => .stuck
def fSum (x : RV) : Res RV := match x.d with
  | .list ds => match intsOf ds with
    | some ns => rD (.int ns.sum)
    | none => .stuck
  | _ => .stuck
def fInt (x : RV) : Res RV := match x.d with
  | .int i => rD (.int i)
  | .bool b => rD (.int (if b then 1 else 0))
  | _ => .stuck
/-! ### subscripts -/
def ixOw (i : Nat) (p : List Nat) (k : Nat) : Ow → RV
  | .fz d => .val (.fz d)
  | ow => .ref i (p ++ [k]) ow
def fIx (x y : RV) : Res RV := match y.d with
  | .int k => match x with
    | .val (.fz (.list ds)) => match atI ds k with
      | some d => rD d
      | none => .stuck
    | .val (.fz (.tuple ds)) => match atI ds k with
      | some d => rD d
      | none => .stuck
    | .val (.ls xs) => match atI xs k with
      | some ow => .ok (.val ow)
      | none => .stuck
    | .val (.tp xs) => match atI xs k with
      | some ow => .ok (.val ow)
      | none => .stuck
    | .ref i p (.ls xs) => match ixN xs.length k with
      | some j => match xs[j]? with
        | some ow => .ok (ixOw i p j ow)
        | none => .stuck
      | none => .stuck
    | .ref i p (.tp xs) => match ixN xs.length k with
      | some j => match xs[j]? with
        | some ow => .ok (ixOw i p j ow)
        | none => .stuck
      | none => .stuck
    | .bor (.list ds) => match atI ds k with
      | some d => .ok (if scal d = true then .val (.fz d) else .bor d)
      | none => .stuck
    | .bor (.tuple ds) => match atI ds k with
      | some d => .ok (if scal d = true then .val (.fz d) else .bor d)
      | none => .stuck
    | _ => .stuck
  | _ => .stuck
def cutL {α : Type} (xs : List α) (lo hi : Option Int) : List α := (xs.drop (HT.sIx xs.length 0 lo)).take (HT.sIx xs.length xs.length hi - HT.sIx xs.length 0 lo)
/-- an end of a slice -/
def ePart (c : Option EC) (ρ : Rho) : Res (Option Int) := match c with
  | none => .ok none
  | some c => (c ρ).bind fun x => match x.d with
    | .int i => .ok (some i)
    | _ => .stuck
def fCut (x : RV) (lo hi : Option Int) : Res RV := match x.d with
  | .list _ => match x.items with
    | some xs => .ok (.val (.ls (cutL xs lo hi)))
    | none => .stuck
  | .tuple _ => match x with
    | .val (.fz (.tuple ds)) => rD (.tuple (cutL ds lo hi))
    | _ => .stuck
  | _ => .stuck
def eSlice (a : EC) (lo hi : Option EC) : EC := fun ρ => (a ρ).bind fun x => (ePart lo ρ).bind fun l => (ePart hi ρ).bind fun h => fCut x l h
def fRev (x : RV) : Res RV := match x.d with
  | .list _ => match x.items with
    | some xs => .ok (.val (.ls xs.reverse))
    | none => .stuck
  | _ => .stuck

/-! ### several values -/
def evalAll : List EC → Rho → Res (List RV)
  | [], _ => .ok []
  | c :: cs, ρ => (c ρ).bind fun x => (evalAll cs ρ).bind fun xs => .ok (x :: xs)
def owsOf : List RV → Option (List Ow)
  | [] => some []
  | x :: xs => match x.ow, owsOf xs with
    | some o, some os => some (o :: os)
    | _, _ => none
def eLst (cs : List EC) : EC := fun ρ => (evalAll cs ρ).bind fun xs => match owsOf xs with
  | some os => if os.length ≤ 1000 then .ok (.val (.ls os)) else .stuck
  | none => .stuck
def eTup (cs : List EC) : EC := fun ρ => (evalAll cs ρ).bind fun xs => match owsOf xs with
  | some os => if os.length ≤ 1000 then .ok (.val (mkTup os)) else .stuck
  | none => .stuck
/-- an argument, as a callee's slot -/
def RV.arg : RV → Sl
  | .val ow => .own (.fz ow.toD)
  | .ref _ _ ow => .bor ow.toD
  | .bor d => .bor d
abbrev Fn := List Sl → Res Ow
def eCall (φ : Fn) (cs : List EC) : EC := fun ρ => (evalAll cs ρ).bind fun xs => (φ (xs.map RV.arg)).bind fun ow => .ok (.val ow)

/-! ### what a loop walks: at each turn the values of the targets -/
abbrev IC := Rho → Res (List (List Sl))
def slOf (d : D) : Sl := .own (.fz d)
def slBor (d : D) : Sl := if scal d = true then .own (.fz d) else .bor d
def RV.iter : RV → Option (List Sl)
  | .val ow => match rowOf ow.toD with
    | some ds => some (ds.map slOf)
    | none => none
  | .ref _ _ _ => none
  | .bor d => match rowOf d with
    | some ds => some (ds.map slBor)
    | none => none
def iRow (a : EC) : IC := fun ρ => (a ρ).bind fun x => match x.iter with
  | some ss => .ok (ss.map fun s => [s])
  | none => .stuck
def rangeS (lo hi : Int) : List (List Sl) := (List.range (hi - lo).toNat).map fun (k : Nat) => [slOf (.int (lo + k))]
def rngOk (i : Int) : Bool := decide (-(2 ^ 62) ≤ i) && decide (i < 2 ^ 62)
def iRng1 (a : EC) : IC := fun ρ => (a ρ).bind fun x => match x.d with
  | .int i => if rngOk i = true then .ok (rangeS 0 i) else .stuck
  | _ => .stuck
def iRng2 (a b : EC) : IC := fun ρ => (a ρ).bind fun x => (b ρ).bind fun y => match x.d, y.d with
  | .int i, .int j => if rngOk i = true ∧ rngOk j = true then .ok (rangeS i j) else .stuck
  | _, _ => .stuck
def enumS : Nat → List Sl → List (List Sl)
  | _, [] => []
  | k, s :: r => [slOf (.int (k : Nat)), s] :: enumS (k + 1) r
def iEnum (a : EC) : IC := fun ρ => (a ρ).bind fun x => match x.iter with
  | some ss => .ok (enumS 0 ss)
  | none => .stuck
def setAll : List Nat → List Sl → Rho → Rho
  | i :: is, s :: ss, ρ => setAll is ss (ρ.set i (some s))
  | _, _, ρ => ρ
def compL (tg : List Nat) (t : TC) (e : EC) : List (List Sl) → Rho → Res (List Ow)
  | [], _ => .ok []
  | v :: vs, ρ => match t (setAll tg v ρ) with
    | .ok true => match e (setAll tg v ρ) with
      | .ok x => match x.ow with
        | some o => (compL tg t e vs ρ).bind fun os => .ok (o :: os)
        | none => .stuck
      | _ => .stuck
    | .ok false => compL tg t e vs ρ
    | _ => .stuck
def wipeR : List Nat → Rho → Rho
  | [], ρ => ρ
  | v :: vs, ρ => (wipeR vs ρ).set v none
def eComp (tg : List Nat) (it : IC) (t : TC) (e : EC) : EC := fun ρ => (it ρ).bind fun vs => if vs.length ≤ 16777216 then
    match compL tg t e vs (wipeR tg ρ) with
    | .ok os => .ok (.val (.ls os))
    | _ => .stuck
  else .stuck

/-! ### statements -/
def sPass : SC := fun ρ => .next ρ
def sStuck : SC := fun _ => .stuck
def sSeq (a b : SC) : SC := fun ρ => match a ρ with
  | .next ρ' => b ρ'
  | r => r
def sIf (t : TC) (a b : SC) : SC := fun ρ => match t ρ with
  | .ok true => a ρ
  | .ok false => b ρ
  | .err x => .err x ρ
  | .stuck => .stuck
def sRet (a : EC) : SC := fun ρ => match a ρ with
  | .ok (.val ow) => .ret ow
  | .ok (.ref _ [] ow) => .ret ow
  | .ok _ => .stuck
  | .err x => .err x ρ
  | .stuck => .stuck
def sSet (i : Nat) (a : EC) : SC := fun ρ => match a ρ with
  | .ok (.val ow) => .next (ρ.set i (some (.own ow)))
  | .ok (.bor d) => .next (ρ.set i (some (.bor d)))
  | .ok _ => .stuck
  | .err x => .err x ρ
  | .stuck => .stuck
/-- a frozen slot -/
def frzSl : Option (Option Sl) → Option Sl
  | some (some (.own ow)) => some (.own (.fz ow.toD))
  | some (some (.bor d)) => some (.bor d)
  | _ => none
def sFrz (i : Nat) (a : SC) : SC := fun ρ => a (ρ.set i (frzSl ρ[i]?))
/-- a, b, .. = a row -/
def RV.parts : RV → Option (List Sl)
  | .val (.fz (.tuple ds)) => some (ds.map slOf)
  | .val (.fz (.list ds)) => some (ds.map slOf)
  | .val (.ls xs) => some (xs.map Sl.own)
  | .val (.tp xs) => some (xs.map Sl.own)
  | .bor (.tuple ds) => some (ds.map slBor)
  | .bor (.list ds) => some (ds.map slBor)
  | _ => none
def sUnp (tg : List Nat) (a : EC) : SC := fun ρ => match a ρ with
  | .ok x => match x.parts with
    | some ss => if ss.length = tg.length then .next (setAll tg ss ρ) else .stuck
    | none => .stuck
  | .err x => .err x ρ
  | .stuck => .stuck
def forL (tg : List Nat) (b : SC) : List (List Sl) → SC
  | [], ρ => .next ρ
  | v :: vs, ρ => match b (setAll tg v ρ) with
    | .next ρ' => forL tg b vs ρ'
    | .cont ρ' => forL tg b vs ρ'
    | .brk ρ' => .next ρ'
    | .ret ow => .ret ow
    | .err x ρ' => .err x ρ'
    | .stuck => .stuck
def sFor (tg : List Nat) (it : IC) (b : SC) : SC := fun ρ => match it ρ with
  | .ok vs => forL tg b vs ρ
  | .err x => .err x ρ
  | .stuck => .stuck
def whileN (t : TC) (b : SC) : Nat → SC
  | 0, _ => .stuck
  | n + 1, ρ => match t ρ with
    | .ok true => match b ρ with
      | .next ρ' => whileN t b n ρ'
      | .cont ρ' => whileN t b n ρ'
      | .brk ρ' => .next ρ'
      | .ret ow => .ret ow
      | .err x ρ' => .err x ρ'
      | .stuck => .stuck
    | .ok false => .next ρ
    | .err x => .err x ρ
    | .stuck => .stuck
def fuel : Nat := 18446744073709551616
def sWhile (t : TC) (b : SC) : SC := fun ρ => whileN t b fuel ρ
/-- slot[p..].append(e) -/
def Ow.put : Ow → List Nat → (List Ow → List Ow) → Option Ow
  | .ls xs, [], f => some (.ls (f xs))
  | .ls xs, k :: p, f => match xs[k]? with
    | some x => match Ow.put x p f with
      | some y => some (.ls (xs.set k y))
      | none => none
    | none => none
  | .tp xs, k :: p, f => match xs[k]? with
    | some x => match Ow.put x p f with
      | some y => some (.tp (xs.set k y))
      | none => none
    | none => none
  | _, _, _ => none
/-- the list at i, p is changed -/
def putAt (i : Nat) (p : List Nat) (f : List Ow → List Ow) (ρ : Rho) : SRes := match ρ[i]? with
  | some (some (.own ow)) => match ow.put p f with
    | some ow' => .next (ρ.set i (some (.own ow')))
    | none => .stuck
  | _ => .stuck
def sApp (o a : EC) : SC := fun ρ => match o ρ with
  | .ok (.ref i p (.ls xs)) => match a ρ with
    | .ok (.val ow) => if xs.length < 16777216 then putAt i p (fun xs => xs ++ [ow]) ρ else .stuck
    | .err x => .err x ρ
    | _ => .stuck
  | .err x => .err x ρ
  | _ => .stuck

/-! ### a def -/
def runBody (b : SC) (n : Nat) : Fn := fun as => match b (as.map some ++ List.replicate (n - as.length) none) with
  | .next _ => .ok (.fz .none)
  | .ret ow => .ok ow
  | .err x _ => .err x
  | _ => .stuck
end VL

set_option Elab.async false
set_option linter.all false
set_option maxRecDepth 100000
set_option maxHeartbeats 4000000
/-! VL3: what the machine does for an expression is what VL2 computes. -/
namespace VL
open PySem PySem.Spec PyProof.Rows L2

theorem Rp.scal_eq {K : Frag} {H : Hp} {v : V} {d : D} (h : Rp K H v d) (s : scal d = true) : v = vOf d := by
  cases h with
  | non => rfl
  | bl b => rfl
  | int i => rfl
  | str x => rfl
  | lst _ _ => cases s
  | tup _ _ => cases s
theorem Rp.scal {K : Frag} (H : Hp) {d : D} (s : scal d = true) : Rp K H (vOf d) d := by
  cases d with
  | none => exact .non
  | bool b => exact .bl b
  | int i => exact .int i
  | str x => exact .str x
  | list ds => cases s
  | tuple ds => cases s
  | dict ds => cases s
theorem RpAll.scal_eq {K : Frag} {H : Hp} : ∀ {ds : List D} {vs : List V}, RpAll K H vs ds → ds.all VL.scal = true → vs = ds.map vOf
  | [], _, .nil, _ => rfl
  | d :: ds, _, .cons a r, s => by
    simp only [List.all_cons, Bool.and_eq_true] at s
    rw [a.scal_eq s.1, RpAll.scal_eq r s.2]; rfl
theorem RpAll.scal {K : Frag} (H : Hp) : ∀ {ds : List D}, ds.all VL.scal = true → RpAll K H (ds.map vOf) ds
  | [], _ => .nil
  | d :: ds, s => by
    simp only [List.all_cons, Bool.and_eq_true] at s
    exact .cons (Rp.scal H s.1) (RpAll.scal H s.2)
theorem Rp.flat {K : Frag} {H : Hp} {v : V} {d : D} (h : Rp K H v d) (s : VL.scal d = true) : flatV v = true := by
  rw [h.scal_eq s]
  cases d <;> first | rfl | cases s
theorem RpAll.flat {K : Frag} {H : Hp} {vs : List V} {ds : List D} (h : RpAll K H vs ds) (s : ds.all VL.scal = true) : vs.all flatV = true := by
  rw [h.scal_eq s, List.all_eq_true]
  intro v hv
  obtain ⟨d, hd, rfl⟩ := List.mem_map.mp hv
  exact (Rp.scal (K := K) H (List.all_eq_true.mp s d hd)).flat (List.all_eq_true.mp s d hd)

theorem OR.fz_inv {K : Frag} {H F : Hp} {v : V} {d : D} {A : List Addr} (h : OR K H F v (.fz d) A) : A = [] ∧ Rp K F v d := by
  generalize e : Ow.fz d = ow at h
  cases h with
  | fz r => cases e; exact ⟨rfl, r⟩
  | ls _ _ _ _ => cases e
  | tp _ _ _ _ => cases e
theorem OR.ls_inv {K : Frag} {H F : Hp} {v : V} {xs : List Ow} {A : List Addr} (h : OR K H F v (.ls xs) A) : ∃ a vs B, v = .ref a ∧ A = a :: B ∧ H a = some (.lst vs) ∧ F a = none ∧ a ∉ B ∧ ORs K H F vs xs B := by
  generalize e : Ow.ls xs = ow at h
  cases h with
  | fz r => cases e
  | ls h1 h2 h3 h4 => cases e; exact ⟨_, _, _, rfl, rfl, h1, h2, h3, h4⟩
  | tp _ _ _ _ => cases e
theorem OR.tp_inv {K : Frag} {H F : Hp} {v : V} {xs : List Ow} {A : List Addr} (h : OR K H F v (.tp xs) A) : ∃ a vs B, v = .ref a ∧ A = a :: B ∧ H a = some (.tup vs) ∧ F a = none ∧ a ∉ B ∧ ORs K H F vs xs B := by
  generalize e : Ow.tp xs = ow at h
  cases h with
  | fz r => cases e
  | tp h1 h2 h3 h4 => cases e; exact ⟨_, _, _, rfl, rfl, h1, h2, h3, h4⟩
  | ls _ _ _ _ => cases e
/-! ### exceptions, readings -/
def FsOk (K : Frag) (F : Hp) (fs : List (Str × V)) (gs : List (Str × D)) : Prop := Paired (fun p q => p.1 = q.1 ∧ Rp K F p.2 q.2) fs gs
def XOk (K : Frag) (mg : Str → Option Value) (F H : Hp) (cls : Value) (d : Option Addr) (x : Exn) : Prop :=
  ∃ C, mg x.cls = some (.ref C) ∧ cls = .ref C ∧ (x.fs = [] ∨ ∃ dx fs, d = some dx ∧ H dx = some (.xd fs) ∧ FsOk K F fs x.fs)
def rdE (K : Frag) (mg : Str → Option Value) (c : EC) (W : WX) : TE := fun σ H Q => ∃ H0 F0 F ρ, SR K H0 F0 σ H F ρ ∧ match c ρ with
  | .ok rv => ∀ v H' F' A, Gr H F H' F' → RVOk K H0 H' F' σ ρ v A rv → (∀ a ∈ A, H a = none) → Q v H'
  | .err x => ∀ cls d H' F', Gr H F H' F' → XOk K mg F' H' cls d x → W cls d σ H'
  | .stuck => False
def rdT (K : Frag) (mg : Str → Option Value) (c : TC) (W : WX) : TT := fun σ H Q => ∃ H0 F0 F ρ, SR K H0 F0 σ H F ρ ∧ match c ρ with
  | .ok b => ∀ H' F', Gr H F H' F' → Q b H'
  | .err x => ∀ cls d H' F', Gr H F H' F' → XOk K mg F' H' cls d x → W cls d σ H'
  | .stuck => False
def RVs (K : Frag) (H0 H F : Hp) (σ : S) (ρ : Rho) : List V → List Addr → List RV → Prop
  | [], A, [] => A = []
  | v :: vs, A, x :: xs => ∃ A1 A2, A = A1 ++ A2 ∧ RVOk K H0 H F σ ρ v A1 x ∧ RVs K H0 H F σ ρ vs A2 xs ∧ ∀ a ∈ A1, a ∉ A2
  | _, _, _ => False
def rdA (K : Frag) (mg : Str → Option Value) (cs : List EC) (W : WX) : TA := fun σ H Q => ∃ H0 F0 F ρ, SR K H0 F0 σ H F ρ ∧ match evalAll cs ρ with
  | .ok rvs => ∀ vs H' F' A, Gr H F H' F' → RVs K H0 H' F' σ ρ vs A rvs → (∀ a ∈ A, H a = none) → Q vs H'
  | .err x => ∀ cls d H' F', Gr H F H' F' → XOk K mg F' H' cls d x → W cls d σ H'
  | .stuck => False
def EOk (X : Cx) (e : Expr) (c : EC) : Prop := ∀ W, Takes X W → PE X e (rdE X.K X.mg c W)
def TOk (X : Cx) (e : Expr) (c : TC) : Prop := ∀ W, Takes X W → PT X e (rdT X.K X.mg c W)
def WOk (X : Cx) (e : Expr) (c : TC) : Prop := ∀ W, Takes X W → PW X e (rdT X.K X.mg c W)
def AOk (X : Cx) (es : List Expr) (cs : List EC) : Prop := ∀ W, Takes X W → PA X es (rdA X.K X.mg cs W)
theorem pe_mono {X : Cx} {e : Expr} {t t' : TE} (h : PE X e t) (k : ∀ σ H Q, t' σ H Q → t σ H Q) : PE X e t' := ⟨fun pins s σ H Q I q => h.run pins s σ H Q I (k σ H Q q)⟩
theorem pt_mono {X : Cx} {e : Expr} {t t' : TT} (h : PT X e t) (k : ∀ σ H Q, t' σ H Q → t σ H Q) : PT X e t' := ⟨fun pins s σ H Q I q => h.run pins s σ H Q I (k σ H Q q)⟩
theorem pw_mono {X : Cx} {e : Expr} {t t' : TT} (h : PW X e t) (k : ∀ σ H Q, t' σ H Q → t σ H Q) : PW X e t' := ⟨fun wh pins s σ H Q I q => h.run wh pins s σ H Q I (k σ H Q q)⟩
theorem pa_mono {X : Cx} {e : List Expr} {t t' : TA} (h : PA X e t) (k : ∀ σ H Q, t' σ H Q → t σ H Q) : PA X e t' := ⟨fun pos pins s σ H Q I q => h.run pos pins s σ H Q I (k σ H Q q)⟩

section
variable {K : Frag} {mg : Str → Option Value} {W : WX} {σ : S} {H H0 F0 F : Hp} {ρ : Rho}
/-- one value is asked; then what is wanted of it -/
theorem rdE_ok {c : EC} {rv : RV} {Q : VK} (s : SR K H0 F0 σ H F ρ) (h : c ρ = .ok rv) (k : ∀ v H' F' A, Gr H F H' F' → RVOk K H0 H' F' σ ρ v A rv → (∀ a ∈ A, H a = none) → Q v H') : rdE K mg c W σ H Q :=
  ⟨H0, F0, F, ρ, s, by rw [h]; exact k⟩
theorem rdE_err {c : EC} {x : Exn} {Q : VK} (s : SR K H0 F0 σ H F ρ) (h : c ρ = .err x) (k : ∀ cls d H' F', Gr H F H' F' → XOk K mg F' H' cls d x → W cls d σ H') : rdE K mg c W σ H Q :=
  ⟨H0, F0, F, ρ, s, by rw [h]; exact k⟩
theorem rdT_ok {c : TC} {b : Bool} {Q : Bool → Hp → Prop} (s : SR K H0 F0 σ H F ρ) (h : c ρ = .ok b) (k : ∀ H' F', Gr H F H' F' → Q b H') : rdT K mg c W σ H Q :=
  ⟨H0, F0, F, ρ, s, by rw [h]; exact k⟩
theorem rdT_err {c : TC} {x : Exn} {Q : Bool → Hp → Prop} (s : SR K H0 F0 σ H F ρ) (h : c ρ = .err x) (k : ∀ cls d H' F', Gr H F H' F' → XOk K mg F' H' cls d x → W cls d σ H') : rdT K mg c W σ H Q :=
  ⟨H0, F0, F, ρ, s, by rw [h]; exact k⟩
theorem rdA_ok {c : List EC} {rvs : List RV} {Q : List V → Hp → Prop} (s : SR K H0 F0 σ H F ρ) (h : evalAll c ρ = .ok rvs) (k : ∀ vs H' F' A, Gr H F H' F' → RVs K H0 H' F' σ ρ vs A rvs → (∀ a ∈ A, H a = none) → Q vs H') : rdA K mg c W σ H Q :=
  ⟨H0, F0, F, ρ, s, by rw [h]; exact k⟩
theorem rdA_err {c : List EC} {x : Exn} {Q : List V → Hp → Prop} (s : SR K H0 F0 σ H F ρ) (h : evalAll c ρ = .err x) (k : ∀ cls d H' F', Gr H F H' F' → XOk K mg F' H' cls d x → W cls d σ H') : rdA K mg c W σ H Q :=
  ⟨H0, F0, F, ρ, s, by rw [h]; exact k⟩
theorem SR.refl (s : SR K H0 F0 σ H F ρ) : Gr H F H F := Gr.refl s.sub
/-- the continuation of a scalar -/
theorem fin_d {d : D} {Q : VK} (s : SR K H0 F0 σ H F ρ) (hd : scal d = true)
    (k : ∀ v H' F' A, Gr H F H' F' → RVOk K H0 H' F' σ ρ v A (.val (.fz d)) → (∀ a ∈ A, H a = none) → Q v H') : Q (vOf d) H :=
  k _ _ _ [] s.refl (OR.fz (Rp.scal F hd)) fun _ h => by cases h
end

/-! ### names, constants -/
section
variable {X : Cx}
theorem eok_var {i : Nat} {x : Str} {pos : Pos} (hN : X.N[i]? = some x) (hv : Vis X.env.scope x) (hd : (x == ("__debug__" : Str)) = false := by decide) (hcd : (x == ("__classdict__" : Str)) = false := by decide) : EOk X (.Name x pos) (eVar i) := fun W tk =>
  pe_mono (pe_var hN hv hd hcd) fun σ H Q h => by
    obtain ⟨H0, F0, F, ρ, s, h⟩ := h
    obtain ⟨A, hA, _⟩ := s.sl
    have hi := hA i
    unfold eVar at h
    cases e : ρ[i]? with
    | none => rw [e] at h; exact h.elim
    | some o =>
      cases o with
      | none => rw [e] at h; exact h.elim
      | some sl =>
        rw [e] at h hi
        cases sl with
        | own ow =>
          obtain ⟨v, e1, o, _⟩ := hi
          cases ow with
          | fz d => exact ⟨v, e1, h v H F [] s.refl (OR.fz o.fz_inv.2) fun _ z => by cases z⟩
          | ls xs => exact ⟨v, e1, h v H F [] s.refl ⟨rfl, ⟨v, e1, rfl⟩, ⟨_, e, rfl⟩, _, o⟩ fun _ z => by cases z⟩
          | tp xs => exact ⟨v, e1, h v H F [] s.refl ⟨rfl, ⟨v, e1, rfl⟩, ⟨_, e, rfl⟩, _, o⟩ fun _ z => by cases z⟩
        | bor d =>
          obtain ⟨_, v, e1, o⟩ := hi
          refine ⟨v, e1, ?_⟩
          by_cases hs : scal d = true
          · simp only [Sl.rv, hs, if_true] at h
            have ev := o.scal_eq hs
            subst ev
            exact h _ H F [] s.refl (OR.fz (Rp.scal F hs)) fun _ z => by cases z
          · simp only [Sl.rv, hs] at h
            exact h v H F [] s.refl ⟨rfl, o⟩ fun _ z => by cases z
theorem eok_k {e : Expr} {d : D} (hd : scal d = true) (h : PE X e (tC (vOf d))) : EOk X e (eK d) := fun W tk => pe_mono h fun σ H Q q => by
  obtain ⟨H0, F0, F, ρ, s, q⟩ := q
  exact fin_d s hd q
theorem eok_int {i j pos} : EOk X (.Constant (.int i) j pos) (eK (.int i)) := eok_k rfl pe_int
theorem eok_bool {b j pos} : EOk X (.Constant (.bool b) j pos) (eK (.bool b)) := eok_k rfl pe_bl
theorem eok_none {j pos} : EOk X (.Constant .none j pos) (eK .none) := eok_k rfl pe_non
theorem eok_str {x j pos} : EOk X (.Constant (.str x) j pos) (eK (.str x)) := eok_k rfl pe_str
/-- a module's number -/
theorem eok_glob {x : Str} {d : D} {u : Value} {pos : Pos} (hd : scal d = true) (hm : X.mg x = some u) (r : RelV (vOf d) u) (hg : Gl X x := by rfl) (hdb : (x == ("__debug__" : Str)) = false := by decide) : EOk X (.Name x pos) (eK d) := eok_k hd (pe_glob hg hm r hdb)

/-! ### two values, one value -/
/-- by values: what the rule R asks is answered by f -/
def Op2 (X : Cx) (R : R2) (f : RV → RV → Res RV) : Prop := ∀ {H0 F0 F H : Hp} {σ : S} {ρ : Rho} {x y : V} {A B : List Addr} {rx ry : RV} {Q : VK}, SR X.K H0 F0 σ H F ρ → RVOk X.K H0 H F σ ρ x A rx → RVOk X.K H0 H F σ ρ y B ry → (∀ a ∈ A, a ∉ B) →
  match f rx ry with
  | .ok rv => (∀ v H' F' C, Gr H F H' F' → RVOk X.K H0 H' F' σ ρ v C rv → (∀ c ∈ C, c ∈ A ∨ c ∈ B ∨ H c = none) → Q v H') → R x y H Q
  | .err _ => False
  | .stuck => True
def Op1 (X : Cx) (R : V → Hp → VK → Prop) (f : RV → Res RV) : Prop := ∀ {H0 F0 F H : Hp} {σ : S} {ρ : Rho} {x : V} {A : List Addr} {rx : RV} {Q : VK}, SR X.K H0 F0 σ H F ρ → RVOk X.K H0 H F σ ρ x A rx →
  match f rx with
  | .ok rv => (∀ v H' F' C, Gr H F H' F' → RVOk X.K H0 H' F' σ ρ v C rv → (∀ c ∈ C, c ∈ A ∨ H c = none) → Q v H') → R x H Q
  | .err _ => False
  | .stuck => True
theorem eok_bin {e a b : Expr} {ca cb : EC} {R : R2} {f : RV → RV → Res RV} (he : ∀ ta tb, PE X a ta → PE X b tb → PE X e (tOp R ta tb)) (ho : Op2 X R f) (ha : EOk X a ca) (hb : EOk X b cb) : EOk X e (eBin f ca cb) := fun W tk =>
  pe_mono (he _ _ (ha W tk) (hb W tk)) fun σ H Q h => by
    obtain ⟨H0, F0, F, ρ, s, h⟩ := h
    show rdE X.K X.mg ca W σ H fun x H1 => rdE X.K X.mg cb W σ H1 fun y H2 => R x y H2 Q
    unfold eBin at h
    cases e1 : ca ρ with
    | stuck => rw [e1] at h; exact h.elim
    | err x => rw [e1] at h; exact rdE_err s e1 h
    | ok rx =>
      rw [e1] at h
      refine rdE_ok s e1 fun x H1 F1 A g1 o1 n1 => ?_
      have s1 := s.step g1
      cases e2 : cb ρ with
      | stuck => simp only [Res.bind, e2] at h
      | err z =>
        simp only [Res.bind, e2] at h
        exact rdE_err s1 e2 fun cls d H' F' g => h cls d H' F' (g1.trans g)
      | ok ry =>
        simp only [Res.bind, e2] at h
        refine rdE_ok s1 e2 fun y H2 F2 B g2 o2 n2 => ?_
        have s2 := s1.step g2
        have o1' := o1.gr g2
        have dis : ∀ a ∈ A, a ∉ B := fun a ha hb => (o1.there a ha).1 (n2 a hb)
        have op := ho (Q := Q) s2 o1' o2 dis
        cases e3 : f rx ry with
        | stuck => rw [e3] at h; exact h.elim
        | err z => rw [e3] at op; exact op.elim
        | ok rv =>
          rw [e3] at h op
          refine op fun v H' F' C g o n => h v H' F' C ((g1.trans g2).trans g) o fun c hc => ?_
          rcases n c hc with z | z | z
          · exact n1 c z
          · exact g1.hh.none (n2 c z)
          · exact (g1.trans g2).hh.none z
theorem eok_un {e a : Expr} {ca : EC} {R : V → Hp → VK → Prop} {f : RV → Res RV} (he : ∀ ta, PE X a ta → PE X e (tUn R ta)) (ho : Op1 X R f) (ha : EOk X a ca) : EOk X e (eUn f ca) := fun W tk =>
  pe_mono (he _ (ha W tk)) fun σ H Q h => by
    obtain ⟨H0, F0, F, ρ, s, h⟩ := h
    show rdE X.K X.mg ca W σ H fun x H1 => R x H1 Q
    unfold eUn at h
    cases e1 : ca ρ with
    | stuck => rw [e1] at h; exact h.elim
    | err x => rw [e1] at h; exact rdE_err s e1 h
    | ok rx =>
      rw [e1] at h
      simp only [Res.bind] at h
      refine rdE_ok s e1 fun x H1 F1 A g1 o1 n1 => ?_
      have op := ho (Q := Q) (s.step g1) o1
      cases e3 : f rx with
      | stuck => rw [e3] at h; exact h.elim
      | err z => rw [e3] at op; exact op.elim
      | ok rv =>
        rw [e3] at h op
        refine op fun v H' F' C g o n => h v H' F' C (g1.trans g) o fun c hc => ?_
        rcases n c hc with z | z
        · exact n1 c z
        · exact g1.hh.none z

/-! ### operators of ints -/
theorem rp_int {K : Frag} {H : Hp} {v : V} {i : Int} (h : Rp K H v (.int i)) : v = .int i := by cases h; rfl
section
variable {H0 F0 F H : Hp} {σ : S} {ρ : Rho}
theorem op2_i {R : R2} {f : RV → RV → Res RV} (g : Int → Int → D) (C : Int → Int → Bool) (hg : ∀ i j, scal (g i j) = true) (hf : ∀ x y, f x y = match x.d, y.d with
      | .int i, .int j => if C i j = true then rD (g i j) else .stuck
      | _, _ => .stuck) (hR : ∀ i j H Q, C i j = true → Q (vOf (g i j)) H → R (.int i) (.int j) H Q) : Op2 X R f := by
  intro H0 F0 F H σ ρ x y A B rx ry Q s hx hy dis
  rw [hf]
  have px := hx.dp s
  have py := hy.dp s
  cases ex : rx.d with
  | int i =>
    cases ey : ry.d with
    | int j =>
      rw [ex] at px
      rw [ey] at py
      have e1 := rp_int px
      have e2 := rp_int py
      subst e1; subst e2
      by_cases hc : C i j = true
      · simp only [hc, if_true, rD]
        intro k
        exact hR i j H Q hc (fin_d s (hg i j) fun v H' F' A' g o n => k v H' F' A' g o fun c hc => .inr (.inr (n c hc)))
      · simp only [hc]
        trivial
    | _ => trivial
  | _ =>
    cases ry.d <;> trivial
end
end
end VL

set_option Elab.async false
set_option linter.all false
set_option maxRecDepth 100000
set_option maxHeartbeats 4000000
/-! VL4: operators, comparisons, built-in functions, subscripts, displays, calls. -/
namespace VL
open PySem PySem.Spec PyProof.Rows L2

/-! ### items -/
theorem ORs.allfz {K : Frag} {H F : Hp} : ∀ {xs : List Ow} {vs : List V} {A : List Addr}, ORs K H F vs xs A → xs.all isFz = true → A = [] ∧ RpAll K F vs (toDs xs)
  | [], _, _, .nil, _ => ⟨rfl, .nil⟩
  | x :: xs, _, _, .cons h1 h2 h3, e => by
    simp only [List.all_cons, Bool.and_eq_true] at e
    obtain ⟨e1, e2⟩ := e
    obtain ⟨r1, r2⟩ := ORs.allfz h2 e2
    cases x with
    | fz d =>
      obtain ⟨q1, q2⟩ := h1.fz_inv
      subst q1; subst r1
      exact ⟨rfl, .cons q2 r2⟩
    | ls _ => cases e1
    | tp _ => cases e1
section
variable {K : Frag} {mg : Str → Option Value} {W : WX} {σ : S} {H H0 F0 F : Hp} {ρ : Rho}
theorem items_ok {v : V} {A : List Addr} {rv : RV} {xs : List Ow} (s : SR K H0 F0 σ H F ρ) (h : RVOk K H0 H F σ ρ v A rv) (e : rv.items = some xs) :
    ∃ a vs B, v = .ref a ∧ ((isL rv.d = true ∧ LK K H a vs) ∨ (isT rv.d = true ∧ SqT K H a vs)) ∧ ORs K H F vs xs B ∧ ∀ b ∈ B, b ∈ A := by
  match rv, h, e with
  | .val (.fz (.list ds)), h, e =>
    cases e
    obtain ⟨_, r⟩ := OR.fz_inv h
    cases r with
    | lst r ra => exact ⟨_, _, [], rfl, .inl ⟨rfl, s.sub.lk r⟩, ORs.ofDp ra, fun _ z => by cases z⟩
  | .val (.fz (.tuple ds)), h, e =>
    cases e
    obtain ⟨_, r⟩ := OR.fz_inv h
    cases r with
    | tup r ra => exact ⟨_, _, [], rfl, .inr ⟨rfl, s.sub.sqT r⟩, ORs.ofDp ra, fun _ z => by cases z⟩
  | .val (.ls ys), h, e =>
    cases e
    obtain ⟨a, vs, B, rfl, rfl, h1, h2, h3, h4⟩ := OR.ls_inv h
    exact ⟨a, vs, B, rfl, .inl ⟨rfl, .of h1⟩, h4, fun b hb => List.mem_cons_of_mem _ hb⟩
  | .val (.tp ys), h, e =>
    cases e
    obtain ⟨a, vs, B, rfl, rfl, h1, h2, h3, h4⟩ := OR.tp_inv h
    exact ⟨a, vs, B, rfl, .inr ⟨rfl, .of h1⟩, h4, fun b hb => List.mem_cons_of_mem _ hb⟩
  | .ref i p (.ls ys), ⟨_, _, _, B, h⟩, e =>
    unfold RV.items at e
    by_cases hf : ys.all isFz = true
    · simp only [hf, if_true] at e
      cases e
      obtain ⟨a, vs, B, rfl, rfl, h1, h2, h3, h4⟩ := OR.ls_inv h
      obtain ⟨e1, _⟩ := h4.allfz hf
      subst e1
      exact ⟨a, vs, [], rfl, .inl ⟨rfl, .of h1⟩, h4, fun _ z => by cases z⟩
    · simp only [hf] at e
      cases e
  | .ref i p (.tp ys), ⟨_, _, _, B, h⟩, e =>
    unfold RV.items at e
    by_cases hf : ys.all isFz = true
    · simp only [hf, if_true] at e
      cases e
      obtain ⟨a, vs, B, rfl, rfl, h1, h2, h3, h4⟩ := OR.tp_inv h
      obtain ⟨e1, _⟩ := h4.allfz hf
      subst e1
      exact ⟨a, vs, [], rfl, .inr ⟨rfl, .of h1⟩, h4, fun _ z => by cases z⟩
    · simp only [hf] at e
      cases e
  | .bor (.list ds), ⟨_, h⟩, e =>
    unfold RV.items at e
    by_cases hf : ds.all scal = true
    · simp only [hf, if_true] at e
      cases e
      cases h with
      | lst r ra =>
        have ev := ra.scal_eq hf
        subst ev
        exact ⟨_, _, [], rfl, .inl ⟨rfl, s.gr.hh.lk r⟩, ORs.ofDp (RpAll.scal F hf), fun _ z => by cases z⟩
    · simp only [hf] at e
      cases e
  | .bor (.tuple ds), ⟨_, h⟩, e =>
    unfold RV.items at e
    by_cases hf : ds.all scal = true
    · simp only [hf, if_true] at e
      cases e
      cases h with
      | tup r ra =>
        have ev := ra.scal_eq hf
        subst ev
        exact ⟨_, _, [], rfl, .inr ⟨rfl, s.gr.hh.sqT r⟩, ORs.ofDp (RpAll.scal F hf), fun _ z => by cases z⟩
    · simp only [hf] at e
      cases e
/-- a new list, a new tuple -/
theorem fin_ls {p : Addr} {vs : List V} {xs : List Ow} {B : List Addr} (s : SR K H0 F0 σ H F ρ) (o : ORs K H F vs xs B) (hp : H p = none) :
    Gr H F (upd H p (.lst vs)) F ∧ RVOk K H0 (upd H p (.lst vs)) F σ ρ (.ref p) (p :: B) (.val (.ls xs)) := by
  have g : Gr H F (upd H p (.lst vs)) F := Gr.laid s.sub hp
  refine ⟨g, OR.ls upd_same (s.sub.none hp) (fun hb => ?_) (o.gr g)⟩
  exact (o.there p hb).1 hp
theorem fin_tup {p : Addr} {vs : List V} {xs : List Ow} {B : List Addr} (s : SR K H0 F0 σ H F ρ) (o : ORs K H F vs xs B) (hp : H p = none) :
    ∃ F' C, Gr H F (upd H p (.tup vs)) F' ∧ RVOk K H0 (upd H p (.tup vs)) F' σ ρ (.ref p) C (.val (mkTup xs)) ∧ ∀ c ∈ C, c = p ∨ c ∈ B := by
  have g : Gr H F (upd H p (.tup vs)) F := Gr.laid s.sub hp
  have fp := s.sub.none hp
  unfold mkTup
  by_cases hf : xs.all isFz = true
  · obtain ⟨_, ra⟩ := o.allfz hf
    have g2 := g.frozen (A := [p]) (fun a h => by simp at h; subst h; exact hp) (fun a h => by simp at h; subst h; exact fp)
    refine ⟨_, [], g2, ?_, fun _ h => by cases h⟩
    rw [if_pos hf]
    exact OR.fz (.tup (.of (by rw [frz_in (by simp)]; exact upd_same)) (ra.mono g2.ff))
  · refine ⟨F, p :: B, g, ?_, fun c hc => List.mem_cons.mp hc⟩
    rw [if_neg hf]
    exact OR.tp upd_same fp (fun hb => (o.there p hb).1 hp) (o.gr g)
end

/-! ### operators -/
section
variable {X : Cx}
theorem rd_lstM {pins : List (Addr × Obj)} {σ : S} {H : Hp} {s : Shared} {l : Addr} {xs : List V} (I : Inv X pins σ H s) (h : LK X.K H l xs) :
    xs.length ≤ sizeLine ∧ ∃ (its : List Value) (n : Nat), Vals xs its ∧ xs.length = its.length ∧ s.heap.get? l = some { cls := .type "list", data := .seq its.toArray n } := by
  rcases h with h | ⟨its, n, hk, hz, r⟩
  · obtain ⟨z, its, n, r, e⟩ := h.ok I.hok
    exact ⟨z, its, n, r, r.length, e⟩
  · have e := r.length
    exact ⟨by rw [e]; simpa using hz, its.toList, n, r, e, by simpa using I.kIn l _ hk⟩
def rCatR (K : Frag) : R2 := fun x y H Q => ∃ l b xs zs, x = .ref l ∧ y = .ref b ∧ LK K H l xs ∧ LK K H b zs ∧ xs.length + zs.length ≤ sizeLine ∧ ∀ p, H p = none → Q (.ref p) (upd H p (.lst (xs ++ zs)))
theorem op_catR : OpR X (binaryOp .Add) (rCatR X.K) := by
  intro pins s σ H x y v u Q I rx ry h
  obtain ⟨l, b, xs, zs, rfl, rfl, hH, hB, hz, q⟩ := h
  cases rx
  cases ry
  obtain ⟨z, its, n, r, hl, e⟩ := rd_lstM I hH
  obtain ⟨z2, its2, n2, r2, hl2, e2⟩ := rd_lstM I hB
  refine PySem.P.add_list e e2 ?_ (by rw [List.size_toArray, List.size_toArray]; omega)
  have ea : its.toArray ++ its2.toArray = (its ++ its2).toArray := by simp
  rw [ea]
  exact ⟨.ref _, _, I.lnew (t' := s.toks) (r.append r2) (by rw [List.length_append]; omega), rfl, q _ I.fresh⟩
def rAddV (K : Frag) : R2 := fun x y H Q => (rI0 (fun i j => .int (i + j)) x y H Q ∨ rCatR K x y H Q) ∨ ∃ i j, x = .str i ∧ y = .str j ∧ i.length + j.length ≤ sizeLine ∧ Q (.str (i ++ j)) H
theorem rp_str {K : Frag} {H : Hp} {v : V} {x : Str} (h : Rp K H v (.str x)) : v = .str x := by cases h; rfl
theorem op2_add : Op2 X (rAddV X.K) fAdd := by
  intro H0 F0 F H σ ρ x y A B rx ry Q s hx hy dis
  unfold fAdd
  have px := hx.dp s
  have py := hy.dp s
  cases ex : rx.d with
  | int i =>
    cases ey : ry.d with
    | int j =>
      rw [ex] at px; rw [ey] at py
      obtain rfl := rp_int px
      obtain rfl := rp_int py
      intro k
      exact .inl (.inl ⟨i, j, rfl, rfl, fin_d s (d := .int (i + j)) rfl fun v H' F' A' g o n => k v H' F' A' g o fun c hc => .inr (.inr (n c hc))⟩)
    | _ => trivial
  | str i =>
    cases ey : ry.d with
    | str j =>
      rw [ex] at px; rw [ey] at py
      obtain rfl := rp_str px
      obtain rfl := rp_str py
      by_cases hc : i.length + j.length ≤ 16777216
      · simp only [hc, if_true, rD]
        intro k
        exact .inr ⟨i, j, rfl, rfl, by rw [sizeLine_eq]; exact hc, fin_d s (d := .str (i ++ j)) rfl fun v H' F' A' g o n => k v H' F' A' g o fun c hc => .inr (.inr (n c hc))⟩
      · simp only [hc]
        trivial
    | _ => trivial
  | list ds =>
    cases ey : ry.d with
    | list es =>
      simp only [catL]
      cases e1 : rx.items with
      | none => trivial
      | some xs =>
        cases e2 : ry.items with
        | none => trivial
        | some ys =>
          by_cases hc : xs.length + ys.length ≤ 16777216
          · simp only [hc, if_true]
            intro k
            obtain ⟨a, vs, A', rfl, ha, oa, na⟩ := items_ok s hx e1
            obtain ⟨b, ws, B', rfl, hb, ob, nb⟩ := items_ok s hy e2
            rw [ex] at ha; rw [ey] at hb
            rcases ha with ⟨_, ha⟩ | ⟨z, _⟩
            · rcases hb with ⟨_, hb⟩ | ⟨z, _⟩
              · refine .inl (.inr ⟨a, b, vs, ws, rfl, rfl, ha, hb, by rw [oa.length, ob.length, sizeLine_eq]; exact hc, fun p hp => ?_⟩)
                have o2 := oa.append ob fun z h1 h2 => dis z (na z h1) (nb z h2)
                obtain ⟨g, o⟩ := fin_ls s o2 hp
                refine k _ _ _ _ g o fun c hc => ?_
                rcases List.mem_cons.mp hc with rfl | hc
                · exact .inr (.inr hp)
                · rcases List.mem_append.mp hc with q | q
                  · exact .inl (na c q)
                  · exact .inr (.inl (nb c q))
              · cases z
            · cases z
          · simp only [hc]
            trivial
    | _ => trivial
  | _ =>
    cases ry.d <;> trivial
theorem opR_add : OpR X (binaryOp .Add) (rAddV X.K) := (op_add.or op_catR).or op_add_str
variable {a b : Expr} {ca cb : EC} {pos : Pos}
theorem eok_add (ha : EOk X a ca) (hb : EOk X b cb) : EOk X (.BinOp a .Add b pos) (eBin fAdd ca cb) := eok_bin (fun _ _ h1 h2 => pe_op opR_add h1 h2) op2_add ha hb
theorem op2_sub : Op2 X (rI0 fun i j => .int (i - j)) fSub := op2_i (fun i j => .int (i - j)) (fun _ _ => true) (fun _ _ => rfl) (fun x y => by unfold fSub; split <;> simp_all) fun i j H Q _ q => ⟨i, j, rfl, rfl, q⟩
theorem eok_sub (ha : EOk X a ca) (hb : EOk X b cb) : EOk X (.BinOp a .Sub b pos) (eBin fSub ca cb) := eok_bin (fun _ _ h1 h2 => pe_op op_sub h1 h2) op2_sub ha hb
theorem op2_mul : Op2 X (rI CMul fun i j => .int (i * j)) fMul := op2_i (fun i j => .int (i * j)) mulOk (fun _ _ => rfl) (fun x y => by unfold fMul; split <;> simp_all) fun i j H Q h q => ⟨i, j, rfl, rfl, by
  simp only [mulOk, Bool.or_eq_true, Bool.and_eq_true, decide_eq_true_eq] at h
  exact h, q⟩
theorem eok_mul (ha : EOk X a ca) (hb : EOk X b cb) : EOk X (.BinOp a .Mult b pos) (eBin fMul ca cb) := eok_bin (fun _ _ h1 h2 => pe_op op_mul h1 h2) op2_mul ha hb
theorem op2_div : Op2 X (rI CDiv fun i j => .int (i / j)) fDiv := op2_i (fun i j => .int (i / j)) (fun _ j => decide (0 < j ∧ j < 1073741824)) (fun _ _ => rfl) (fun x y => by unfold fDiv; split <;> simp_all) fun i j H Q h q => ⟨i, j, rfl, rfl, by (first | unfold CDiv | unfold CPow); exact of_decide_eq_true h, q⟩
theorem eok_div (ha : EOk X a ca) (hb : EOk X b cb) : EOk X (.BinOp a .FloorDiv b pos) (eBin fDiv ca cb) := eok_bin (fun _ _ h1 h2 => pe_op op_fdiv h1 h2) op2_div ha hb
theorem op2_mod : Op2 X (rI (fun _ j => 0 < j) fun i j => .int (i % j)) fMod := op2_i (fun i j => .int (i % j)) (fun _ j => decide (0 < j)) (fun _ _ => rfl) (fun x y => by unfold fMod; split <;> simp_all) fun i j H Q h q => ⟨i, j, rfl, rfl, of_decide_eq_true h, q⟩
theorem eok_mod (ha : EOk X a ca) (hb : EOk X b cb) : EOk X (.BinOp a .Mod b pos) (eBin fMod ca cb) := eok_bin (fun _ _ h1 h2 => pe_op op_mod h1 h2) op2_mod ha hb
theorem op2_pow : Op2 X (rI CPow fun i j => .int (i ^ j.toNat)) fPow := op2_i (fun i j => .int (i ^ j.toNat)) (fun i j => decide (0 ≤ j ∧ j ≤ 1000000 ∧ i.natAbs < 2 ^ 64)) (fun _ _ => rfl) (fun x y => by unfold fPow; split <;> simp_all) fun i j H Q h q => ⟨i, j, rfl, rfl, by (first | unfold CDiv | unfold CPow); exact of_decide_eq_true h, q⟩
theorem eok_pow (ha : EOk X a ca) (hb : EOk X b cb) : EOk X (.BinOp a .Pow b pos) (eBin fPow ca cb) := eok_bin (fun _ _ h1 h2 => pe_op op_pow h1 h2) op2_pow ha hb
theorem op2_shl : Op2 X (rI CPow fun i j => .int (i * 2 ^ j.toNat)) fShl := op2_i (fun i j => .int (i * 2 ^ j.toNat)) (fun i j => decide (0 ≤ j ∧ j ≤ 1000000 ∧ i.natAbs < 2 ^ 64)) (fun _ _ => rfl) (fun x y => by unfold fShl; split <;> simp_all) fun i j H Q h q => ⟨i, j, rfl, rfl, by (first | unfold CDiv | unfold CPow); exact of_decide_eq_true h, q⟩
theorem eok_shl (ha : EOk X a ca) (hb : EOk X b cb) : EOk X (.BinOp a .LShift b pos) (eBin fShl ca cb) := eok_bin (fun _ _ h1 h2 => pe_op op_shl h1 h2) op2_shl ha hb
/-- comparisons of ints -/
theorem op2_lt : Op2 X (rI0 fun i j => .bl (decide (i < j))) fLt := op2_i (fun i j => .bool (decide (i < j))) (fun _ _ => true) (fun _ _ => rfl) (fun x y => by unfold fLt; split <;> simp_all) fun i j H Q _ q => ⟨i, j, rfl, rfl, q⟩
theorem op2_le : Op2 X (rI0 fun i j => .bl (decide (i ≤ j))) fLe := op2_i (fun i j => .bool (decide (i ≤ j))) (fun _ _ => true) (fun _ _ => rfl) (fun x y => by unfold fLe; split <;> simp_all) fun i j H Q _ q => ⟨i, j, rfl, rfl, q⟩
theorem op2_gt : Op2 X (rI0 fun i j => .bl (decide (j < i))) fGt := op2_i (fun i j => .bool (decide (j < i))) (fun _ _ => true) (fun _ _ => rfl) (fun x y => by unfold fGt; split <;> simp_all) fun i j H Q _ q => ⟨i, j, rfl, rfl, q⟩
theorem op2_ge : Op2 X (rI0 fun i j => .bl (decide (j ≤ i))) fGe := op2_i (fun i j => .bool (decide (j ≤ i))) (fun _ _ => true) (fun _ _ => rfl) (fun x y => by unfold fGe; split <;> simp_all) fun i j H Q _ q => ⟨i, j, rfl, rfl, q⟩
/-- == of data -/
theorem op2_eq : Op2 X (rEqD X.K) fEq := by
  intro H0 F0 F H σ ρ x y A B rx ry Q s hx hy dis
  unfold fEq
  by_cases hc : SeqAt.shaped rx.d = true ∧ SeqAt.shaped ry.d = true
  · simp only [hc, and_self, if_true, rD]
    intro k
    exact ⟨rx.d, ry.d, (hx.dp s).dp, (hy.dp s).dp, hc.1, hc.2, fin_d s (d := .bool _) rfl fun v H' F' A' g o n => k v H' F' A' g o fun c hc => .inr (.inr (n c hc))⟩
  · simp only [hc]
    trivial
theorem op2_ne : Op2 X (rNeD X.K) fNe := by
  intro H0 F0 F H σ ρ x y A B rx ry Q s hx hy dis
  unfold fNe
  by_cases hc : SeqAt.shaped rx.d = true ∧ SeqAt.shaped ry.d = true
  · simp only [hc, and_self, if_true, rD]
    intro k
    exact ⟨rx.d, ry.d, (hx.dp s).dp, (hy.dp s).dp, hc.1, hc.2, fin_d s (d := .bool _) rfl fun v H' F' A' g o n => k v H' F' A' g o fun c hc => .inr (.inr (n c hc))⟩
  · simp only [hc]
    trivial
theorem inV_eq (d : D) : ∀ ds : List D, inV (vOf d) (ds.map vOf) = ds.any fun e => eqF e d
  | [] => rfl
  | e :: es => by
    show (eqV (vOf e) (vOf d) || inV (vOf d) (es.map vOf)) = (eqF e d || es.any fun e => eqF e d)
    rw [inV_eq d es]; rfl
theorem rowOf_rp {K : Frag} {H : Hp} {v : V} {d : D} {ds : List D} (h : Rp K H v d) (e : rowOf d = some ds) : ∃ a vs, v = .ref a ∧ (SqL K H a vs ∨ SqT K H a vs) ∧ RpAll K H vs ds := by
  cases h with
  | lst r ra => cases e; exact ⟨_, _, rfl, .inl (r.sqL), ra⟩
  | tup r ra => cases e; exact ⟨_, _, rfl, .inr r, ra⟩
  | _ => cases e
theorem op2_in : Op2 X (rIn X.K false) fIn := by
  intro H0 F0 F H σ ρ x y A B rx ry Q s hx hy dis
  unfold fIn
  cases e : rowOf ry.d with
  | none => trivial
  | some ds =>
    by_cases hc : scal rx.d = true ∧ ds.all scal = true
    · simp only [hc, and_self, if_true, rD]
      intro k
      obtain ⟨a, vs, rfl, hq, ra⟩ := rowOf_rp (hy.dp s) e
      have ex := (hx.dp s).scal_eq hc.1
      refine ⟨a, vs, rfl, hq, (hx.dp s).flat hc.1, ra.flat hc.2, ?_⟩
      rw [ex, ra.scal_eq hc.2]
      show Q (.bl (inV (vOf rx.d) (ds.map vOf))) H
      rw [inV_eq]
      exact fin_d s (d := .bool _) rfl fun v H' F' A' g o n => k v H' F' A' g o fun c hc => .inr (.inr (n c hc))
    · simp only [hc]
      trivial
theorem op2_notIn : Op2 X (rIn X.K true) fNotIn := by
  intro H0 F0 F H σ ρ x y A B rx ry Q s hx hy dis
  unfold fNotIn
  cases e : rowOf ry.d with
  | none => trivial
  | some ds =>
    by_cases hc : scal rx.d = true ∧ ds.all scal = true
    · simp only [hc, and_self, if_true, rD]
      intro k
      obtain ⟨a, vs, rfl, hq, ra⟩ := rowOf_rp (hy.dp s) e
      have ex := (hx.dp s).scal_eq hc.1
      refine ⟨a, vs, rfl, hq, (hx.dp s).flat hc.1, ra.flat hc.2, ?_⟩
      rw [ex, ra.scal_eq hc.2]
      show Q (.bl (!inV (vOf rx.d) (ds.map vOf))) H
      rw [inV_eq]
      exact fin_d s (d := .bool _) rfl fun v H' F' A' g o n => k v H' F' A' g o fun c hc => .inr (.inr (n c hc))
    · simp only [hc]
      trivial
theorem Rp.isNone {K : Frag} {H : Hp} {v : V} {d : D} (h : Rp K H v d) : decide (v = .non) = isN d := by
  cases h with
  | non => rfl
  | _ => exact decide_eq_false (fun q => by cases q)
theorem pe_un_isN {a : Expr} {j pos'} (ta : TE) (ha : PE X a ta) : PE X (.Compare a [.Is] [.Constant .none j pos'] pos) (tUn (fun x H Q => Q (.bl (decide (x = .non))) H) ta) := pe_cmp (pc_isN ha)
theorem pe_un_notN {a : Expr} {j pos'} (ta : TE) (ha : PE X a ta) : PE X (.Compare a [.IsNot] [.Constant .none j pos'] pos) (tUn (fun x H Q => Q (.bl (!decide (x = .non))) H) ta) := pe_cmp (pc_notN ha)
theorem pt_un_isN {a : Expr} {j pos'} (ta : TE) (ha : PE X a ta) : PT X (.Compare a [.Is] [.Constant .none j pos'] pos) (tTest (tUn (fun x H Q => Q (.bl (decide (x = .non))) H) ta)) := pt_cmp (pc_isN ha)
theorem pt_un_notN {a : Expr} {j pos'} (ta : TE) (ha : PE X a ta) : PT X (.Compare a [.IsNot] [.Constant .none j pos'] pos) (tTest (tUn (fun x H Q => Q (.bl (!decide (x = .non))) H) ta)) := pt_cmp (pc_notN ha)
theorem op1_isN : Op1 X (fun x H Q => Q (.bl (decide (x = .non))) H) fIsN := by
  intro H0 F0 F H σ ρ x A rx Q s hx k
  show Q (.bl (decide (x = .non))) H
  rw [(hx.dp s).isNone]
  exact fin_d s (d := .bool _) rfl fun v H' F' A' g o n => k v H' F' A' g o fun c hc => .inr (n c hc)
theorem op1_notN : Op1 X (fun x H Q => Q (.bl (!decide (x = .non))) H) fNotN := by
  intro H0 F0 F H σ ρ x A rx Q s hx k
  show Q (.bl (!decide (x = .non))) H
  rw [(hx.dp s).isNone]
  exact fin_d s (d := .bool _) rfl fun v H' F' A' g o n => k v H' F' A' g o fun c hc => .inr (n c hc)
theorem eok_isN {j pos'} (ha : EOk X a ca) : EOk X (.Compare a [.Is] [.Constant .none j pos'] pos) (eUn fIsN ca) := eok_un (fun ta h => pe_un_isN ta h) op1_isN ha
theorem eok_notN {j pos'} (ha : EOk X a ca) : EOk X (.Compare a [.IsNot] [.Constant .none j pos'] pos) (eUn fNotN ca) := eok_un (fun ta h => pe_un_notN ta h) op1_notN ha
/-- a comparison, by its rule -/
theorem eok_cmp {op : CmpOp} {R : R2} {f : RV → RV → Res RV} (ho : OpR X (compareOp op) R) (o2 : Op2 X R f) (ha : EOk X a ca) (hb : EOk X b cb) (hm : behindInMarks op b = false) : EOk X (.Compare a [op] [b] pos) (eBin f ca cb) :=
  eok_bin (fun _ _ h1 h2 => pe_cmpR ho h1 h2 hm) o2 ha hb

/-! ### tests -/
theorem rdT_B {K : Frag} {mg : Str → Option Value} {c : EC} {W : WX} {σ : S} {H : Hp} {Q : Bool → Hp → Prop} (h : rdT K mg (tB c) W σ H Q) : rdE K mg c W σ H (fun x H' => ∃ k, x = .bl k ∧ Q k H') := by
  obtain ⟨H0, F0, F, ρ, s, h⟩ := h
  unfold tB at h
  cases e : c ρ with
  | stuck => rw [e] at h; exact h.elim
  | err x => rw [e] at h; exact rdE_err s e h
  | ok rv =>
    rw [e] at h
    simp only [Res.bind] at h
    refine rdE_ok s e fun v H' F' A g o n => ?_
    have p := o.dp (s.step g)
    cases ed : rv.d with
    | bool b =>
      rw [ed] at p h
      cases p
      exact ⟨b, rfl, h H' F' g⟩
    | _ => rw [ed] at h; exact h.elim
theorem tok_of {e : Expr} {c : EC} (he : ∀ t, PE X e t → PT X e (tTest t)) (h : EOk X e c) : TOk X e (tB c) := fun W tk => pt_mono (he _ (h W tk)) fun σ H Q q => rdT_B q
theorem tok_val {e : Expr} {c : EC} (h : EOk X e c) (he : ∀ whole, isTrue e X.env whole = (do let v ← whole; standAt e.pos; holding [v] (truthy v)) := by intro _; rfl) : TOk X e (tB c) := tok_of (fun t ht => pt_val ht he) h
theorem bin_rd {K : Frag} {ca cb : EC} {R : R2} {f : RV → RV → Res RV} {W : WX} {σ : S} {H : Hp} {Q : VK} {mg : Str → Option Value} (hK : X.K = K) (o2 : Op2 X R f) (h : rdE K mg (eBin f ca cb) W σ H Q) : tOp R (rdE K mg ca W) (rdE K mg cb W) σ H Q := by
  subst hK
  obtain ⟨H0, F0, F, ρ, s, h⟩ := h
  show rdE X.K mg ca W σ H fun x H1 => rdE X.K mg cb W σ H1 fun y H2 => R x y H2 Q
  unfold eBin at h
  cases e1 : ca ρ with
  | stuck => rw [e1] at h; exact h.elim
  | err x => rw [e1] at h; exact rdE_err s e1 h
  | ok rx =>
    rw [e1] at h
    refine rdE_ok s e1 fun x H1 F1 A g1 o1 n1 => ?_
    have s1 := s.step g1
    cases e2 : cb ρ with
    | stuck => simp only [Res.bind, e2] at h
    | err z =>
      simp only [Res.bind, e2] at h
      exact rdE_err s1 e2 fun cls d H' F' g => h cls d H' F' (g1.trans g)
    | ok ry =>
      simp only [Res.bind, e2] at h
      refine rdE_ok s1 e2 fun y H2 F2 B g2 o2' n2 => ?_
      have s2 := s1.step g2
      have o1' := o1.gr g2
      have dis : ∀ a ∈ A, a ∉ B := fun a ha hb => (o1.there a ha).1 (n2 a hb)
      have op := o2 (Q := Q) s2 o1' o2' dis
      cases e3 : f rx ry with
      | stuck => rw [e3] at h; exact h.elim
      | err z => rw [e3] at op; exact op.elim
      | ok rv =>
        rw [e3] at h op
        refine op fun v H' F' C g o n => h v H' F' C ((g1.trans g2).trans g) o fun c hc => ?_
        rcases n c hc with z | z | z
        · exact n1 c z
        · exact g1.hh.none (n2 c z)
        · exact (g1.trans g2).hh.none z
theorem tok_cmp {op : CmpOp} {R : R2} {f : RV → RV → Res RV} (ho : OpR X (compareOp op) R) (o2 : Op2 X R f) (ha : EOk X a ca) (hb : EOk X b cb) (hm : behindInMarks op b = false) : TOk X (.Compare a [op] [b] pos) (tB (eBin f ca cb)) := fun W tk =>
  pt_mono (pt_cmpR ho (ha W tk) (hb W tk) hm) fun σ H Q q => bin_rd (X := X) rfl o2 (rdT_B q)
theorem un_rd {K : Frag} {ca : EC} {R : V → Hp → VK → Prop} {f : RV → Res RV} {W : WX} {σ : S} {H : Hp} {Q : VK} {mg : Str → Option Value} (hK : X.K = K) (o1 : Op1 X R f) (h : rdE K mg (eUn f ca) W σ H Q) : tUn R (rdE K mg ca W) σ H Q := by
  subst hK
  obtain ⟨H0, F0, F, ρ, s, h⟩ := h
  show rdE X.K mg ca W σ H fun x H1 => R x H1 Q
  unfold eUn at h
  cases e1 : ca ρ with
  | stuck => rw [e1] at h; exact h.elim
  | err x => rw [e1] at h; exact rdE_err s e1 h
  | ok rx =>
    rw [e1] at h
    simp only [Res.bind] at h
    refine rdE_ok s e1 fun x H1 F1 A g1 ox n1 => ?_
    have op := o1 (Q := Q) (s.step g1) ox
    cases e3 : f rx with
    | stuck => rw [e3] at h; exact h.elim
    | err z => rw [e3] at op; exact op.elim
    | ok rv =>
      rw [e3] at h op
      refine op fun v H' F' C g o n => h v H' F' C (g1.trans g) o fun c hc => ?_
      rcases n c hc with z | z
      · exact n1 c z
      · exact g1.hh.none z
theorem tok_isN {j pos'} (ha : EOk X a ca) : TOk X (.Compare a [.Is] [.Constant .none j pos'] pos) (tB (eUn fIsN ca)) := fun W tk => pt_mono (pt_un_isN _ (ha W tk)) fun σ H Q q => un_rd (X := X) rfl op1_isN (rdT_B q)
theorem tok_notN {j pos'} (ha : EOk X a ca) : TOk X (.Compare a [.IsNot] [.Constant .none j pos'] pos) (tB (eUn fNotN ca)) := fun W tk => pt_mono (pt_un_notN _ (ha W tk)) fun σ H Q q => un_rd (X := X) rfl op1_notN (rdT_B q)
/-- truth -/
theorem truv_of {K : Frag} {H : Hp} {v : V} {d : D} (h : Rp K H v d) (hs : ∀ x, d = .str x → x.length ≤ sizeLine) : TruV K v H (truthD d) := by
  cases h with
  | non => rfl
  | bl b => rfl
  | int i => rfl
  | str x => exact ⟨hs x rfl, by
      show (x.length != 0) = ((x.length : Int) != 0)
      cases x.length <;> rfl⟩
  | lst r ra =>
    refine .inl ⟨_, r.sqL, ?_⟩
    cases ra <;> rfl
  | tup r ra =>
    refine .inr (.inl ⟨_, r, ?_⟩)
    cases ra <;> rfl
def notStr : D → Bool
  | .str _ => false
  | _ => true
end
end VL

set_option Elab.async false
set_option linter.all false
set_option maxRecDepth 100000
set_option maxHeartbeats 4000000
/-! VL5: and, or, not, built-in functions, subscripts, displays, calls. -/
namespace VL
open PySem PySem.Spec PyProof.Rows L2
section
variable {X : Cx} {a b c : Expr} {ta tb : TC} {ca cb cc : EC} {rest : List Expr} {pos : Pos}
theorem wok_and1 (ha : TOk X a ta) : WOk X (.BoolOp .And [a] pos) ta := fun W tk => pw_and1 (ha W tk)
theorem wok_or1 (ha : TOk X a ta) : WOk X (.BoolOp .Or [a] pos) ta := fun W tk => pw_or1 (ha W tk)
theorem wok_and (ha : TOk X a ta) (hb : WOk X (.BoolOp .And (b :: rest) pos) tb) : WOk X (.BoolOp .And (a :: b :: rest) pos) (tAnd ta tb) := fun W tk =>
  pw_mono (pw_and (ha W tk) (hb W tk)) fun σ H Q h => by
    obtain ⟨H0, F0, F, ρ, s, h⟩ := h
    show rdT X.K X.mg ta W σ H fun c H1 => if c = true then rdT X.K X.mg tb W σ H1 Q else Q false H1
    unfold tAnd at h
    cases e1 : ta ρ with
    | stuck => rw [e1] at h; exact h.elim
    | err x => rw [e1] at h; exact rdT_err s e1 h
    | ok x =>
      rw [e1] at h
      refine rdT_ok s e1 fun H1 F1 g1 => ?_
      cases x with
      | false => exact h H1 F1 g1
      | true =>
        simp only [Res.bind, if_true] at h ⊢
        cases e2 : tb ρ with
        | stuck => rw [e2] at h; exact h.elim
        | err x => rw [e2] at h; exact rdT_err (s.step g1) e2 fun cls d H' F' g => h cls d H' F' (g1.trans g)
        | ok y => rw [e2] at h; exact rdT_ok (s.step g1) e2 fun H2 F2 g2 => h H2 F2 (g1.trans g2)
theorem wok_or (ha : TOk X a ta) (hb : WOk X (.BoolOp .Or (b :: rest) pos) tb) : WOk X (.BoolOp .Or (a :: b :: rest) pos) (tOr ta tb) := fun W tk =>
  pw_mono (pw_or (ha W tk) (hb W tk)) fun σ H Q h => by
    obtain ⟨H0, F0, F, ρ, s, h⟩ := h
    show rdT X.K X.mg ta W σ H fun c H1 => if c = true then Q true H1 else rdT X.K X.mg tb W σ H1 Q
    unfold tOr at h
    cases e1 : ta ρ with
    | stuck => rw [e1] at h; exact h.elim
    | err x => rw [e1] at h; exact rdT_err s e1 h
    | ok x =>
      rw [e1] at h
      refine rdT_ok s e1 fun H1 F1 g1 => ?_
      cases x with
      | true => exact h H1 F1 g1
      | false =>
        simp only [Res.bind, Bool.false_eq_true, if_false] at h ⊢
        cases e2 : tb ρ with
        | stuck => rw [e2] at h; exact h.elim
        | err x => rw [e2] at h; exact rdT_err (s.step g1) e2 fun cls d H' F' g => h cls d H' F' (g1.trans g)
        | ok y => rw [e2] at h; exact rdT_ok (s.step g1) e2 fun H2 F2 g2 => h H2 F2 (g1.trans g2)
theorem tok_w {e : Expr} (h : WOk X e ta) : TOk X e ta := fun W tk => (h W tk).pt
theorem tok_not (ha : TOk X a ta) : TOk X (.UnaryOp .Not a pos) (tNot ta) := fun W tk => pt_mono (pt_not (ha W tk)) fun σ H Q h => by
  obtain ⟨H0, F0, F, ρ, s, h⟩ := h
  show rdT X.K X.mg ta W σ H fun c H1 => Q (!c) H1
  unfold tNot at h
  cases e1 : ta ρ with
  | stuck => rw [e1] at h; exact h.elim
  | err x => rw [e1] at h; exact rdT_err s e1 h
  | ok x => rw [e1] at h; exact rdT_ok s e1 h
theorem tok_truth (ha : EOk X a ca) (hn : ∀ ρ rv, ca ρ = .ok rv → notStr rv.d = true) (he : ∀ whole, isTrue a X.env whole = (do let v ← whole; standAt a.pos; holding [v] (truthy v)) := by intro _; rfl) : TOk X a (tTr ca) := fun W tk =>
  pt_mono (pt_truth (ha W tk) he) fun σ H Q h => by
    obtain ⟨H0, F0, F, ρ, s, h⟩ := h
    show rdE X.K X.mg ca W σ H fun x H1 => ∃ k, TruV X.K x H1 k ∧ Q k H1
    unfold tTr at h
    cases e1 : ca ρ with
    | stuck => rw [e1] at h; exact h.elim
    | err x => rw [e1] at h; exact rdE_err s e1 h
    | ok x =>
      rw [e1] at h
      refine rdE_ok s e1 fun v H' F' A g o n => ⟨truthD x.d, truv_of (o.dp (s.step g)) (fun y ey => ?_), h H' F' g⟩
      have := hn ρ x e1
      rw [ey] at this
      cases this
/-- values -/
theorem bool_of {K : Frag} {H : Hp} {v : V} {b : Bool} (h : Rp K H v (.bool b)) : v = .bl b := by cases h; rfl
theorem eok_one {op} (h : EOk X a ca) : EOk X (.BoolOp op [a] pos) ca := fun W tk => pe_one (h W tk)
theorem eok_and (ha : EOk X a ca) (hb : EOk X (.BoolOp .And (b :: rest) pos) cb) : EOk X (.BoolOp .And (a :: b :: rest) pos) (eAnd ca cb) := fun W tk =>
  pe_mono (pe_and (ha W tk) (hb W tk)) fun σ H Q h => by
    obtain ⟨H0, F0, F, ρ, s, h⟩ := h
    show rdE X.K X.mg ca W σ H fun x H1 => ∃ c, x = .bl c ∧ if c = true then rdE X.K X.mg cb W σ H1 Q else Q (.bl false) H1
    unfold eAnd at h
    cases e1 : ca ρ with
    | stuck => rw [e1] at h; exact h.elim
    | err x => rw [e1] at h; exact rdE_err s e1 h
    | ok x =>
      rw [e1] at h
      simp only [Res.bind] at h
      refine rdE_ok s e1 fun v H1 F1 A g1 o1 n1 => ?_
      have p := o1.dp (s.step g1)
      cases ed : x.d with
      | bool k =>
        rw [ed] at p h
        obtain rfl := bool_of p
        refine ⟨k, rfl, ?_⟩
        cases k with
        | false => exact fin_d (s.step g1) (d := .bool false) rfl fun v H' F' A g o n => h v H' F' A (g1.trans g) o fun a ha => g1.hh.none (n a ha)
        | true =>
          simp only [if_true] at h ⊢
          cases e2 : cb ρ with
          | stuck => rw [e2] at h; exact h.elim
          | err x => rw [e2] at h; exact rdE_err (s.step g1) e2 fun cls d H' F' g => h cls d H' F' (g1.trans g)
          | ok y => rw [e2] at h; exact rdE_ok (s.step g1) e2 fun v H2 F2 A g2 o n => h v H2 F2 A (g1.trans g2) o fun a ha => g1.hh.none (n a ha)
      | _ => rw [ed] at h; exact h.elim
theorem eok_or (ha : EOk X a ca) (hb : EOk X (.BoolOp .Or (b :: rest) pos) cb) : EOk X (.BoolOp .Or (a :: b :: rest) pos) (eOr ca cb) := fun W tk =>
  pe_mono (pe_or (ha W tk) (hb W tk)) fun σ H Q h => by
    obtain ⟨H0, F0, F, ρ, s, h⟩ := h
    show rdE X.K X.mg ca W σ H fun x H1 => ∃ c, x = .bl c ∧ if c = true then Q (.bl true) H1 else rdE X.K X.mg cb W σ H1 Q
    unfold eOr at h
    cases e1 : ca ρ with
    | stuck => rw [e1] at h; exact h.elim
    | err x => rw [e1] at h; exact rdE_err s e1 h
    | ok x =>
      rw [e1] at h
      simp only [Res.bind] at h
      refine rdE_ok s e1 fun v H1 F1 A g1 o1 n1 => ?_
      have p := o1.dp (s.step g1)
      cases ed : x.d with
      | bool k =>
        rw [ed] at p h
        obtain rfl := bool_of p
        refine ⟨k, rfl, ?_⟩
        cases k with
        | true => exact fin_d (s.step g1) (d := .bool true) rfl fun v H' F' A g o n => h v H' F' A (g1.trans g) o fun a ha => g1.hh.none (n a ha)
        | false =>
          simp only [Bool.false_eq_true, if_false] at h ⊢
          cases e2 : cb ρ with
          | stuck => rw [e2] at h; exact h.elim
          | err x => rw [e2] at h; exact rdE_err (s.step g1) e2 fun cls d H' F' g => h cls d H' F' (g1.trans g)
          | ok y => rw [e2] at h; exact rdE_ok (s.step g1) e2 fun v H2 F2 A g2 o n => h v H2 F2 A (g1.trans g2) o fun a ha => g1.hh.none (n a ha)
      | _ => rw [ed] at h; exact h.elim
theorem pe_notUn (te : TE) (h : PE X a te) : PE X (.UnaryOp .Not a pos) (tUn (fun x H Q => ∃ c, x = .bl c ∧ Q (.bl (!c)) H) te) := pe_not h
theorem op1_not : Op1 X (fun x H Q => ∃ c, x = .bl c ∧ Q (.bl (!c)) H) fNot := by
  intro H0 F0 F H σ ρ x A rx Q s hx
  unfold fNot
  have p := hx.dp s
  cases ed : rx.d with
  | bool k =>
    rw [ed] at p
    obtain rfl := bool_of p
    intro h
    exact ⟨k, rfl, fin_d s (d := .bool (!k)) rfl fun v H' F' A' g o n => h v H' F' A' g o fun c hc => .inr (n c hc)⟩
  | _ => trivial
theorem eok_not (ha : EOk X a ca) : EOk X (.UnaryOp .Not a pos) (eUn fNot ca) := eok_un (fun _ h => pe_notUn _ h) op1_not ha
theorem op1_neg : Op1 X (rU fun i => .int (-i)) fNeg := by
  intro H0 F0 F H σ ρ x A rx Q s hx
  unfold fNeg
  have p := hx.dp s
  cases ed : rx.d with
  | int i =>
    rw [ed] at p
    obtain rfl := rp_int p
    intro h
    exact ⟨i, rfl, fin_d s (d := .int (-i)) rfl fun v H' F' A' g o n => h v H' F' A' g o fun c hc => .inr (n c hc)⟩
  | _ => trivial
theorem eok_neg (ha : EOk X a ca) : EOk X (.UnaryOp .USub a pos) (eUn fNeg ca) := eok_un (fun _ h => pe_un un_neg h) op1_neg ha
theorem eok_if (ht : TOk X c ta) (ha : EOk X a ca) (hb : EOk X b cb) : EOk X (.IfExp c a b pos) (eIf ta ca cb) := fun W tk =>
  pe_mono (pe_ifExp (ht W tk) (ha W tk) (hb W tk)) fun σ H Q h => by
    obtain ⟨H0, F0, F, ρ, s, h⟩ := h
    show rdT X.K X.mg ta W σ H fun c H1 => if c = true then rdE X.K X.mg ca W σ H1 Q else rdE X.K X.mg cb W σ H1 Q
    unfold eIf at h
    cases e1 : ta ρ with
    | stuck => rw [e1] at h; exact h.elim
    | err x => rw [e1] at h; exact rdT_err s e1 h
    | ok x =>
      rw [e1] at h
      simp only [Res.bind] at h
      refine rdT_ok s e1 fun H1 F1 g1 => ?_
      cases x with
      | true =>
        simp only [if_true] at h ⊢
        cases e2 : ca ρ with
        | stuck => rw [e2] at h; exact h.elim
        | err x => rw [e2] at h; exact rdE_err (s.step g1) e2 fun cls d H' F' g => h cls d H' F' (g1.trans g)
        | ok y => rw [e2] at h; exact rdE_ok (s.step g1) e2 fun v H2 F2 A g2 o n => h v H2 F2 A (g1.trans g2) o fun a ha => g1.hh.none (n a ha)
      | false =>
        simp only [Bool.false_eq_true, if_false] at h ⊢
        cases e2 : cb ρ with
        | stuck => rw [e2] at h; exact h.elim
        | err x => rw [e2] at h; exact rdE_err (s.step g1) e2 fun cls d H' F' g => h cls d H' F' (g1.trans g)
        | ok y => rw [e2] at h; exact rdE_ok (s.step g1) e2 fun v H2 F2 A g2 o n => h v H2 F2 A (g1.trans g2) o fun a ha => g1.hh.none (n a ha)
/-- a op b op' c -/
theorem chain_rd {K : Frag} {mg : Str → Option Value} {R R' : R2} {f g : RV → RV → Res RV} (hK : X.K = K) (o1 : Op2 X R f) (o2 : Op2 X R' g) {W : WX} {σ : S} {H : Hp} {Q : VK} (h : rdE K mg (eChain f g ca cb cc) W σ H Q) :
    tChain R R' (rdE K mg ca W) (rdE K mg cb W) (rdE K mg cc W) σ H Q := by
  subst hK
  obtain ⟨H0, F0, F, ρ, s, h⟩ := h
  show rdE X.K mg ca W σ H fun x H1 => rdE X.K mg cb W σ H1 fun y H2 => R x y H2 fun z H3 => ∃ k, z = .bl k ∧ (if k = true then rdE X.K mg cc W σ H3 fun w' H4 => R' y w' H4 Q else Q (.bl false) H3)
  unfold eChain at h
  cases e1 : ca ρ with
  | stuck => rw [e1] at h; exact h.elim
  | err x => rw [e1] at h; exact rdE_err s e1 h
  | ok rx =>
    rw [e1] at h
    refine rdE_ok s e1 fun x H1 F1 A g1 ox n1 => ?_
    have s1 := s.step g1
    simp only [Res.bind] at h
    cases e2 : cb ρ with
    | stuck => rw [e2] at h; exact h.elim
    | err z => rw [e2] at h; exact rdE_err s1 e2 fun cls d H' F' g => h cls d H' F' (g1.trans g)
    | ok ry =>
      rw [e2] at h
      simp only at h
      refine rdE_ok s1 e2 fun y H2 F2 B g2 oy n2 => ?_
      have s2 := s1.step g2
      have dis : ∀ a ∈ A, a ∉ B := fun a ha hb => (ox.there a ha).1 (n2 a hb)
      have op := fun Q => o1 (Q := Q) s2 (ox.gr g2) oy dis
      cases e3 : f rx ry with
      | stuck => rw [e3] at h; exact h.elim
      | err z => exact absurd (op Q) (by rw [e3]; exact id)
      | ok rz =>
        rw [e3] at h op
        simp only at h
        refine op _ fun v H3 F3 C g3 oz n3 => ?_
        have s3 := s2.step g3
        have p := oz.dp s3
        have g123 := (g1.trans g2).trans g3
        cases ed : rz.d with
        | bool k =>
          rw [ed] at p h
          obtain rfl := bool_of p
          refine ⟨k, rfl, ?_⟩
          cases k with
          | false => exact fin_d s3 (d := .bool false) rfl fun v H' F' A g o n => h v H' F' A (g123.trans g) o fun a ha => g123.hh.none (n a ha)
          | true =>
            simp only [if_true] at h ⊢
            cases e4 : cc ρ with
            | stuck => rw [e4] at h; exact h.elim
            | err z => rw [e4] at h; exact rdE_err s3 e4 fun cls d H' F' g => h cls d H' F' (g123.trans g)
            | ok rw' =>
              rw [e4] at h
              simp only at h
              refine rdE_ok s3 e4 fun w H4 F4 E g4 ow n4 => ?_
              have oy4 := oy.gr (g3.trans g4)
              have dis2 : ∀ a ∈ B, a ∉ E := fun a ha he => by
                have := (oy.gr g3).there a ha
                exact this.1 (n4 a he)
              have op2 := o2 (Q := Q) (s3.step g4) oy4 ow dis2
              cases e5 : g ry rw' with
              | stuck => rw [e5] at h; exact h.elim
              | err z => rw [e5] at op2; exact op2.elim
              | ok rv =>
                rw [e5] at h op2
                refine op2 fun v H' F' C g o n => h v H' F' C ((g123.trans g4).trans g) o fun c hc => ?_
                rcases n c hc with z | z | z
                · exact g1.hh.none (n2 c z)
                · exact g123.hh.none (n4 c z)
                · exact (g123.trans g4).hh.none z
        | _ => rw [ed] at h; exact h.elim
theorem eok_chain {op op' : CmpOp} {R R' : R2} {f g : RV → RV → Res RV} (ho : OpR X (compareOp op) R) (ho' : OpR X (compareOp op') R') (o1 : Op2 X R f) (o2 : Op2 X R' g) (ha : EOk X a ca) (hb : EOk X b cb) (hc : EOk X c cc)
    (hm : lastMarks [op, op'] [b, c] = false := by with_unfolding_all rfl) : EOk X (.Compare a [op, op'] [b, c] pos) (eChain f g ca cb cc) := fun W tk =>
  pe_mono (pe_chain ho ho' (ha W tk) (hb W tk) (hc W tk) hm) fun σ H Q h => chain_rd (X := X) rfl o1 o2 h
theorem tok_chain {op op' : CmpOp} {R R' : R2} {f g : RV → RV → Res RV} (ho : OpR X (compareOp op) R) (ho' : OpR X (compareOp op') R') (o1 : Op2 X R f) (o2 : Op2 X R' g) (ha : EOk X a ca) (hb : EOk X b cb) (hc : EOk X c cc)
    (hm : lastMarks [op, op'] [b, c] = false := by with_unfolding_all rfl) : TOk X (.Compare a [op, op'] [b, c] pos) (tB (eChain f g ca cb cc)) := fun W tk =>
  pt_mono (pt_chain ho ho' (ha W tk) (hb W tk) (hc W tk) hm) fun σ H Q h => chain_rd (X := X) rfl o1 o2 (rdT_B h)

/-! ### several values -/
theorem aok_nil : AOk X [] [] := fun W tk => pa_mono pa_nil fun σ H Q h => by
  obtain ⟨H0, F0, F, ρ, s, h⟩ := h
  exact h [] H F [] s.refl rfl fun _ z => by cases z
theorem RVs.gr {K : Frag} {H0 H F H' F' : Hp} {σ : S} {ρ : Rho} (g : Gr H F H' F') : ∀ {vs : List V} {A : List Addr} {xs : List RV}, RVs K H0 H F σ ρ vs A xs → RVs K H0 H' F' σ ρ vs A xs
  | [], _, [], h => h
  | v :: vs, _, x :: xs, ⟨A1, A2, e, o, r, n⟩ => ⟨A1, A2, e, o.gr g, RVs.gr g r, n⟩
  | [], _, _ :: _, h => h.elim
  | _ :: _, _, [], h => h.elim
theorem aok_cons {e : Expr} {es : List Expr} {cs : List EC} (he : EOk X e ca) (hr : AOk X es cs) (hs : starEach (e :: es) X.env = (false, eval e X.env) :: starEach es X.env := by rfl) : AOk X (e :: es) (ca :: cs) := fun W tk =>
  pa_mono (pa_cons (he W tk) (hr W tk) hs) fun σ H Q h => by
    obtain ⟨H0, F0, F, ρ, s, h⟩ := h
    show rdE X.K X.mg ca W σ H fun x H1 => rdA X.K X.mg cs W σ H1 fun xs H2 => Q (x :: xs) H2
    unfold evalAll at h
    cases e1 : ca ρ with
    | stuck => rw [e1] at h; exact h.elim
    | err x => rw [e1] at h; exact rdE_err s e1 h
    | ok rx =>
      rw [e1] at h
      simp only [Res.bind] at h
      refine rdE_ok s e1 fun x H1 F1 A g1 o1 n1 => ?_
      have s1 := s.step g1
      cases e2 : evalAll cs ρ with
      | stuck => rw [e2] at h; exact h.elim
      | err z => rw [e2] at h; exact rdA_err s1 e2 fun cls d H' F' g => h cls d H' F' (g1.trans g)
      | ok rs =>
        rw [e2] at h
        refine rdA_ok s1 e2 fun xs H2 F2 B g2 o2 n2 => h (x :: xs) H2 F2 (A ++ B) (g1.trans g2) ⟨A, B, rfl, o1.gr g2, o2, fun a ha hb => (o1.there a ha).1 (n2 a hb)⟩ fun a ha => ?_
        rcases List.mem_append.mp ha with z | z
        · exact n1 a z
        · exact g1.hh.none (n2 a z)
theorem RVs.ows {K : Frag} {H0 H F : Hp} {σ : S} {ρ : Rho} : ∀ {vs : List V} {A : List Addr} {xs : List RV} {os : List Ow}, RVs K H0 H F σ ρ vs A xs → owsOf xs = some os → ORs K H F vs os A
  | [], _, [], _, h, e => by cases e; cases (show _ = [] from h); exact .nil
  | v :: vs, _, x :: xs, os, ⟨A1, A2, ea, o, r, n⟩, e => by
    subst ea
    unfold owsOf at e
    cases e1 : x.ow with
    | none => rw [e1] at e; cases e
    | some ow =>
      cases e2 : owsOf xs with
      | none => rw [e1, e2] at e; cases e
      | some os' =>
        rw [e1, e2] at e
        cases e
        cases x with
        | val w => cases e1; exact .cons o (RVs.ows r e2) n
        | ref _ _ _ => cases e1
        | bor _ => cases e1
  | [], _, _ :: _, _, h, _ => h.elim
  | _ :: _, _, [], _, h, _ => h.elim
theorem eok_lst {es : List Expr} {cs : List EC} (h : AOk X es cs) : EOk X (.List es pos) (eLst cs) := fun W tk => pe_mono (pe_lst (h W tk)) fun σ H Q h => by
  obtain ⟨H0, F0, F, ρ, s, h⟩ := h
  show rdA X.K X.mg cs W σ H fun xs H1 => xs.length ≤ sizeLine ∧ ∀ p, H1 p = none → Q (.ref p) (upd H1 p (.lst xs))
  unfold eLst at h
  cases e1 : evalAll cs ρ with
  | stuck => rw [e1] at h; exact h.elim
  | err x => rw [e1] at h; exact rdA_err s e1 h
  | ok rs =>
    rw [e1] at h
    simp only [Res.bind] at h
    refine rdA_ok s e1 fun vs H1 F1 A g1 o1 n1 => ?_
    cases e2 : owsOf rs with
    | none => rw [e2] at h; exact h.elim
    | some os =>
      rw [e2] at h
      by_cases hc : os.length ≤ 1000
      · simp only [hc, if_true] at h
        have oo := o1.ows e2
        refine ⟨by rw [oo.length, sizeLine_eq]; omega, fun p hp => ?_⟩
        obtain ⟨g, o⟩ := fin_ls (s.step g1) oo hp
        refine h _ _ _ _ (g1.trans g) o fun c hc => ?_
        rcases List.mem_cons.mp hc with rfl | hc
        · exact g1.hh.none hp
        · exact n1 c hc
      · simp only [hc] at h
        exact h.elim
theorem eok_tup {es : List Expr} {cs : List EC} {x1} (h : AOk X es cs) : EOk X (.Tuple es x1 pos) (eTup cs) := fun W tk => pe_mono (pe_tup (h W tk)) fun σ H Q h => by
  obtain ⟨H0, F0, F, ρ, s, h⟩ := h
  show rdA X.K X.mg cs W σ H fun xs H1 => xs.length ≤ sizeLine ∧ ∀ p, H1 p = none → Q (.ref p) (upd H1 p (.tup xs))
  unfold eTup at h
  cases e1 : evalAll cs ρ with
  | stuck => rw [e1] at h; exact h.elim
  | err x => rw [e1] at h; exact rdA_err s e1 h
  | ok rs =>
    rw [e1] at h
    simp only [Res.bind] at h
    refine rdA_ok s e1 fun vs H1 F1 A g1 o1 n1 => ?_
    cases e2 : owsOf rs with
    | none => rw [e2] at h; exact h.elim
    | some os =>
      rw [e2] at h
      by_cases hc : os.length ≤ 1000
      · simp only [hc, if_true] at h
        have oo := o1.ows e2
        refine ⟨by rw [oo.length, sizeLine_eq]; omega, fun p hp => ?_⟩
        obtain ⟨F', C, g, o, n⟩ := fin_tup (s.step g1) oo hp
        refine h _ _ _ _ (g1.trans g) o fun c hc => ?_
        rcases n c hc with rfl | z
        · exact g1.hh.none hp
        · exact n1 c z
      · simp only [hc] at h
        exact h.elim

/-! ### calls of defs -/
def ArgOk (K : Frag) (H F : Hp) (v : V) : Sl → Prop
  | .own (.fz d) => Rp K F v d
  | .bor d => Rp K H v d
  | _ => False
def spV (K : Frag) (mg : Str → Option Value) (n : Nat) (φ : Fn) : Sp := fun vs H Q E => ∃ (F : Hp) (as : List Sl), Sub F H ∧ as.length = n ∧ Paired (ArgOk K H F) vs as ∧ match φ as with
  | .ok ow => ∀ v H' F' A, Gr H F H' F' → OR K H' F' v ow A → (∀ a ∈ A, H a = none) → Q v H'
  | .err x => ∀ cls d H' F', Gr H F H' F' → XOk K mg F' H' cls d x → E cls d H'
  | .stuck => False
abbrev FOk (P : Program) (w : World) (K : Frag) (mg : Str → Option Value) (base : Heap) (k : Nat) (f : Addr) (fd : FuncData) (ps : List Str) (φ : Fn) : Prop := FnOk P w K mg base (L2.CX P w) k f fd ps (spV K mg ps.length φ)
theorem RVs.args {K : Frag} {H0 F0 H F G : Hp} {σ : S} {ρ : Rho} (s : SR K H0 F0 σ H F ρ) (hG : Sub F G) : ∀ {vs : List V} {A : List Addr} {xs : List RV}, RVs K H0 H F σ ρ vs A xs → (∀ a ∈ A, G a = H a) → Paired (ArgOk K H G) vs (xs.map RV.arg)
  | [], _, [], h, _ => .nil
  | v :: vs, _, x :: xs, ⟨A1, A2, e, o, r, n⟩, k => by
    subst e
    refine .cons ?_ (RVs.args s hG r fun a ha => k a (List.mem_append_right _ ha))
    cases x with
    | val ow => exact OR.dpIn hG o fun a ha => k a (List.mem_append_left _ ha)
    | ref i p ow =>
      obtain ⟨_, _, _, B, o⟩ := o
      exact o.dp s.sub
    | bor d => exact Rp.mono s.gr.hh o.2
  | [], _, _ :: _, h, _ => h.elim
  | _ :: _, _, [], h, _ => h.elim
theorem RVs.there {K : Frag} {H0 H F : Hp} {σ : S} {ρ : Rho} : ∀ {vs : List V} {A : List Addr} {xs : List RV}, RVs K H0 H F σ ρ vs A xs → ∀ a ∈ A, H a ≠ none ∧ F a = none
  | [], _, [], h, a, ha => by rw [show _ = [] from h] at ha; cases ha
  | v :: vs, _, x :: xs, ⟨A1, A2, e, o, r, n⟩, a, ha => by
    subst e
    rcases List.mem_append.mp ha with z | z
    · exact o.there a z
    · exact RVs.there r a z
  | [], _, _ :: _, h, _, _ => h.elim
  | _ :: _, _, [], h, _, _ => h.elim
theorem RVs.len {K : Frag} {H0 H F : Hp} {σ : S} {ρ : Rho} : ∀ {vs : List V} {A : List Addr} {xs : List RV}, RVs K H0 H F σ ρ vs A xs → vs.length = xs.length
  | [], _, [], _ => rfl
  | _ :: _, _, _ :: _, ⟨_, _, _, _, r, _⟩ => by simp [RVs.len r]
  | [], _, _ :: _, h => h.elim
  | _ :: _, _, [], h => h.elim
theorem eok_call {k : Nat} {f : Addr} {fd : FuncData} {ps : List Str} {φ : Fn} {x : Str} {p : Pos} {e : Expr} {es : List Expr} {cs : List EC} (F : FOk X.prog X.w X.K X.mg X.base k f fd ps φ) (hr : Room k X.A) (hm : X.mg x = some (.ref f)) (hk : PySem.W.keepIn X.K (.ref f) = true) (hb : Binds X.K fd ps [])
    (hl : cs.length = ps.length) (ha : AOk X (e :: es) cs) (hg : Gl X x := by rfl) (hdb : (x == ("__debug__" : Str)) = false := by decide) (he : starEach (e :: es) X.env = (false, eval e X.env) :: starEach es X.env := by rfl) (hpl : (backTo pos (starEach es X.env)).any (·.1) = false := by rfl) :
    EOk X (.Call (.Name x p) (e :: es) [] pos) (eCall φ cs) := fun W tk => pe_mono (pe_callS F hr hg hm hk hb (fun σ => passAt tk σ) (ha W tk) hdb he hpl) fun σ H Q h => by
  obtain ⟨H0, F0, F, ρ, s, h⟩ := h
  show rdA X.K X.mg cs W σ H fun vs H1 => spV X.K X.mg ps.length φ vs H1 Q (WE W σ)
  unfold eCall at h
  cases e1 : evalAll cs ρ with
  | stuck => rw [e1] at h; exact h.elim
  | err x => rw [e1] at h; exact rdA_err s e1 h
  | ok rs =>
    rw [e1] at h
    simp only [Res.bind] at h
    have el : rs.length = cs.length := by
      clear h hl ha he
      induction cs generalizing rs with
      | nil => cases e1; rfl
      | cons c cs ih =>
        unfold evalAll at e1
        cases q1 : c ρ with
        | stuck => rw [q1] at e1; cases e1
        | err x => rw [q1] at e1; cases e1
        | ok r =>
          rw [q1] at e1
          simp only [Res.bind] at e1
          cases q2 : evalAll cs ρ with
          | stuck => rw [q2] at e1; cases e1
          | err x => rw [q2] at e1; cases e1
          | ok rr =>
            rw [q2] at e1
            cases e1
            simp [ih _ q2]
    refine rdA_ok s e1 fun vs H1 F1 A g1 o1 n1 => ?_
    have s1 := s.step g1
    have fA : ∀ a ∈ A, F1 a = none := fun a ha => (o1.there a ha).2
    have gA : Gr H F H1 (frz F1 H1 A) := g1.frozen n1 fA
    refine ⟨frz F1 H1 A, rs.map RV.arg, frz_subH s1.sub, by rw [List.length_map, el, hl], o1.args s1 (frz_sub fA) fun a ha => frz_in ha, ?_⟩
    cases e2 : φ (rs.map RV.arg) with
    | stuck => rw [e2] at h; exact h.elim
    | err z =>
      rw [e2] at h
      exact fun cls d H' F' g xo => h cls d H' F' (gA.trans g) xo
    | ok ow =>
      rw [e2] at h
      exact fun v H' F' B g o n => h v H' F' B (gA.trans g) o fun b hb => g1.hh.none (n b hb)
end
end VL

set_option Elab.async false
set_option linter.all false
set_option maxRecDepth 100000
set_option maxHeartbeats 4000000
/-! VL6: built-in functions, subscripts, slices. -/
namespace VL
open PySem PySem.Spec PyProof.Rows L2
theorem bt_len : bootBuiltins "len" = some (.builtin "len") := by decide +kernel
theorem bt_sum : bootBuiltins "sum" = some (.builtin "sum") := by decide +kernel
theorem bt_sorted : bootBuiltins "sorted" = some (.builtin "sorted") := by decide +kernel
theorem bt_isinstance : bootBuiltins "isinstance" = some (.builtin "isinstance") := by decide +kernel
theorem bt_int : bootBuiltins "int" = some (.type "int") := by decide +kernel
theorem bt_bool : bootBuiltins "bool" = some (.type "bool") := by decide +kernel
theorem bt_str : bootBuiltins "str" = some (.type "str") := by decide +kernel
theorem bt_list : bootBuiltins "list" = some (.type "list") := by decide +kernel
theorem bt_tuple : bootBuiltins "tuple" = some (.type "tuple") := by decide +kernel

/-! ### what is an instance of what -/
section
variable {K : Frag} {H : Hp}
theorem tyx_of {v : V} {d : D} (h : Rp K H v d) : TyX K H v (.type (tyName d)) := by
  cases h with
  | non => exact .base .non
  | bl b => exact .base (.bl b)
  | int i => exact .base (.int i)
  | str x => exact .base (.str x)
  | lst r ra =>
    rcases r with (r | ⟨o, r⟩) | ⟨its, n, r, _⟩
    · exact .base (.lst r)
    · exact .base (.frz r)
    · exact .kList r rfl
  | tup r ra =>
    rcases r with (r | ⟨o, r⟩) | ⟨o, its, n, r, c, _⟩
    · exact .base (.tup r)
    · exact .fTuple r
    · exact .kTuple r c
theorem kitB_all : ∀ t ∈ ["NoneType", "bool", "int", "str", "list", "tuple"], ∀ c ∈ [Ty.int, .bool, .str, .list, .tuple], kitB t c.name = some (match t, c with
  | "bool", .int => true | "bool", .bool => true | "int", .int => true | "str", .str => true | "list", .list => true | "tuple", .tuple => true | _, _ => false) := by
  intro t ht c hc
  simp only [List.mem_cons, List.not_mem_nil, or_false] at ht hc
  rcases ht with rfl | rfl | rfl | rfl | rfl | rfl <;> rcases hc with rfl | rfl | rfl | rfl | rfl <;> decide +kernel
theorem kit_inst {v : V} {d : D} (h : Rp K H v d) (c : Ty) : PySem.W.kitOne K (.type (tyName d)) (.type c.name) = some (inst d c) := by
  refine kit_ty ?_
  have hc : c ∈ [Ty.int, .bool, .str, .list, .tuple] := by cases c <;> simp
  cases h with
  | non => rw [kitB_all _ (by simp [tyName]) c hc]; cases c <;> rfl
  | bl b => rw [kitB_all _ (by simp [tyName]) c hc]; cases c <;> rfl
  | int i => rw [kitB_all _ (by simp [tyName]) c hc]; cases c <;> rfl
  | str x => rw [kitB_all _ (by simp [tyName]) c hc]; cases c <;> rfl
  | lst r ra => rw [kitB_all _ (by simp [tyName]) c hc]; cases c <;> rfl
  | tup r ra => rw [kitB_all _ (by simp [tyName]) c hc]; cases c <;> rfl
theorem kit_any {v : V} {d : D} (h : Rp K H v d) : ∀ cs : List Ty, PySem.W.kitAny K (.type (tyName d)) (cs.map fun c => .type c.name) = some (cs.any fun c => inst d c)
  | [] => rfl
  | c :: cs => by
    show (match PySem.W.kitOne K (.type (tyName d)) (.type c.name) with
      | some true => some true
      | some false => PySem.W.kitAny K (.type (tyName d)) (cs.map fun c => .type c.name)
      | none => none) = some (inst d c || cs.any fun c => inst d c)
    rw [kit_inst h c]
    cases inst d c with
    | true => rfl
    | false => exact kit_any h cs
end
section
variable {X : Cx} {a b : Expr} {ca cb : EC} {pos p : Pos}
theorem ty_name {x : Str} {c : Ty} (hm : X.mg x = none) (hv : bootBuiltins x = some (.type c.name)) (hg : Gl X x := by rfl) (hn : x ≠ "__name__" := by decide) (hd : (x == ("__debug__" : Str)) = false := by decide) : PE X (.Name x p) (tC (.ty c.name)) :=
  pe_bltn hg hm hv rfl hn hd
def TysOk (X : Cx) (es : List Expr) (cs : List Ty) : Prop := PA X es fun _ H Q => Q (cs.map fun c => V.ty c.name) H
theorem tys_nil : TysOk X [] [] := pa_nil
theorem tys_cons {e : Expr} {es : List Expr} {c : Ty} {cs : List Ty} (h : PE X e (tC (.ty c.name))) (r : TysOk X es cs) (hs : starEach (e :: es) X.env = (false, eval e X.env) :: starEach es X.env := by rfl) : TysOk X (e :: es) (c :: cs) :=
  pa_mono (pa_cons h r hs) fun _ _ _ q => q
theorem pe_isI {c : Ty} (ta : TE) (hm : X.mg "isinstance" = none) (hb : PE X b (tC (.ty c.name))) (ha : PE X a ta) (hg : Gl X "isinstance" := by rfl)
    (he : starEach [a, b] X.env = (false, eval a X.env) :: starEach [b] X.env := by rfl) (he2 : starEach [b] X.env = (false, eval b X.env) :: starEach [] X.env := by rfl) (hpl : (backTo pos (starEach [b] X.env)).any (·.1) = false := by rfl) :
    PE X (.Call (.Name "isinstance" p) [a, b] [] pos) (tUn (fun x H Q => rIsi X.K [x, .ty c.name] H Q) ta) :=
  pe_mono (pe_callB call_isi hg hm bt_isinstance (pa_cons ha (pa_cons hb pa_nil he2) he) (he := he) (hpl := hpl)) fun _ _ _ q => q
theorem op1_isI {c : Ty} : Op1 X (fun x H Q => rIsi X.K [x, .ty c.name] H Q) (fIsI c) := by
  intro H0 F0 F H σ ρ x A rx Q s hx k
  have pp := hx.dp s
  exact ⟨x, .ty c.name, _, _, _, rfl, .ty _, tyx_of pp, kit_inst pp c, fin_d s (d := .bool _) rfl fun v H' F' A' g o n => k v H' F' A' g o fun c hc => .inr (n c hc)⟩
theorem eok_isI {c : Ty} (hm : X.mg "isinstance" = none) (ha : EOk X a ca) (hb : PE X b (tC (.ty c.name))) (hg : Gl X "isinstance" := by rfl)
    (he : starEach [a, b] X.env = (false, eval a X.env) :: starEach [b] X.env := by rfl) (he2 : starEach [b] X.env = (false, eval b X.env) :: starEach [] X.env := by rfl) (hpl : (backTo pos (starEach [b] X.env)).any (·.1) = false := by rfl) :
    EOk X (.Call (.Name "isinstance" p) [a, b] [] pos) (eUn (fIsI c) ca) := eok_un (fun ta h => pe_isI ta hm hb h hg he he2 hpl) op1_isI ha
def rIsV (K : Frag) (cs : List Ty) : V → Hp → VK → Prop := fun x H Q => (cs.map fun c => V.ty c.name).length ≤ sizeLine ∧ ∀ tp, H tp = none → rIsiT K [x, .ref tp] (upd H tp (.tup (cs.map fun c => V.ty c.name))) Q
theorem pe_isIs {cs : List Ty} {es : List Expr} {k1 : Nat} {p2 : Pos} (ta : TE) (hm : X.mg "isinstance" = none) (hb : TysOk X es cs) (ha : PE X a ta) (hg : Gl X "isinstance" := by rfl)
    (he : starEach [a, .Tuple es k1 p2] X.env = (false, eval a X.env) :: starEach [.Tuple es k1 p2] X.env := by rfl) (he2 : starEach [.Tuple es k1 p2] X.env = (false, eval (.Tuple es k1 p2) X.env) :: starEach [] X.env := by rfl) (hpl : (backTo pos (starEach [.Tuple es k1 p2] X.env)).any (·.1) = false := by rfl) :
    PE X (.Call (.Name "isinstance" p) [a, .Tuple es k1 p2] [] pos) (tUn (rIsV X.K cs) ta) :=
  pe_mono (pe_callB call_isiT hg hm bt_isinstance (pa_cons ha (pa_cons (pe_tup hb) pa_nil he2) he) (he := he) (hpl := hpl)) fun σ H Q q => q
theorem paired_tys : ∀ cs : List Ty, Paired ClsV (cs.map fun c => V.ty c.name) (cs.map fun c => Value.type c.name)
  | [] => .nil
  | c :: cs => .cons (.ty _) (paired_tys cs)
theorem op1_isIs {cs : List Ty} (hl : cs.length ≤ 1000) : Op1 X (rIsV X.K cs) (fIsIs cs) := by
  intro H0 F0 F H σ ρ x A rx Q s hx k
  have pp := hx.dp s
  refine ⟨by rw [List.length_map, sizeLine_eq]; omega, fun tp hp => ?_⟩
  have g := Gr.laid (o := .tup (cs.map fun c => V.ty c.name)) s.sub hp
  refine ⟨x, tp, _, _, _, _, rfl, upd_same, paired_tys cs, tyx_of (pp.mono g.hh), kit_any pp cs, ?_⟩
  exact fin_d (s.step g) (d := .bool _) rfl fun v H' F' A' g' o n => k v H' F' A' (g.trans g') o fun c hc => .inr (g.hh.none (n c hc))
theorem eok_isIs {cs : List Ty} {es : List Expr} {k1 : Nat} {p2 : Pos} (hm : X.mg "isinstance" = none) (ha : EOk X a ca) (hb : TysOk X es cs) (hl : cs.length ≤ 1000 := by decide) (hg : Gl X "isinstance" := by rfl)
    (he : starEach [a, .Tuple es k1 p2] X.env = (false, eval a X.env) :: starEach [.Tuple es k1 p2] X.env := by rfl) (he2 : starEach [.Tuple es k1 p2] X.env = (false, eval (.Tuple es k1 p2) X.env) :: starEach [] X.env := by rfl) (hpl : (backTo pos (starEach [.Tuple es k1 p2] X.env)).any (·.1) = false := by rfl) :
    EOk X (.Call (.Name "isinstance" p) [a, .Tuple es k1 p2] [] pos) (eUn (fIsIs cs) ca) := eok_un (fun ta h => pe_isIs ta hm hb h hg he he2 hpl) (op1_isIs hl) ha

/-! ### one argument -/
theorem eok_b1 {x : Str} {id : String} {r : List V → Hp → VK → Prop} {f : RV → Res RV} (hc : CallR X (.builtin id) r) (o : Op1 X (fun x H Q => r [x] H Q) f) (hm : X.mg x = none) (hv : bootBuiltins x = some (.builtin id)) (ha : EOk X a ca) (hg : Gl X x := by rfl)
    (hn : x ≠ "__name__" := by decide) (hd : (x == ("__debug__" : Str)) = false := by decide) (he : starEach [a] X.env = (false, eval a X.env) :: starEach [] X.env := by rfl) (hpl : (backTo pos (starEach [] X.env)).any (·.1) = false := by rfl) :
    EOk X (.Call (.Name x p) [a] [] pos) (eUn f ca) := eok_un (fun ta h => pe_mono (pe_callB hc hg hm hv (pa_cons h pa_nil he) hn hd he hpl) fun _ _ _ q => q) o ha
theorem eok_t1 {x : Str} {id : String} {r : List V → Hp → VK → Prop} {f : RV → Res RV} (hc : CallR X (.type id) r) (o : Op1 X (fun x H Q => r [x] H Q) f) (hm : X.mg x = none) (hv : bootBuiltins x = some (.type id)) (ha : EOk X a ca) (hg : Gl X x := by rfl)
    (hn : x ≠ "__name__" := by decide) (hd : (x == ("__debug__" : Str)) = false := by decide) (he : starEach [a] X.env = (false, eval a X.env) :: starEach [] X.env := by rfl) (hpl : (backTo pos (starEach [] X.env)).any (·.1) = false := by rfl) :
    EOk X (.Call (.Name x p) [a] [] pos) (eUn f ca) := eok_un (fun ta h => pe_mono (pe_callTy hc hg hm hv (pa_cons h pa_nil he) hn hd he hpl) fun _ _ _ q => q) o ha
theorem op1_len : Op1 X (fun x H Q => ∃ y n, [x] = [y] ∧ LenV X.K y H n ∧ Q (.int n) H) fLen := by
  intro H0 F0 F H σ ρ x A rx Q s hx
  have pp := hx.dp s
  unfold fLen
  cases ed : rx.d with
  | list ds =>
    rw [ed] at pp
    cases pp with
    | lst r ra =>
      intro k
      exact ⟨_, ds.length, rfl, .inl ⟨_, r.sqL, ra.length.symm⟩, fin_d s (d := .int _) rfl fun v H' F' A' g o n => k v H' F' A' g o fun c hc => .inr (n c hc)⟩
  | tuple ds =>
    rw [ed] at pp
    cases pp with
    | tup r ra =>
      intro k
      exact ⟨_, ds.length, rfl, .inr ⟨_, r, ra.length.symm⟩, fin_d s (d := .int _) rfl fun v H' F' A' g o n => k v H' F' A' g o fun c hc => .inr (n c hc)⟩
  | str y =>
    rw [ed] at pp
    obtain rfl := rp_str pp
    by_cases hc : y.length ≤ 16777216
    · simp only [hc, if_true, rD]
      intro k
      exact ⟨_, y.length, rfl, ⟨by rw [sizeLine_eq]; exact hc, rfl⟩, fin_d s (d := .int _) rfl fun v H' F' A' g o n => k v H' F' A' g o fun c hc => .inr (n c hc)⟩
    · simp only [hc]
      trivial
  | _ => trivial
theorem eok_len (hm : X.mg "len" = none) (ha : EOk X a ca) (hg : Gl X "len" := by rfl) (he : starEach [a] X.env = (false, eval a X.env) :: starEach [] X.env := by rfl) (hpl : (backTo pos (starEach [] X.env)).any (·.1) = false := by rfl) :
    EOk X (.Call (.Name "len" p) [a] [] pos) (eUn fLen ca) := eok_b1 call_len op1_len hm bt_len ha hg (he := he) (hpl := hpl)
theorem op1_list : Op1 X (fun x H Q => ∃ p ys, [x] = [V.ref p] ∧ (SqL X.K H p ys ∨ SqT X.K H p ys) ∧ ∀ l, H l = none → Q (.ref l) (upd H l (.lst ys))) fList := by
  intro H0 F0 F H σ ρ x A rx Q s hx
  unfold fList
  cases e : rx.items with
  | none => trivial
  | some xs =>
    intro k
    obtain ⟨a, vs, B, rfl, hq, o, n⟩ := items_ok s hx e
    refine ⟨a, vs, rfl, hq.imp (fun h => h.2.sqL) (fun h => h.2), fun l hl => ?_⟩
    obtain ⟨g, oo⟩ := fin_ls s o hl
    refine k _ _ _ _ g oo fun c hc => ?_
    rcases List.mem_cons.mp hc with rfl | hc
    · exact .inr hl
    · exact .inl (n c hc)
theorem eok_list (hm : X.mg "list" = none) (ha : EOk X a ca) (hg : Gl X "list" := by rfl) (he : starEach [a] X.env = (false, eval a X.env) :: starEach [] X.env := by rfl) (hpl : (backTo pos (starEach [] X.env)).any (·.1) = false := by rfl) :
    EOk X (.Call (.Name "list" p) [a] [] pos) (eUn fList ca) := eok_t1 call_list_of op1_list hm bt_list ha hg (he := he) (hpl := hpl)
theorem op1_tuple : Op1 X (fun x H Q => ∃ p ys, [x] = [V.ref p] ∧ ((SqL X.K H p ys ∧ ∀ l, H l = none → Q (.ref l) (upd H l (.tup ys))) ∨ (SqT X.K H p ys ∧ Q (.ref p) H))) fTuple := by
  intro H0 F0 F H σ ρ x A rx Q s hx
  unfold fTuple
  have pp := hx.dp s
  have rest : isT rx.d = true → match (match rx with
      | .val ow => (.ok (.val ow) : Res RV)
      | _ => .stuck) with
    | .ok rv => (∀ v H' F' C, Gr H F H' F' → RVOk X.K H0 H' F' σ ρ v C rv → (∀ c ∈ C, c ∈ A ∨ H c = none) → Q v H') → ∃ p ys, [x] = [V.ref p] ∧ ((SqL X.K H p ys ∧ ∀ l, H l = none → Q (.ref l) (upd H l (.tup ys))) ∨ (SqT X.K H p ys ∧ Q (.ref p) H))
    | .err _ => False
    | .stuck => True := by
    intro ht
    match rx, hx, pp, ht with
    | .val ow, hx, pp, ht =>
      intro k
      have ed : ∃ ds, RV.d (.val ow) = .tuple ds := by
        cases e : RV.d (.val ow) with
        | tuple ds => exact ⟨ds, rfl⟩
        | _ => rw [e] at ht; cases ht
      obtain ⟨ds, ed⟩ := ed
      rw [ed] at pp
      cases pp with
      | tup r ra => exact ⟨_, _, rfl, .inr ⟨r, k _ H F A s.refl hx fun c hc => .inl hc⟩⟩
    | .ref _ _ _, _, _, _ => trivial
    | .bor _, _, _, _ => trivial
  cases ed : rx.d with
  | list ds =>
    simp only
    cases e : rx.items with
    | none => trivial
    | some xs =>
      intro k
      obtain ⟨a, vs, B, rfl, hq, o, n⟩ := items_ok s hx e
      rw [ed] at hq
      rcases hq with ⟨_, hq⟩ | ⟨z, _⟩
      · refine ⟨a, vs, rfl, .inl ⟨hq.sqL, fun l hl => ?_⟩⟩
        obtain ⟨F', C, g, oo, nn⟩ := fin_tup s o hl
        refine k _ _ _ _ g oo fun c hc => ?_
        rcases nn c hc with rfl | hc
        · exact .inr hl
        · exact .inl (n c hc)
      · cases z
  | tuple ds => exact rest (by rw [ed]; rfl)
  | _ => trivial
theorem eok_tuple (hm : X.mg "tuple" = none) (ha : EOk X a ca) (hg : Gl X "tuple" := by rfl) (he : starEach [a] X.env = (false, eval a X.env) :: starEach [] X.env := by rfl) (hpl : (backTo pos (starEach [] X.env)).any (·.1) = false := by rfl) :
    EOk X (.Call (.Name "tuple" p) [a] [] pos) (eUn fTuple ca) := eok_t1 call_tuple_of op1_tuple hm bt_tuple ha hg (he := he) (hpl := hpl)
theorem ints_rp {K : Frag} {H : Hp} : ∀ {ds : List D} {vs : List V} {ns : List Int}, RpAll K H vs ds → intsOf ds = some ns → vs = ns.map V.int
  | [], _, _, .nil, e => by cases e; rfl
  | d :: ds, _, _, .cons h r, e => by
    cases d with
    | int i =>
      simp only [intsOf] at e
      cases e2 : intsOf ds with
      | none => rw [e2] at e; cases e
      | some is =>
        rw [e2] at e
        cases e
        rw [rp_int h, ints_rp r e2]; rfl
    | _ => simp only [intsOf] at e; cases e
theorem rpInts {K : Frag} (H : Hp) : ∀ ns : List Int, RpAll K H (ns.map V.int) (ns.map PyData.int)
  | [] => .nil
  | n :: ns => .cons (.int n) (rpInts H ns)
theorem op1_sum : Op1 X (fun x H Q => rSum X.K [x] H Q) fSum := by
  intro H0 F0 F H σ ρ x A rx Q s hx
  unfold fSum
  have pp := hx.dp s
  cases ed : rx.d with
  | list ds =>
    simp only
    cases e : intsOf ds with
    | none => trivial
    | some ns =>
      intro k
      rw [ed] at pp
      cases pp with
      | lst r ra =>
        have ev := ints_rp ra e
        subst ev
        exact ⟨_, ns, rfl, r.sqL, fin_d s (d := .int _) rfl fun v H' F' A' g o n => k v H' F' A' g o fun c hc => .inr (n c hc)⟩
  | _ => trivial
theorem eok_sum (hc : X.calm = true) (hm : X.mg "sum" = none) (ha : EOk X a ca) (hg : Gl X "sum" := by rfl) (he : starEach [a] X.env = (false, eval a X.env) :: starEach [] X.env := by rfl) (hpl : (backTo pos (starEach [] X.env)).any (·.1) = false := by rfl) :
    EOk X (.Call (.Name "sum" p) [a] [] pos) (eUn fSum ca) := eok_b1 (cr_sum hc) op1_sum hm bt_sum ha hg (he := he) (hpl := hpl)
theorem insI_perm (a : Int) : ∀ l : List Int, (insI a l).Perm (a :: l)
  | [] => .refl _
  | b :: r => by
    unfold insI
    by_cases h : a ≤ b
    · rw [if_pos h]
    · rw [if_neg h]
      exact ((insI_perm a r).cons b).trans (.swap a b r)
theorem sortI_perm : ∀ l : List Int, (sortI l).Perm l
  | [] => .refl _
  | a :: r => (insI_perm a (sortI r)).trans ((sortI_perm r).cons a)
theorem insI_sorted (a : Int) : ∀ l : List Int, l.Pairwise (· ≤ ·) → (insI a l).Pairwise (· ≤ ·)
  | [], _ => List.pairwise_singleton _ _
  | b :: r, h => by
    unfold insI
    have h' := List.pairwise_cons.mp h
    by_cases e : a ≤ b
    · rw [if_pos e]
      refine List.pairwise_cons.mpr ⟨fun c hc => ?_, h⟩
      rcases List.mem_cons.mp hc with rfl | hc
      · exact e
      · exact Int.le_trans e (h'.1 c hc)
    · rw [if_neg e]
      refine List.pairwise_cons.mpr ⟨fun c hc => ?_, insI_sorted a r h'.2⟩
      rcases List.mem_cons.mp ((insI_perm a r).mem_iff.mp hc) with rfl | hc
      · omega
      · exact h'.1 c hc
theorem sortI_sorted : ∀ l : List Int, (sortI l).Pairwise (· ≤ ·)
  | [] => .nil
  | a :: r => insI_sorted a _ (sortI_sorted r)
theorem sortI_is {ns ns' : List Int} (h : ns'.Perm ns) (hs : ns'.Pairwise (· ≤ ·)) : ns' = sortI ns :=
  PySem.W.ksm_same (h.trans (sortI_perm ns).symm) hs (sortI_sorted ns)
theorem op1_sorted : Op1 X (fun x H Q => rSortedI X.K [x] H Q) fSorted := by
  intro H0 F0 F H σ ρ x A rx Q s hx
  unfold fSorted
  have pp := hx.dp s
  cases ed : rx.d with
  | list ds =>
    simp only
    cases e : intsOf ds with
    | none => trivial
    | some ns =>
      intro k
      rw [ed] at pp
      cases pp with
      | lst r ra =>
        have ev := ints_rp ra e
        subst ev
        refine ⟨_, ns, rfl, r.sqL, fun ns' p h1 h2 hp => ?_⟩
        have e2 := sortI_is h1 h2
        subst e2
        have o : ORs X.K H F ((sortI ns).map V.int) (((sortI ns).map PyData.int).map Ow.fz) [] := ORs.ofDp (rpInts F _)
        obtain ⟨g, oo⟩ := fin_ls s o hp
        rw [List.map_map] at oo
        refine k _ _ _ _ g oo fun c hc => ?_
        rcases List.mem_cons.mp hc with rfl | hc
        · exact .inr hp
        · cases hc
  | _ => trivial
theorem eok_sorted (hm : X.mg "sorted" = none) (ha : EOk X a ca) (hg : Gl X "sorted" := by rfl) (he : starEach [a] X.env = (false, eval a X.env) :: starEach [] X.env := by rfl) (hpl : (backTo pos (starEach [] X.env)).any (·.1) = false := by rfl) :
    EOk X (.Call (.Name "sorted" p) [a] [] pos) (eUn fSorted ca) := eok_b1 cr_sortedI op1_sorted hm bt_sorted ha hg (he := he) (hpl := hpl)
theorem op1_int : Op1 X (fun x H Q => (∃ i, [x] = [V.int i] ∧ Q (.int i) H) ∨ ∃ k, [x] = [V.bl k] ∧ Q (.int (if k then 1 else 0)) H) fInt := by
  intro H0 F0 F H σ ρ x A rx Q s hx
  unfold fInt
  have pp := hx.dp s
  cases ed : rx.d with
  | int i =>
    rw [ed] at pp
    obtain rfl := rp_int pp
    intro k
    exact .inl ⟨i, rfl, fin_d s (d := .int _) rfl fun v H' F' A' g o n => k v H' F' A' g o fun c hc => .inr (n c hc)⟩
  | bool b =>
    rw [ed] at pp
    obtain rfl := bool_of pp
    intro k
    exact .inr ⟨b, rfl, fin_d s (d := .int _) rfl fun v H' F' A' g o n => k v H' F' A' g o fun c hc => .inr (n c hc)⟩
  | _ => trivial
theorem eok_intc (hm : X.mg "int" = none) (ha : EOk X a ca) (hg : Gl X "int" := by rfl) (he : starEach [a] X.env = (false, eval a X.env) :: starEach [] X.env := by rfl) (hpl : (backTo pos (starEach [] X.env)).any (·.1) = false := by rfl) :
    EOk X (.Call (.Name "int" p) [a] [] pos) (eUn fInt ca) := eok_t1 call_int1 op1_int hm bt_int ha hg (he := he) (hpl := hpl)

/-! ### subscripts -/
theorem atI_rp {K : Frag} {F : Hp} {ds : List D} {vs : List V} {k : Int} {d : D} (h : RpAll K F vs ds) (e : atI ds k = some d) : ∃ v, atI vs k = some v ∧ Rp K F v d := by
  unfold atI at e ⊢
  rw [h.length]
  cases e1 : ixN ds.length k with
  | none => rw [e1] at e; cases e
  | some j =>
    rw [e1] at e
    exact h.get' e
theorem ORs.get {K : Frag} {H F : Hp} : ∀ {xs : List Ow} {vs : List V} {A : List Addr} {j : Nat} {x : Ow}, ORs K H F vs xs A → xs[j]? = some x → ∃ v B, vs[j]? = some v ∧ OR K H F v x B ∧ ∀ b ∈ B, b ∈ A
  | [], _, _, _, _, .nil, e => by simp at e
  | x :: _, _, _, 0, _, .cons h r n, e => by
    simp at e
    subst e
    exact ⟨_, _, rfl, h, fun b hb => List.mem_append_left _ hb⟩
  | _ :: _, _, _, j + 1, _, .cons h r n, e => by
    obtain ⟨v, B, h1, h2, h3⟩ := ORs.get (j := j) r (by simpa using e)
    exact ⟨v, B, by simpa using h1, h2, fun b hb => List.mem_append_right _ (h3 b hb)⟩
theorem atI_or {K : Frag} {H F : Hp} {xs : List Ow} {vs : List V} {A : List Addr} {k : Int} {x : Ow} (h : ORs K H F vs xs A) (e : atI xs k = some x) : ∃ v B, atI vs k = some v ∧ OR K H F v x B ∧ ∀ b ∈ B, b ∈ A := by
  unfold atI at e ⊢
  rw [h.length]
  cases e1 : ixN xs.length k with
  | none => rw [e1] at e; cases e
  | some j =>
    rw [e1] at e
    exact h.get e
theorem At.snoc {H : Hp} {k : Nat} {a : Addr} {vs : List V} {w : V} (ho : H a = some (.lst vs) ∨ H a = some (.tup vs)) (hk : vs[k]? = some w) : ∀ {p : List Nat} {v0 : V}, At H v0 p (.ref a) → At H v0 (p ++ [k]) w
  | [], _, e => ⟨a, vs, w, e.symm, ho, hk, rfl⟩
  | _ :: _, _, ⟨b, us, u, e, o, q, r⟩ => ⟨b, us, u, e, o, q, At.snoc ho hk r⟩
theorem Ow.at_snoc {xs : List Ow} {k : Nat} {x : Ow} (hk : xs[k]? = some x) : ∀ {p : List Nat} {ow0 ow : Ow}, ow0.at p = some ow → (ow = .ls xs ∨ ow = .tp xs) → ow0.at (p ++ [k]) = some x
  | [], ow0, ow, e, h => by
    have e' : ow0 = ow := by cases ow0 <;> (simp only [Ow.at] at e; cases e; rfl)
    subst e'
    rcases h with rfl | rfl
    · simp [Ow.at, hk]
    · simp [Ow.at, hk]
  | q :: p, ow0, ow, e, h => by
    cases ow0 with
    | fz d => simp [Ow.at] at e
    | ls ys =>
      simp only [Ow.at, List.cons_append] at e ⊢
      cases e1 : ys[q]? with
      | none => rw [e1] at e; cases e
      | some y => rw [e1] at e; exact Ow.at_snoc hk e h
    | tp ys =>
      simp only [Ow.at, List.cons_append] at e ⊢
      cases e1 : ys[q]? with
      | none => rw [e1] at e; cases e
      | some y => rw [e1] at e; exact Ow.at_snoc hk e h
theorem ixOw_ok {K : Frag} {H0 H F : Hp} {σ : S} {ρ : Rho} {i : Nat} {p : List Nat} {k : Nat} {v : V} {x : Ow} {B : List Addr} (h : OR K H F v x B) (h1 : ∃ v0, σ[i]? = some (some v0) ∧ At H v0 (p ++ [k]) v) (h2 : ∃ ow0, ρ[i]? = some (some (.own ow0)) ∧ ow0.at (p ++ [k]) = some x) :
    RVOk K H0 H F σ ρ v [] (ixOw i p k x) := by
  cases x with
  | fz d => exact OR.fz h.fz_inv.2
  | ls xs => exact ⟨rfl, h1, h2, B, h⟩
  | tp xs => exact ⟨rfl, h1, h2, B, h⟩
theorem op2_ix : Op2 X (rIx X.K) fIx := by
  intro H0 F0 F H σ ρ x y A B rx ry Q s hx hy dis
  unfold fIx
  have py := hy.dp s
  cases ey : ry.d with
  | int k =>
    rw [ey] at py
    obtain rfl := rp_int py
    have none_ : ∀ c ∈ ([] : List Addr), c ∈ A ∨ c ∈ B ∨ H c = none := fun _ z => by cases z
    match rx, hx with
    | .val (.fz (.list ds)), hx =>
      simp only
      cases e : atI ds k with
      | none => trivial
      | some d =>
        intro kk
        have p := (OR.fz_inv hx).2
        cases p with
        | lst r ra =>
          obtain ⟨v, h1, h2⟩ := atI_rp ra e
          exact .inl ⟨_, _, k, v, rfl, rfl, (s.sub.lk r).sqL, h1, kk v H F [] s.refl (OR.fz h2) none_⟩
    | .val (.fz (.tuple ds)), hx =>
      simp only
      cases e : atI ds k with
      | none => trivial
      | some d =>
        intro kk
        have p := (OR.fz_inv hx).2
        cases p with
        | tup r ra =>
          obtain ⟨v, h1, h2⟩ := atI_rp ra e
          exact .inr (.inl ⟨_, _, k, v, rfl, rfl, s.sub.sqT r, h1, kk v H F [] s.refl (OR.fz h2) none_⟩)
    | .val (.ls xs), hx =>
      simp only
      cases e : atI xs k with
      | none => trivial
      | some d =>
        intro kk
        obtain ⟨a, vs, C, rfl, rfl, h1, _, _, o⟩ := OR.ls_inv hx
        obtain ⟨v, E, h2, h3, h4⟩ := atI_or o e
        exact .inl ⟨_, _, k, v, rfl, rfl, .of h1, h2, kk v H F E s.refl h3 fun c hc => .inl (List.mem_cons_of_mem _ (h4 c hc))⟩
    | .val (.tp xs), hx =>
      simp only
      cases e : atI xs k with
      | none => trivial
      | some d =>
        intro kk
        obtain ⟨a, vs, C, rfl, rfl, h1, _, _, o⟩ := OR.tp_inv hx
        obtain ⟨v, E, h2, h3, h4⟩ := atI_or o e
        exact .inr (.inl ⟨_, _, k, v, rfl, rfl, .of h1, h2, kk v H F E s.refl h3 fun c hc => .inl (List.mem_cons_of_mem _ (h4 c hc))⟩)
    | .ref i p (.ls xs), ⟨_, ⟨v0, e0, hat⟩, ⟨ow0, e1, e2⟩, C, hx⟩ =>
      simp only
      cases e : ixN xs.length k with
      | none => trivial
      | some j =>
        simp only
        cases e3 : xs[j]? with
        | none => trivial
        | some ow =>
          intro kk
          obtain ⟨a, vs, C', rfl, rfl, h1, _, _, o⟩ := OR.ls_inv hx
          obtain ⟨v, E, h2, h3, h4⟩ := o.get e3
          refine .inl ⟨_, _, k, v, rfl, rfl, .of h1, by unfold atI; rw [o.length, e]; exact h2, ?_⟩
          exact kk v H F [] s.refl (ixOw_ok h3 ⟨v0, e0, hat.snoc (.inl h1) h2⟩ ⟨ow0, e1, Ow.at_snoc e3 e2 (.inl rfl)⟩) none_
    | .ref i p (.tp xs), ⟨_, ⟨v0, e0, hat⟩, ⟨ow0, e1, e2⟩, C, hx⟩ =>
      simp only
      cases e : ixN xs.length k with
      | none => trivial
      | some j =>
        simp only
        cases e3 : xs[j]? with
        | none => trivial
        | some ow =>
          intro kk
          obtain ⟨a, vs, C', rfl, rfl, h1, _, _, o⟩ := OR.tp_inv hx
          obtain ⟨v, E, h2, h3, h4⟩ := o.get e3
          refine .inr (.inl ⟨_, _, k, v, rfl, rfl, .of h1, by unfold atI; rw [o.length, e]; exact h2, ?_⟩)
          exact kk v H F [] s.refl (ixOw_ok h3 ⟨v0, e0, hat.snoc (.inr h1) h2⟩ ⟨ow0, e1, Ow.at_snoc e3 e2 (.inr rfl)⟩) none_
    | .bor (.list ds), ⟨_, p⟩ =>
      simp only
      cases e : atI ds k with
      | none => trivial
      | some d =>
        intro kk
        cases p with
        | lst r ra =>
          obtain ⟨v, h1, h2⟩ := atI_rp ra e
          refine .inl ⟨_, _, k, v, rfl, rfl, (s.gr.hh.lk r).sqL, h1, kk v H F [] s.refl ?_ none_⟩
          by_cases hs : scal d = true
          · rw [if_pos hs, h2.scal_eq hs]; exact OR.fz (Rp.scal F hs)
          · rw [if_neg hs]; exact ⟨rfl, h2⟩
    | .bor (.tuple ds), ⟨_, p⟩ =>
      simp only
      cases e : atI ds k with
      | none => trivial
      | some d =>
        intro kk
        cases p with
        | tup r ra =>
          obtain ⟨v, h1, h2⟩ := atI_rp ra e
          refine .inr (.inl ⟨_, _, k, v, rfl, rfl, s.gr.hh.sqT r, h1, kk v H F [] s.refl ?_ none_⟩)
          by_cases hs : scal d = true
          · rw [if_pos hs, h2.scal_eq hs]; exact OR.fz (Rp.scal F hs)
          · rw [if_neg hs]; exact ⟨rfl, h2⟩
    | .val (.fz .none), _ => trivial
    | .val (.fz (.bool _)), _ => trivial
    | .val (.fz (.int _)), _ => trivial
    | .val (.fz (.str _)), _ => trivial
    | .val (.fz (.dict _)), _ => trivial
    | .ref _ _ (.fz _), _ => trivial
    | .bor .none, _ => trivial
    | .bor (.bool _), _ => trivial
    | .bor (.int _), _ => trivial
    | .bor (.str _), _ => trivial
    | .bor (.dict _), _ => trivial
  | _ => trivial
theorem eok_ix (ha : EOk X a ca) (hb : EOk X b cb) (hs : PlainIx b := by exact fun _ _ => rfl) : EOk X (.Subscript a b pos) (eBin fIx ca cb) := eok_bin (fun _ _ h1 h2 => pe_ix ix_seq h1 h2 hs) op2_ix ha hb

/-! ### slices -/
def rdP (K : Frag) (mg : Str → Option Value) (c : Option EC) (W : WX) : TO := fun σ H Q => ∃ H0 F0 F ρ, SR K H0 F0 σ H F ρ ∧ match ePart c ρ with
  | .ok o => ∀ H' F', Gr H F H' F' → Q o H'
  | .err x => ∀ cls d H' F', Gr H F H' F' → XOk K mg F' H' cls d x → W cls d σ H'
  | .stuck => False
def POk (X : Cx) (e : Option Expr) (c : Option EC) : Prop := ∀ W, Takes X W → PO X e (rdP X.K X.mg c W)
theorem po_mono {e : Option Expr} {t t' : TO} (h : PO X e t) (k : ∀ σ H Q, t' σ H Q → t σ H Q) : PO X e t' := ⟨fun pins s σ H Q I q => h.run pins s σ H Q I (k σ H Q q)⟩
theorem pok_none : POk X none none := fun W tk => po_mono po_none fun σ H Q h => by
  obtain ⟨H0, F0, F, ρ, s, h⟩ := h
  exact h H F s.refl
theorem pok_some (ha : EOk X a ca) : POk X (some a) (some ca) := fun W tk => po_mono (po_some (ha W tk)) fun σ H Q h => by
  obtain ⟨H0, F0, F, ρ, s, h⟩ := h
  show rdE X.K X.mg ca W σ H fun x H1 => ∃ i, x = .int i ∧ Q (some i) H1
  simp only [ePart] at h
  cases e1 : ca ρ with
  | stuck => rw [e1] at h; exact h.elim
  | err x => rw [e1] at h; exact rdE_err s e1 h
  | ok x =>
    rw [e1] at h
    simp only [Res.bind] at h
    refine rdE_ok s e1 fun v H1 F1 A g1 o1 n1 => ?_
    have p := o1.dp (s.step g1)
    cases ed : x.d with
    | int i =>
      rw [ed] at p h
      exact ⟨i, rp_int p, h H1 F1 g1⟩
    | _ => rw [ed] at h; exact h.elim
theorem cut_ORs {K : Frag} {H F : Hp} : ∀ {xs : List Ow} {vs : List V} {A : List Addr} (m n : Nat), ORs K H F vs xs A → ∃ B, ORs K H F ((vs.drop m).take n) ((xs.drop m).take n) B ∧ ∀ b ∈ B, b ∈ A
  | [], _, _, m, n, .nil => ⟨[], by simpa using ORs.nil, fun _ h => by cases h⟩
  | x :: xs, _, _, 0, 0, .cons h r k => ⟨[], by simpa using ORs.nil, fun _ h => by cases h⟩
  | x :: xs, _, _, 0, n + 1, @ORs.cons _ _ _ v _ vs _ A1 A2 h r k => by
    obtain ⟨B, o, hB⟩ := cut_ORs 0 n r
    simp only [List.drop_zero] at o
    refine ⟨A1 ++ B, ?_, ?_⟩
    · simp only [List.drop_zero, List.take_succ_cons]
      exact .cons h o fun a ha hb => k a ha (hB a hb)
    · intro b hb
      rcases List.mem_append.mp hb with z | z
      · exact List.mem_append_left _ z
      · exact List.mem_append_right _ (hB b z)
  | x :: xs, _, _, m + 1, n, .cons h r k => by
    obtain ⟨B, o, hB⟩ := cut_ORs m n r
    exact ⟨B, by simpa using o, fun b hb => List.mem_append_right _ (hB b hb)⟩
theorem allfz_map : ∀ ds : List D, (ds.map Ow.fz).all isFz = true
  | [] => rfl
  | _ :: ds => allfz_map ds
theorem mkTup_fz (ds : List D) : mkTup (ds.map Ow.fz) = .fz (.tuple ds) := by
  unfold mkTup
  rw [if_pos (allfz_map ds), toDs_fz]
theorem cut_rp {K : Frag} {F : Hp} : ∀ {ds : List D} {vs : List V} (m n : Nat), RpAll K F vs ds → RpAll K F ((vs.drop m).take n) ((ds.drop m).take n)
  | [], _, m, n, .nil => by simpa using RpAll.nil
  | _ :: _, _, 0, 0, .cons _ _ => by simpa using RpAll.nil
  | _ :: _, _, 0, n + 1, .cons h r => by
    have := cut_rp 0 n r
    simp only [List.drop_zero, List.take_succ_cons] at this ⊢
    exact .cons h this
  | _ :: _, _, m + 1, n, .cons h r => by simpa using cut_rp m n r
def rSl (K : Frag) : V → Option Int → Option Int → Hp → VK → Prop := fun x lo hi H Q => rSlL K x lo hi H Q ∨ rSlA K x lo hi H Q
theorem sl_row : SlR X (rSl X.K) := sl_list.or sl_tupA
theorem whole_cut {α : Type} {xs : List α} {lo hi : Option Int} (h : HT.sIx xs.length 0 lo = 0 ∧ HT.sIx xs.length xs.length hi = xs.length) : cutL xs lo hi = xs := by
  unfold cutL
  rw [h.1, h.2]
  simp
theorem eok_slice {lo hi : Option Expr} {cl ch : Option EC} {p2 : Pos} (ha : EOk X a ca) (hl : POk X lo cl) (hh : POk X hi ch) : EOk X (.Subscript a (.Slice lo hi none p2) pos) (eSlice ca cl ch) := fun W tk =>
  pe_mono (pe_slice sl_row (ha W tk) (hl W tk) (hh W tk)) fun σ H Q h => by
    obtain ⟨H0, F0, F, ρ, s, h⟩ := h
    show rdE X.K X.mg ca W σ H fun x H1 => rdP X.K X.mg cl W σ H1 fun l H2 => rdP X.K X.mg ch W σ H2 fun u H3 => rSl X.K x l u H3 Q
    unfold eSlice at h
    cases e1 : ca ρ with
    | stuck => rw [e1] at h; exact h.elim
    | err x => rw [e1] at h; exact rdE_err s e1 h
    | ok rx =>
      rw [e1] at h
      simp only [Res.bind] at h
      refine rdE_ok s e1 fun x H1 F1 A g1 o1 n1 => ?_
      refine ⟨H0, F0, F1, ρ, s.step g1, ?_⟩
      cases e2 : ePart cl ρ with
      | stuck => rw [e2] at h; exact h.elim
      | err z => rw [e2] at h; exact fun cls d H' F' g => h cls d H' F' (g1.trans g)
      | ok l =>
        rw [e2] at h
        simp only at h
        intro H2 F2 g2
        refine ⟨H0, F0, F2, ρ, (s.step g1).step g2, ?_⟩
        cases e3 : ePart ch ρ with
        | stuck => rw [e3] at h; exact h.elim
        | err z => rw [e3] at h; exact fun cls d H' F' g => h cls d H' F' ((g1.trans g2).trans g)
        | ok u =>
          rw [e3] at h
          simp only at h
          intro H3 F3 g3
          have s3 := ((s.step g1).step g2).step g3
          have o3 := (o1.gr g2).gr g3
          have g := (g1.trans g2).trans g3
          have pp := o3.dp s3
          unfold fCut at h
          cases ed : rx.d with
          | list ds =>
            rw [ed] at h
            simp only at h
            cases e4 : rx.items with
            | none => rw [e4] at h; exact h.elim
            | some xs =>
              rw [e4] at h
              simp only at h
              obtain ⟨a, vs, B, rfl, hq, o, n⟩ := items_ok s3 o3 e4
              rw [ed] at hq
              rcases hq with ⟨_, hq⟩ | ⟨z, _⟩
              · refine .inl ⟨a, vs, rfl, hq.sqL, fun p hp => ?_⟩
                obtain ⟨C, oc, nc⟩ := cut_ORs (HT.sIx vs.length 0 l) (HT.sIx vs.length vs.length u - HT.sIx vs.length 0 l) o
                obtain ⟨gl, oo⟩ := fin_ls s3 oc hp
                have el : (xs.drop (HT.sIx vs.length 0 l)).take (HT.sIx vs.length vs.length u - HT.sIx vs.length 0 l) = cutL xs l u := by unfold cutL; rw [o.length]
                rw [el] at oo
                refine h _ _ _ _ (g.trans gl) oo fun c hc => ?_
                rcases List.mem_cons.mp hc with rfl | hc
                · exact g.hh.none hp
                · exact n1 c (n c (nc c hc))
              · cases z
          | tuple ds =>
            rw [ed] at h
            simp only at h
            match rx, o3, pp, ed, h with
            | .val (.fz (.tuple ds')), o3, pp, ed, h =>
              simp only at h
              have p := (OR.fz_inv o3).2
              cases p with
              | tup r ra =>
                refine .inr ⟨_, _, rfl, s3.sub.sqT r, fun hw => ?_, fun hw p hp => ?_⟩
                · rw [ra.length] at hw
                  rw [whole_cut hw] at h
                  exact h _ H3 F3 [] g (OR.fz (.tup r ra)) fun _ z => by cases z
                · have rc := cut_rp (HT.sIx ds'.length 0 l) (HT.sIx ds'.length ds'.length u - HT.sIx ds'.length 0 l) ra
                  obtain ⟨F', C, gt, oo, nn⟩ := fin_tup s3 (ORs.ofDp rc) hp
                  have em : mkTup (((ds'.drop (HT.sIx ds'.length 0 l)).take (HT.sIx ds'.length ds'.length u - HT.sIx ds'.length 0 l)).map Ow.fz) = .fz (.tuple (cutL ds' l u)) := by
                    rw [mkTup_fz]; rfl
                  rw [em] at oo
                  have el := ra.length
                  rw [← el] at gt
                  refine h _ _ F' C (g.trans (by unfold cutV; exact gt)) (by unfold cutV; rw [el]; exact oo) fun c hc => ?_
                  rcases nn c hc with rfl | hc
                  · exact g.hh.none hp
                  · cases hc
            | .val (.fz .none), _, _, _, h => exact h.elim
            | .val (.fz (.bool _)), _, _, _, h => exact h.elim
            | .val (.fz (.int _)), _, _, _, h => exact h.elim
            | .val (.fz (.str _)), _, _, _, h => exact h.elim
            | .val (.fz (.list _)), _, _, _, h => exact h.elim
            | .val (.fz (.dict _)), _, _, _, h => exact h.elim
            | .val (.ls _), _, _, _, h => exact h.elim
            | .val (.tp _), _, _, _, h => exact h.elim
            | .ref _ _ _, _, _, _, h => exact h.elim
            | .bor _, _, _, _, h => exact h.elim
          | _ => rw [ed] at h; exact h.elim
theorem pe_revU {k : Nat} {p1 p2 p3 : Pos} (te : TE) (h : PE X a te) : PE X (.Subscript a (.Slice none none (some (.UnaryOp .USub (.Constant (.int 1) k p1) p2)) p3) pos) (tUn (fun x H Q => ∃ a xs, x = .ref a ∧ SqL X.K H a xs ∧ ∀ p, H p = none → Q (.ref p) (upd H p (.lst xs.reverse))) te) := pe_revL h
theorem rev_ORs {K : Frag} {H F : Hp} : ∀ {xs : List Ow} {vs : List V} {A : List Addr}, ORs K H F vs xs A → ∃ B, ORs K H F vs.reverse xs.reverse B ∧ ∀ b ∈ B, b ∈ A
  | [], _, _, .nil => ⟨[], .nil, fun _ h => by cases h⟩
  | x :: xs, _, _, @ORs.cons _ _ _ v _ vs _ A1 A2 h r k => by
    obtain ⟨B, o, hB⟩ := rev_ORs r
    have o1 : ORs K H F [v] [x] (A1 ++ []) := .cons h .nil fun _ _ z => by cases z
    refine ⟨B ++ (A1 ++ []), ?_, ?_⟩
    · simp only [List.reverse_cons]
      exact o.append o1 fun a ha hb => k a (by simpa using hb) (hB a ha)
    · intro b hb
      rcases List.mem_append.mp hb with z | z
      · exact List.mem_append_right _ (hB b z)
      · exact List.mem_append_left _ (by simpa using z)
theorem op1_rev : Op1 X (fun x H Q => ∃ a xs, x = .ref a ∧ SqL X.K H a xs ∧ ∀ p, H p = none → Q (.ref p) (upd H p (.lst xs.reverse))) fRev := by
  intro H0 F0 F H σ ρ x A rx Q s hx
  unfold fRev
  cases ed : rx.d with
  | list ds =>
    simp only
    cases e : rx.items with
    | none => trivial
    | some xs =>
      intro k
      obtain ⟨a, vs, B, rfl, hq, o, n⟩ := items_ok s hx e
      rw [ed] at hq
      rcases hq with ⟨_, hq⟩ | ⟨z, _⟩
      · refine ⟨a, vs, rfl, hq.sqL, fun p hp => ?_⟩
        obtain ⟨C, oc, nc⟩ := rev_ORs o
        obtain ⟨g, oo⟩ := fin_ls s oc hp
        refine k _ _ _ _ g oo fun c hc => ?_
        rcases List.mem_cons.mp hc with rfl | hc
        · exact .inr hp
        · exact .inl (n c (nc c hc))
      · cases z
  | _ => trivial
theorem eok_rev {k : Nat} {p1 p2 p3 : Pos} (ha : EOk X a ca) : EOk X (.Subscript a (.Slice none none (some (.UnaryOp .USub (.Constant (.int 1) k p1) p2)) p3) pos) (eUn fRev ca) := eok_un (fun te h => pe_revU te h) op1_rev ha
end
end VL

set_option Elab.async false
set_option linter.all false
set_option maxRecDepth 100000
set_option maxHeartbeats 4000000
/-! VL7: targets, what is walked, comprehensions, statements, loops, defs. -/
namespace VL
open PySem PySem.Spec PyProof.Rows L2

/-! ### slots are set -/
def VOk (K : Frag) (H0 H F : Hp) (x : V) (B : List Addr) : Sl → Prop
  | .own ow => OR K H F x ow B ∧ ∀ b ∈ B, H0 b = none
  | .bor d => B = [] ∧ Rp K H0 x d
section
variable {K : Frag} {mg : Str → Option Value} {W : WX} {σ : S} {H H0 F0 F : Hp} {ρ : Rho} {A : Nat → List Addr}
theorem SRA.set (s : SRA K H0 F0 A σ H F ρ) {i : Nat} {x : V} {sl : Sl} {B : List Addr} (h : VOk K H0 H F x B sl) (hd : ∀ b ∈ B, ∀ j, b ∉ A j) :
    ∃ A', SRA K H0 F0 A' (σ.set i (some x)) H F (ρ.set i (some sl)) ∧ ∀ j, ∀ a ∈ A' j, a ∈ A j ∨ a ∈ B := by
  by_cases hi : i < σ.length
  · refine ⟨fun j => if j = i then B else A j, ⟨by simp [s.len], s.gr, fun j => ?_, fun j k hjk a ha hb => ?_⟩, fun j a ha => ?_⟩
    · by_cases e : j = i
      · subst e
        have hr : j < ρ.length := by rw [s.len]; exact hi
        simp only [if_true, List.getElem?_set_self hr]
        cases sl with
        | own ow => exact ⟨x, List.getElem?_set_self hi, h.1, h.2⟩
        | bor d => exact ⟨h.1, x, List.getElem?_set_self hi, h.2⟩
      · have q := s.sl j
        simp only [e, if_false, List.getElem?_set_ne (Ne.symm e)]
        match o : ρ[j]?, q with
        | some (some (.own ow)), ⟨v, e1, q⟩ => exact ⟨v, by rw [List.getElem?_set_ne (Ne.symm e)]; exact e1, q⟩
        | some (some (.bor d)), ⟨e0, v, e1, q⟩ => exact ⟨e0, v, by rw [List.getElem?_set_ne (Ne.symm e)]; exact e1, q⟩
        | some none, q => exact q
        | none, q => exact q
    · by_cases e1 : j = i
      · have e2 : ¬ k = i := fun z => hjk (e1.trans z.symm)
        simp only [e1, e2, if_true, if_false] at ha hb
        exact hd a ha k hb
      · by_cases e2 : k = i
        · simp only [e1, e2, if_true, if_false] at ha hb
          exact hd a hb j ha
        · simp only [e1, e2, if_false] at ha hb
          exact s.ap j k hjk a ha hb
    · by_cases e : j = i
      · simp only [e, if_true] at ha; exact .inr ha
      · simp only [e, if_false] at ha; exact .inl ha
  · have hr : ¬ i < ρ.length := by rw [s.len]; exact hi
    rw [List.set_eq_of_length_le (by omega), List.set_eq_of_length_le (by omega)]
    exact ⟨A, s, fun j a ha => .inl ha⟩
theorem SRA.wipe1 (s : SRA K H0 F0 A σ H F ρ) (i : Nat) : ∃ A', SRA K H0 F0 A' (σ.set i none) H F (ρ.set i none) ∧ ∀ j, ∀ a ∈ A' j, a ∈ A j := by
  refine ⟨fun j => if j = i then [] else A j, ⟨by simp [s.len], s.gr, fun j => ?_, fun j k hjk a ha hb => ?_⟩, fun j a ha => ?_⟩
  · by_cases e : j = i
    · subst e
      simp only [if_true]
      by_cases hr : j < ρ.length
      · rw [List.getElem?_set_self hr]; rfl
      · rw [List.getElem?_eq_none (by simp; omega)]; rfl
    · have q := s.sl j
      simp only [e, if_false, List.getElem?_set_ne (Ne.symm e)]
      match o : ρ[j]?, q with
      | some (some (.own ow)), ⟨v, e1, q⟩ => exact ⟨v, by rw [List.getElem?_set_ne (Ne.symm e)]; exact e1, q⟩
      | some (some (.bor d)), ⟨e0, v, e1, q⟩ => exact ⟨e0, v, by rw [List.getElem?_set_ne (Ne.symm e)]; exact e1, q⟩
      | some none, q => exact q
      | none, q => exact q
  · by_cases e1 : j = i
    · simp only [e1, if_true] at ha; cases ha
    · by_cases e2 : k = i
      · simp only [e2, if_true] at hb; cases hb
      · simp only [e1, e2, if_false] at ha hb
        exact s.ap j k hjk a ha hb
  · by_cases e : j = i
    · simp only [e, if_true] at ha; cases ha
    · simp only [e, if_false] at ha; exact ha
theorem SRA.wipe (s : SRA K H0 F0 A σ H F ρ) : ∀ vs : List Nat, ∃ A', SRA K H0 F0 A' (wipe σ vs) H F (wipeR vs ρ) ∧ ∀ j, ∀ a ∈ A' j, a ∈ A j
  | [] => ⟨A, s, fun _ _ h => h⟩
  | v :: vs => by
    obtain ⟨A1, s1, h1⟩ := SRA.wipe s vs
    obtain ⟨A2, s2, h2⟩ := s1.wipe1 v
    exact ⟨A2, s2, fun j a h => h1 j a (h2 j a h)⟩
inductive VOks (K : Frag) (H0 H F : Hp) : List V → List Addr → List Sl → Prop
  | nil : VOks K H0 H F [] [] []
  | cons {x : V} {xs : List V} {B C : List Addr} {s : Sl} {ss : List Sl} : VOk K H0 H F x B s → VOks K H0 H F xs C ss → (∀ b ∈ B, b ∉ C) → VOks K H0 H F (x :: xs) (B ++ C) (s :: ss)
def gNames : List Nat → TGs
  | [] => gNil
  | i :: is => gCons (gName i) (gNames is)
theorem gNames_ok : ∀ {tg : List Nat} {xs : List V} {ss : List Sl} {B : List Addr} {σ : S} {ρ : Rho} {A : Nat → List Addr} {Q : S → Hp → Prop}, SRA K H0 F0 A σ H F ρ → VOks K H0 H F xs B ss → ss.length = tg.length → (∀ b ∈ B, ∀ j, b ∉ A j) →
    (∀ σ' A', SRA K H0 F0 A' σ' H F (setAll tg ss ρ) → (∀ j, j ∉ tg → σ'[j]? = σ[j]?) → (∀ j, ∀ a ∈ A' j, a ∈ A j ∨ a ∈ B) → σ'.length = σ.length → Q σ' H) → gNames tg xs σ H Q
  | [], _, _, _, σ, ρ, A, Q, s, .nil, _, _, k => ⟨rfl, k σ A s (fun _ _ => rfl) (fun _ _ h => .inl h) rfl⟩
  | [], _, _, _, _, _, _, _, _, .cons _ _ _, hl, _, _ => by simp at hl
  | _ :: _, _, _, _, _, _, _, _, _, .nil, hl, _, _ => by simp at hl
  | i :: tg, _, _, _, σ, ρ, A, Q, s, @VOks.cons _ _ _ _ x xs B C sl ss h r n, hl, hd, k => by
    obtain ⟨A1, s1, h1⟩ := s.set (i := i) h fun b hb j => hd b (List.mem_append_left _ hb) j
    refine ⟨x, xs, rfl, gNames_ok s1 r (by simpa using hl) (fun b hb j hj => ?_) fun σ' A' s' e a l => k σ' A' s' (fun j hj => ?_) (fun j x hx => ?_) (by rw [l]; simp)⟩
    · rcases h1 j b hj with z | z
      · exact hd b (List.mem_append_right _ hb) j z
      · exact n b z hb
    · simp only [List.mem_cons, not_or] at hj
      rw [e j hj.2, List.getElem?_set_ne (Ne.symm hj.1)]
    · rcases a j x hx with z | z
      · rcases h1 j x z with q | q
        · exact .inl q
        · exact .inr (List.mem_append_left _ q)
      · exact .inr (List.mem_append_right _ z)
end

/-! ### what is walked -/
/-- at turn i of J the targets get items[i] -/
structure IterOk (K : Frag) (H0 Fi : Hp) (J : It) (g : TG) (tg : List Nat) (items : List (List Sl)) : Prop where
  go : ∀ i H F, Gr H0 Fi H F → i < items.length → J.go i H
  stop : ∀ H F, Gr H0 Fi H F → J.stop items.length H
  turn : ∀ i s A σ H F ρ x H' (Q : S → Hp → Prop), items[i]? = some s → SRA K H0 Fi A σ H F ρ → J.yld i H x H' →
    (∀ A' σ' H2 F2, SRA K H0 Fi A' σ' H2 F2 (setAll tg s ρ) → Gr H F H2 F2 → (∀ j, j ∉ tg → σ'[j]? = σ[j]?) → (∀ j, ∀ a ∈ A' j, a ∈ A j) → σ'.length = σ.length → Q σ' H2) → g x σ H' Q
def rdI (K : Frag) (mg : Str → Option Value) (g : TG) (tg : List Nat) (c : IC) (W : WX) : TI := fun σ H R => ∃ H0 F0 F ρ, SR K H0 F0 σ H F ρ ∧ match c ρ with
  | .ok items => ∀ J H1 F1, Gr H F H1 F1 → IterOk K H0 F1 J g tg items → R J H1
  | .err x => ∀ cls d H' F', Gr H F H' F' → XOk K mg F' H' cls d x → W cls d σ H'
  | .stuck => False
def IOk (X : Cx) (tgE iter : Expr) (g : TG) (tg : List Nat) (c : IC) : Prop := ∀ W, Takes X W → PI X tgE iter (rdI X.K X.mg g tg c W)
theorem pi_mono {X : Cx} {tgE iter : Expr} {t t' : TI} (h : PI X tgE iter t) (k : ∀ σ H R, t' σ H R → t σ H R) : PI X tgE iter t' := ⟨fun pins s σ H R I q => h.run pins s σ H R I (k σ H R q)⟩
/-- a list or a tuple, whichever it is -/
def iRowV (K : Frag) (tl : TE) : TI := fun σ H R => tl σ H fun x H1 => ∃ a, x = .ref a ∧ ((∃ xs, SqL K H1 a xs ∧ R (Itl K a) H1) ∨ (∃ xs, SqT K H1 a xs ∧ R (Itt K a) H1))
theorem pi_rowV {X : Cx} {tg l : Expr} {tl : TE} (hl : PE X l tl) : PI X tg l (iRowV X.K tl) := by
  refine ⟨fun pins s σ H R I h => ?_⟩
  refine thn (hl.run pins s σ H _ I h) fun v s1 ⟨x, H1, I1, r1, q1⟩ => ?_
  obtain ⟨a, e, q⟩ := q1
  subst e
  cases r1
  rcases q with ⟨xs, hq, q⟩ | ⟨xs, hq, q⟩
  · obtain ⟨its, rv, p, hz⟩ := I1.list hq
    refine wpAny_pyIter_list p.isList ?_
    refine ⟨s1.heap.objs.size, [s1.heap.objs.size], _, _, H1, rfl, I1.kept (t' := s1.toks) fun b o e => Heap.get?_push_of_some _ e, turn_list a _, ⟨_, Heap.get?_push_size _ rfl, rfl, rfl⟩, fun b hb => ?_, q⟩
    have e : b = s1.heap.objs.size := by simpa using hb
    subst e
    exact I1.fpOk (Nat.le_refl _) (I1.hok.fresh (Nat.le_refl _))
  · obtain ⟨its, rv, p, hz⟩ := I1.tuple hq
    refine wpAny_pyIter_tuple (show s1.heap.IsTuple a its.toArray from p) ?_
    refine ⟨s1.heap.objs.size, [s1.heap.objs.size], _, _, H1, rfl, I1.kept (t' := s1.toks) fun b o e => Heap.get?_push_of_some _ e, turn_tuple a _, ⟨_, Heap.get?_push_size _ rfl, rfl, rfl⟩, fun b hb => ?_, q⟩
    have e : b = s1.heap.objs.size := by simpa using hb
    subst e
    exact I1.fpOk (Nat.le_refl _) (I1.hok.fresh (Nat.le_refl _))
def It1 (K : Frag) (H0 F : Hp) (v : V) : Sl → Prop
  | .own (.fz d) => Rp K F v d
  | .bor d => Rp K H0 v d
  | _ => False
theorem It1.vok {K : Frag} {H0 Fi H F : Hp} {v : V} {s : Sl} (h : It1 K H0 Fi v s) (g : Sub Fi F) : VOk K H0 H F v [] s := by
  match s, h with
  | .own (.fz d), h => exact ⟨OR.fz (Rp.mono g h), fun _ z => by cases z⟩
  | .bor d, h => exact ⟨rfl, h⟩
theorem it1_fz {K : Frag} {H0 F : Hp} : ∀ {ds : List D} {vs : List V}, RpAll K F vs ds → Paired (It1 K H0 F) vs (ds.map slOf)
  | [], _, .nil => .nil
  | _ :: _, _, .cons h r => .cons h (it1_fz r)
theorem it1_bor {K : Frag} {H0 F : Hp} : ∀ {ds : List D} {vs : List V}, RpAll K H0 vs ds → Paired (It1 K H0 F) vs (ds.map slBor)
  | [], _, .nil => .nil
  | d :: ds, _, .cons h r => .cons (by
      unfold slBor
      by_cases hs : scal d = true
      · rw [if_pos hs, h.scal_eq hs]; exact Rp.scal F hs
      · rw [if_neg hs]; exact h) (it1_bor r)
/-- a row that stands still -/
def Still (K : Frag) (H0 Fi : Hp) (a : Addr) (vs : List V) (l : Bool) : Prop :=
  if l = true then SqL K Fi a vs ∨ SqL K H0 a vs else SqT K Fi a vs ∨ SqT K H0 a vs
theorem iter_ok {K : Frag} {H0 F0 H F Hs Fs : Hp} {σ : S} {ρ : Rho} {v : V} {A : List Addr} {rv : RV} {ss : List Sl} (s : SR K H0 F0 σ H F ρ) (h : RVOk K H0 H F σ ρ v A rv) (g : Gr Hs Fs H F) (hA : ∀ a ∈ A, Hs a = none) (e : rv.iter = some ss) :
    ∃ a vs F' l, v = .ref a ∧ Gr Hs Fs H F' ∧ Still K H0 F' a vs l ∧ Paired (It1 K H0 F') vs ss := by
  match rv, h, e with
  | .val ow, h, e =>
    simp only [RV.iter] at e
    cases e1 : rowOf ow.toD with
    | none => rw [e1] at e; cases e
    | some ds =>
      rw [e1] at e
      cases e
      have p := OR.freeze h
      have g2 := g.frozen hA fun a ha => (OR.there h a ha).2
      cases ed : ow.toD with
      | list es =>
        rw [ed] at p e1
        cases e1
        cases p with
        | lst r ra => exact ⟨_, _, _, true, rfl, g2, .inl r.sqL, it1_fz ra⟩
      | tuple es =>
        rw [ed] at p e1
        cases e1
        cases p with
        | tup r ra => exact ⟨_, _, _, false, rfl, g2, .inl r, it1_fz ra⟩
      | _ => rw [ed] at e1; cases e1
  | .ref _ _ _, _, e => simp only [RV.iter] at e; cases e
  | .bor d, ⟨_, p⟩, e =>
    simp only [RV.iter] at e
    cases e1 : rowOf d with
    | none => rw [e1] at e; cases e
    | some ds =>
      rw [e1] at e
      cases e
      cases d with
      | list es =>
        cases e1
        cases p with
        | lst r ra => exact ⟨_, _, F, true, rfl, g, .inr r.sqL, it1_bor ra⟩
      | tuple es =>
        cases e1
        cases p with
        | tup r ra => exact ⟨_, _, F, false, rfl, g, .inr r, it1_bor ra⟩
      | _ => cases e1
theorem Still.lst {K : Frag} {H0 Fi H F : Hp} {a : Addr} {vs : List V} (h : Still K H0 Fi a vs true) (g : Gr H0 Fi H F) : SqL K H a vs := by
  rcases h with h | h
  · exact (g.ff.trans g.fh').sqL h
  · exact g.hh.sqL h
theorem Still.tup {K : Frag} {H0 Fi H F : Hp} {a : Addr} {vs : List V} (h : Still K H0 Fi a vs false) (g : Gr H0 Fi H F) : SqT K H a vs := by
  rcases h with h | h
  · exact (g.ff.trans g.fh').sqT h
  · exact g.hh.sqT h
theorem rd_inj {H : Hp} {a : Addr} {xs ys : List V} (h : Rd H a (.lst xs)) (h' : Rd H a (.lst ys)) : xs = ys := by
  rcases h with h | ⟨o, h⟩ <;> rcases h' with h' | ⟨o', h'⟩ <;> first | (rw [h] at h'; cases h'; rfl) | (rw [h] at h'; cases h')
theorem Paired.get2 {α β : Type} {G : α → β → Prop} : ∀ {l₁ : List α} {l₂ : List β} {i : Nat} {b : β}, Paired G l₁ l₂ → l₂[i]? = some b → ∃ a, l₁[i]? = some a ∧ G a b
  | _, _, _, _, .nil, e => by simp at e
  | _, _, 0, _, .cons h _, e => by simp at e; subst e; exact ⟨_, rfl, h⟩
  | _, _, i + 1, _, .cons _ r, e => by
    obtain ⟨a, h1, h2⟩ := Paired.get2 (i := i) r (by simpa using e)
    exact ⟨a, by simpa using h1, h2⟩
theorem itl_yld {K : Frag} {i : Nat} {a : Addr} {H H' : Hp} {vs : List V} {x : V} (r : SqL K H a vs) (y : (Itl K a).yld i H x H') : H' = H ∧ vs[i]? = some x := ⟨y.1, y.2 vs r⟩
theorem itt_yld {K : Frag} {i : Nat} {a : Addr} {H H' : Hp} {vs : List V} {x : V} (r : SqT K H a vs) (y : (Itt K a).yld i H x H') : H' = H ∧ vs[i]? = some x := ⟨y.1, y.2 vs r⟩
/-- for x in a row -/
theorem still_iter {K : Frag} {H0 Fi : Hp} {a : Addr} {vs : List V} {l : Bool} {ss : List Sl} {i : Nat} (h : Still K H0 Fi a vs l) (p : Paired (It1 K H0 Fi) vs ss) :
    IterOk K H0 Fi (if l = true then Itl K a else Itt K a) (gName i) [i] (ss.map fun s => [s]) := by
  have hlen := Paired.length p
  have key : ∀ (k : Nat) (s : List Sl) (A : Nat → List Addr) (σ : S) (H F : Hp) (ρ : Rho) (x : V) (Q : S → Hp → Prop), (ss.map fun s => [s])[k]? = some s → SRA K H0 Fi A σ H F ρ → vs[k]? = some x →
      (∀ A' σ' H2 F2, SRA K H0 Fi A' σ' H2 F2 (setAll [i] s ρ) → Gr H F H2 F2 → (∀ j, j ∉ [i] → σ'[j]? = σ[j]?) → (∀ j, ∀ a ∈ A' j, a ∈ A j) → σ'.length = σ.length → Q σ' H2) → gName i x σ H Q := by
    intro k s A σ H F ρ x Q e sr hx kk
    rw [List.getElem?_map] at e
    cases es : ss[k]? with
    | none => rw [es] at e; cases e
    | some t =>
      rw [es] at e
      cases e
      obtain ⟨y, hy, ht⟩ := Paired.get2 p es
      rw [hx] at hy
      cases hy
      obtain ⟨A', s', ha⟩ := sr.set (i := i) (ht.vok (H := H) sr.gr.ff) fun _ z => by cases z
      refine kk A' (σ.set i (some x)) H F s' (Gr.refl sr.gr.fh') (fun j hj => ?_) (fun j b hb => ?_) (by simp)
      · simp only [List.mem_singleton] at hj
        exact List.getElem?_set_ne (Ne.symm hj)
      · rcases ha j b hb with z | z
        · exact z
        · cases z
  cases l with
  | true =>
    simp only [if_true]
    refine ⟨fun k H F g hk => ?_, fun H F g => ?_, fun k s A σ H F ρ x H' Q e sr y kk => ?_⟩
    · have hk' : k < vs.length := by rw [hlen]; simpa using hk
      exact ⟨vs, vs[k], h.lst g, List.getElem?_eq_getElem hk'⟩
    · exact ⟨vs, h.lst g, by rw [hlen]; simp⟩
    · obtain ⟨e1, e2⟩ := itl_yld (h.lst sr.gr) y
      subst e1
      exact key k s A σ _ F ρ x Q e sr e2 kk
  | false =>
    simp only [Bool.false_eq_true, if_false]
    refine ⟨fun k H F g hk => ?_, fun H F g => ?_, fun k s A σ H F ρ x H' Q e sr y kk => ?_⟩
    · have hk' : k < vs.length := by rw [hlen]; simpa using hk
      exact ⟨vs, vs[k], h.tup g, List.getElem?_eq_getElem hk'⟩
    · exact ⟨vs, h.tup g, by rw [hlen]; simp⟩
    · obtain ⟨e1, e2⟩ := itt_yld (h.tup sr.gr) y
      subst e1
      exact key k s A σ _ F ρ x Q e sr e2 kk
section
variable {X : Cx} {tgE l : Expr} {i : Nat}
theorem iok_row {c : EC} (h : EOk X l c) : IOk X tgE l (gName i) [i] (iRow c) := fun W tk => pi_mono (pi_rowV (h W tk)) fun σ H R q => by
  obtain ⟨H0, F0, F, ρ, s, q⟩ := q
  show rdE X.K X.mg c W σ H fun x H1 => ∃ a, x = .ref a ∧ ((∃ xs, SqL X.K H1 a xs ∧ R (Itl X.K a) H1) ∨ (∃ xs, SqT X.K H1 a xs ∧ R (Itt X.K a) H1))
  unfold iRow at q
  cases e1 : c ρ with
  | stuck => rw [e1] at q; exact q.elim
  | err x => rw [e1] at q; exact rdE_err s e1 q
  | ok rv =>
    rw [e1] at q
    simp only [Res.bind] at q
    refine rdE_ok s e1 fun v H1 F1 A g o n => ?_
    cases e2 : rv.iter with
    | none => rw [e2] at q; exact q.elim
    | some ss =>
      rw [e2] at q
      simp only at q
      have s1 := s.step g
      obtain ⟨a, vs, F', lb, rfl, g2, st, p⟩ := iter_ok s1 o g n e2
      have it := still_iter (i := i) st p
      have g1' : Gr H0 F0 H1 F' := s.gr.trans g2
      cases lb with
      | true =>
        simp only [if_true] at it
        exact ⟨a, rfl, .inl ⟨vs, st.lst ⟨s1.gr.hh, Sub.refl _, fun _ h => .inl h, g2.fh'⟩, q _ H1 F' g2 it⟩⟩
      | false =>
        simp only [Bool.false_eq_true, if_false] at it
        exact ⟨a, rfl, .inr ⟨vs, st.tup ⟨s1.gr.hh, Sub.refl _, fun _ h => .inl h, g2.fh'⟩, q _ H1 F' g2 it⟩⟩
theorem range_iter {K : Frag} {H0 Fi : Hp} (lo hi : Int) : IterOk K H0 Fi (Itr lo (hi - lo).toNat) (gName i) [i] (rangeS lo hi) := by
  have hlen : (rangeS lo hi).length = (hi - lo).toNat := by simp [rangeS]
  refine ⟨fun k H F g hk => by rw [hlen] at hk; exact hk, fun H F g => by rw [hlen]; exact Nat.le_refl _, fun k s A σ H F ρ x H' Q e sr y kk => ?_⟩
  obtain ⟨e1, e2⟩ := y
  subst e1
  have es : s = [slOf (.int (lo + k))] := by
    unfold rangeS at e
    rw [List.getElem?_map] at e
    by_cases hk : k < (hi - lo).toNat
    · rw [List.getElem?_range hk] at e
      cases e; rfl
    · rw [List.getElem?_eq_none (by simp; omega)] at e
      cases e
  subst es
  subst e2
  obtain ⟨A', s', ha⟩ := sr.set (i := i) (x := .int (lo + k)) (sl := slOf (.int (lo + k))) (B := []) ⟨OR.fz (.int _), fun _ z => by cases z⟩ fun _ z => by cases z
  refine kk A' _ _ F s' (Gr.refl sr.gr.fh') (fun j hj => ?_) (fun j b hb => ?_) (by simp)
  · simp only [List.mem_singleton] at hj
    exact List.getElem?_set_ne (Ne.symm hj)
  · rcases ha j b hb with z | z
    · exact z
    · cases z
theorem iok_rng1 {a : Expr} {ca : EC} {p pos : Pos} (hm : X.mg "range" = none) (h : EOk X a ca) (hg : Gl X "range" := by rfl) (he : starEach [a] X.env = (false, eval a X.env) :: starEach [] X.env := by rfl) (hs : starEach [a] X.env = [(false, eval a X.env)] := by rfl) : IOk X tgE (.Call (.Name "range" p) [a] [] pos) (gName i) [i] (iRng1 ca) := fun W tk =>
  pi_mono (pi_range1 hg hm (pa_cons (h W tk) pa_nil he) hs) fun σ H R q => by
    obtain ⟨H0, F0, F, ρ, s, q⟩ := q
    show rdE X.K X.mg ca W σ H fun x H1 => ∃ j : Int, [x] = [.int j] ∧ -(2 ^ 62) ≤ j ∧ j < 2 ^ 62 ∧ R (Itr 0 j.toNat) H1
    unfold iRng1 at q
    cases e1 : ca ρ with
    | stuck => rw [e1] at q; exact q.elim
    | err x => rw [e1] at q; exact rdE_err s e1 q
    | ok rv =>
      rw [e1] at q
      simp only [Res.bind] at q
      refine rdE_ok s e1 fun v H1 F1 A g o n => ?_
      have pp := o.dp (s.step g)
      cases ed : rv.d with
      | int j =>
        rw [ed] at pp q
        obtain rfl := rp_int pp
        simp only at q
        by_cases hc : rngOk j = true
        · simp only [hc, if_true] at q
          have hc' := hc
          simp only [rngOk, Bool.and_eq_true, decide_eq_true_eq] at hc'
          have := range_iter (K := X.K) (H0 := H0) (Fi := F1) (i := i) 0 j
          rw [show (j - 0) = j by omega] at this
          exact ⟨j, rfl, hc'.1, hc'.2, q _ H1 F1 g this⟩
        · simp only [hc] at q
          exact q.elim
      | _ => rw [ed] at q; exact q.elim
theorem iok_rng2 {a b : Expr} {ca cb : EC} {p pos : Pos} (hm : X.mg "range" = none) (h : EOk X a ca) (h' : EOk X b cb) (hg : Gl X "range" := by rfl) (he : starEach [a, b] X.env = (false, eval a X.env) :: starEach [b] X.env := by rfl) (he2 : starEach [b] X.env = (false, eval b X.env) :: starEach [] X.env := by rfl)
    (hs : starEach [a, b] X.env = [(false, eval a X.env), (false, eval b X.env)] := by rfl) (hs2 : starEach [b] X.env = [(false, eval b X.env)] := by rfl) : IOk X tgE (.Call (.Name "range" p) [a, b] [] pos) (gName i) [i] (iRng2 ca cb) := fun W tk =>
  pi_mono (pi_range2 hg hm (pa_cons (h W tk) (pa_cons (h' W tk) pa_nil he2) he) hs hs2) fun σ H R q => by
    obtain ⟨H0, F0, F, ρ, s, q⟩ := q
    show rdE X.K X.mg ca W σ H fun x H1 => rdE X.K X.mg cb W σ H1 fun y H2 => ∃ i j : Int, [x, y] = [.int i, .int j] ∧ (-(2 ^ 62) ≤ i ∧ i < 2 ^ 62 ∧ -(2 ^ 62) ≤ j ∧ j < 2 ^ 62) ∧ R (Itr i (j - i).toNat) H2
    unfold iRng2 at q
    cases e1 : ca ρ with
    | stuck => rw [e1] at q; exact q.elim
    | err x => rw [e1] at q; exact rdE_err s e1 q
    | ok rv =>
      rw [e1] at q
      simp only [Res.bind] at q
      refine rdE_ok s e1 fun v H1 F1 A g o n => ?_
      cases e2 : cb ρ with
      | stuck => rw [e2] at q; exact q.elim
      | err x => rw [e2] at q; exact rdE_err (s.step g) e2 fun cls d H' F' g' => q cls d H' F' (g.trans g')
      | ok rw' =>
        rw [e2] at q
        simp only at q
        refine rdE_ok (s.step g) e2 fun w H2 F2 B g2 o2 n2 => ?_
        have pp := (o.gr g2).dp ((s.step g).step g2)
        have pq := o2.dp ((s.step g).step g2)
        cases ed : rv.d with
        | int k =>
          cases ee : rw'.d with
          | int j =>
            rw [ed] at pp
            rw [ee] at pq
            rw [ed, ee] at q
            obtain rfl := rp_int pp
            obtain rfl := rp_int pq
            simp only at q
            by_cases hc : rngOk k = true ∧ rngOk j = true
            · simp only [hc, and_self, if_true] at q
              have hc' := hc
              simp only [rngOk, Bool.and_eq_true, decide_eq_true_eq] at hc'
              exact ⟨k, j, rfl, ⟨hc'.1.1, hc'.1.2, hc'.2.1, hc'.2.2⟩, q _ H2 F2 (g.trans g2) (range_iter k j)⟩
            · simp only [hc] at q
              exact q.elim
          | _ => rw [ed, ee] at q; exact q.elim
        | _ => rw [ed] at q; exact q.elim
end
end VL

set_option Elab.async false
set_option linter.all false
set_option maxRecDepth 100000
set_option maxHeartbeats 4000000
/-! VL8: comprehensions, statements, loops, defs. -/
namespace VL
open PySem PySem.Spec PyProof.Rows L2

/-! ### comprehensions -/
theorem setAll_len : ∀ (tg : List Nat) (ss : List Sl) (ρ : Rho), (setAll tg ss ρ).length = ρ.length
  | [], _, _ => rfl
  | _ :: _, [], _ => rfl
  | i :: tg, s :: ss, ρ => by rw [setAll, setAll_len tg ss]; simp
theorem wipe_get {i : Nat} : ∀ {vs : List Nat} {σ : S}, i ∈ vs → i < σ.length → (wipe σ vs)[i]? = some none
  | [], _, h, _ => by cases h
  | v :: vs, σ, h, hl => by
    unfold wipe
    by_cases e : v = i
    · subst e
      exact List.getElem?_set_self (by rw [wipe_length]; exact hl)
    · rw [List.getElem?_set_ne e]
      exact wipe_get ((List.mem_cons.mp h).resolve_left (Ne.symm e)) hl
theorem wipe_ext {σ σ' : S} {vs : List Nat} (hl : σ'.length = σ.length) (h : ∀ j, j ∉ vs → σ'[j]? = σ[j]?) : wipe σ' vs = wipe σ vs := by
  apply List.ext_getElem?
  intro j
  by_cases hj : j ∈ vs
  · by_cases hs : j < σ.length
    · rw [wipe_get hj (by rw [hl]; exact hs), wipe_get hj hs]
    · rw [List.getElem?_eq_none (by rw [wipe_length, hl]; omega), List.getElem?_eq_none (by rw [wipe_length]; omega)]
  · rw [wipe_out hj, wipe_out hj, h j hj]
theorem wipe_wipe {σ : S} {vs : List Nat} : wipe (wipe σ vs) vs = wipe σ vs := wipe_ext (wipe_length _ _) fun j hj => wipe_out hj
def CompOk (X : Cx) (scope : Scope) (tg : Expr) (g : TG) (ifs : List Expr) (t : TC) (elt : Expr) (c : EC) : Prop :=
  ∀ (s : Shared) (H : Hp) (C : Addr) (cl : List (Str × Addr)) (fp : List Addr), PG (X.blk s H scope (compEnvC scope cl C X.env) fp) tg g ∧ PTs (X.blk s H scope (compEnvC scope cl C X.env) fp) ifs (rdT X.K X.mg t fun _ _ _ _ => False) ∧ EOk (X.blk s H scope (compEnvC scope cl C X.env) fp) elt c
theorem pts_nilV {X : Cx} : PTs X [] (rdT X.K X.mg VL.tYes fun _ _ _ _ => False) := ⟨fun pins s σ H Q I h => by
  obtain ⟨H0, F0, F, ρ, sr, h⟩ := h
  exact pts_nil.run pins s σ H Q I (h H F sr.refl)⟩
theorem pts_oneV {X : Cx} {e : Expr} {t : TC} (h : TOk X e t) : PTs X [e] (rdT X.K X.mg t fun _ _ _ _ => False) := pts_one (h _ takes0)
theorem comp_rd {K : Frag} {mg : Str → Option Value} {W : WX} {ic : IC} {g : TG} {tg : List Nat} {t : TC} {c : EC} {σ : S} {H : Hp} {Q : VK} (h : rdE K mg (eComp tg ic t c) W σ H Q) :
    tLc (rdI K mg g tg ic W) g (rdT K mg t fun _ _ _ _ => False) (rdE K mg c fun _ _ _ _ => False) tg σ H Q := by
  obtain ⟨H0, F0, F, ρ, s, h⟩ := h
  unfold eComp at h
  refine ⟨H0, F0, F, ρ, s, ?_⟩
  cases e1 : ic ρ with
  | stuck => rw [e1] at h; exact h.elim
  | err x => rw [e1] at h; exact h
  | ok items =>
    rw [e1] at h
    simp only [Res.bind] at h
    intro J H1 F1 gr it D hD
    by_cases hc : items.length ≤ 16777216
    case neg => simp only [hc, if_false] at h
    simp only [hc, if_true] at h
    cases e2 : compL tg t c items (wipeR tg ρ) with
    | stuck => rw [e2] at h; exact h.elim
    | err x => rw [e2] at h; exact h.elim
    | ok os =>
      rw [e2] at h
      simp only at h
      have s1 := s.step gr
      obtain ⟨A0, sa⟩ := s1.sra
      have rb : SRA K H0 F1 A0 σ H1 F1 ρ := ⟨sa.len, ⟨sa.gr.hh, Sub.refl _, fun _ h => .inl h, sa.gr.fh'⟩, sa.sl, sa.ap⟩
      obtain ⟨A1, sw, hw⟩ := rb.wipe tg
      have A1H : ∀ j, ∀ a ∈ A1 j, H1 a ≠ none ∧ F1 a = none := fun j a ha => let q := (sa.sl j).there a (hw j a ha); ⟨q.1, q.2.1⟩
      have F1D : F1 D = none := sa.gr.fh'.none hD
      have H0D : H0 D = none := sa.gr.hh.none hD
      -- the invariant
      refine ⟨fun i m H' => m = items.length - i ∧ i ≤ items.length ∧ ∃ F' acc done rest A B, Gr H1 F1 H' F' ∧ SRA K H0 F1 A (wipe σ tg) H' F' (wipeR tg ρ) ∧ (∀ j, ∀ a ∈ A j, H1 a ≠ none) ∧ H' D = some (.lst acc) ∧ F' D = none ∧ ORs K H' F' acc done B ∧ (∀ b ∈ B, H1 b = none ∧ b ≠ D) ∧
        acc.length ≤ i ∧ compL tg t c (items.drop i) (wipeR tg ρ) = .ok rest ∧ os = done ++ rest, ⟨items.length, by simp, Nat.zero_le _, F1, [], [], os, A1, [], Gr.laid sa.gr.fh' hD, ?_, fun j a ha => (A1H j a ha).1, upd_same, F1D, .nil, (fun _ z => by cases z), Nat.le_refl _, by simpa using e2, rfl⟩, ?_⟩
      · exact sw.step (Gr.laid sa.gr.fh' hD)
      · rintro i m H' ⟨rfl, hi, F', acc, dn, rest, A, B, g', sr, hA, hDacc, hFD, od, hB, hlen, er, eo⟩
        by_cases hlt : i < items.length
        · refine .inr ⟨it.go i H' F' sr.gr hlt, fun H'' => ∃ m', m' < items.length - i ∧ (m' = items.length - (i + 1) ∧ i + 1 ≤ items.length ∧ ∃ F' acc done rest A B, Gr H1 F1 H'' F' ∧ SRA K H0 F1 A (wipe σ tg) H'' F' (wipeR tg ρ) ∧ (∀ j, ∀ a ∈ A j, H1 a ≠ none) ∧ H'' D = some (.lst acc) ∧ F' D = none ∧ ORs K H'' F' acc done B ∧ (∀ b ∈ B, H1 b = none ∧ b ≠ D) ∧
            acc.length ≤ i + 1 ∧ compL tg t c (items.drop (i + 1)) (wipeR tg ρ) = .ok rest ∧ os = done ++ rest), fun H'' h => h, fun x H2 y => ?_⟩
          have hs : items[i]? = some items[i] := List.getElem?_eq_getElem hlt
          have ed : items.drop i = items[i] :: items.drop (i + 1) := List.drop_eq_getElem_cons hlt
          rw [ed] at er
          refine it.turn i _ A _ H' F' _ x H2 _ hs sr y fun A3 σ3 H3 F3 s3 g3 e3 a3 l3 => ⟨?_, ?_⟩
          · have : wipe σ3 tg = wipe (wipe σ tg) tg := wipe_ext l3 e3
            rw [this, wipe_wipe]
          unfold compL at er
          have g13 := g'.trans g3
          have D3 : H3 D = some (.lst acc) := g3.hh D _ hDacc
          have hD' : H' D ≠ none := by rw [hDacc]; simp
          refine ⟨H0, F1, F3, _, s3.sr, ?_⟩
          cases et : t (setAll tg items[i] (wipeR tg ρ)) with
          | stuck => rw [et] at er; cases er
          | err x => rw [et] at er; cases er
          | ok b =>
            rw [et] at er
            intro H4 F4 g4
            have D4 : H4 D = some (.lst acc) := g4.hh D _ D3
            have F4D : F4 D = none := (g3.trans g4).stay hD' hFD
            -- the outer slots' state at a later heap
            have outer : ∀ {H5 F5 : Hp}, Gr H' F' H5 F5 → SRA K H0 F1 A (wipe σ tg) H5 F5 (wipeR tg ρ) := fun g => sr.step g
            cases b with
            | false =>
              simp only at er
              simp only [Bool.false_eq_true, if_false]
              exact ⟨_, by omega, rfl, by omega, F4, acc, dn, rest, A, B, g13.trans g4, outer (g3.trans g4), hA, D4, F4D, od.gr (g3.trans g4), hB, by omega, er, eo⟩
            | true =>
              simp only at er
              simp only [if_true]
              refine ⟨H0, F1, F4, _, (s3.step g4).sr, ?_⟩
              cases ee : c (setAll tg items[i] (wipeR tg ρ)) with
              | stuck => rw [ee] at er; cases er
              | err x => rw [ee] at er; cases er
              | ok rv =>
                rw [ee] at er
                simp only at er
                cases eow : rv.ow with
                | none => rw [eow] at er; cases er
                | some o =>
                  rw [eow] at er
                  simp only at er
                  cases e5 : compL tg t c (items.drop (i + 1)) (wipeR tg ρ) with
                  | stuck => rw [e5] at er; cases er
                  | err x => rw [e5] at er; cases er
                  | ok rest' =>
                    rw [e5] at er
                    cases er
                    intro v H5 F5 C g5 ov nC
                    have rvo : rv = .val o := by cases rv with
                      | val w => cases eow; rfl
                      | _ => cases eow
                    subst rvo
                    have g35 := (g3.trans g4).trans g5
                    have D5 : H5 D = some (.lst acc) := g5.hh D _ D4
                    have F5D : F5 D = none := g35.stay hD' hFD
                    have CD : ∀ b ∈ C, b ≠ D := fun b hb e => by
                      have := nC b hb
                      rw [e, D4] at this
                      cases this
                    have CH1 : ∀ b ∈ C, H1 b = none := fun b hb => (g13.trans g4).hh.none (nC b hb)
                    -- D is written
                    have keep : ∀ {a : Addr}, a ≠ D → upd H5 D (.lst (acc ++ [v])) a = H5 a := fun h => upd_ne h
                    refine ⟨acc, D5, by rw [sizeLine_eq]; omega, _, by omega, rfl, by omega, F5, acc ++ [v], dn ++ [o], rest', A, B ++ (C ++ []), ?_, ?_, hA, upd_same, F5D, ?_, ?_, by simp; omega, rfl, by rw [eo]; simp⟩
                    · have G := g13.trans (g4.trans g5)
                      exact ⟨fun a u e => by rw [keep (ne_of_none e hD)]; exact G.hh a u e, G.ff, G.fn, fun a u e => by
                        rw [keep (fun z => by rw [z, F5D] at e; cases e)]
                        exact G.fh' a u e⟩
                    · have S5 := outer g35
                      refine ⟨S5.len, ⟨fun a u e => by rw [keep (ne_of_none e H0D)]; exact S5.gr.hh a u e, S5.gr.ff, S5.gr.fn, fun a u e => by
                        rw [keep (fun z => by rw [z, F5D] at e; cases e)]
                        exact S5.gr.fh' a u e⟩, fun j => ?_, S5.ap⟩
                      have q := S5.sl j
                      have nD : ∀ a ∈ A j, a ≠ D := fun a ha e => by
                        have := hA j a ha
                        rw [e] at this
                        exact this hD
                      match op : (wipeR tg ρ)[j]?, q with
                      | some (some (.own ow)), ⟨v, e0, q, q2⟩ => exact ⟨v, e0, q.keep (Sub.refl _) fun a ha => ⟨keep (nD a ha), (q.there a ha).2⟩, q2⟩
                      | some (some (.bor d)), q => exact q
                      | some none, q => exact q
                      | none, q => exact q
                    · refine ORs.append ((od.gr g35).keep (Sub.refl _) fun a ha => ⟨keep (hB a ha).2, ((od.gr g35).there a ha).2⟩) (.cons (OR.keep (Sub.refl _) ov fun a ha => ⟨keep (CD a ha), (OR.there ov a ha).2⟩) .nil fun _ _ z => by cases z) fun a ha hb => ?_
                      have hb' : a ∈ C := by simpa using hb
                      have := (od.gr (g3.trans g4)).there a ha
                      exact this.1 (nC a hb')
                    · intro b hb
                      rcases List.mem_append.mp hb with z | z
                      · exact hB b z
                      · have z' : b ∈ C := by simpa using z
                        exact ⟨CH1 b z', CD b z'⟩
        · have e : i = items.length := by omega
          subst e
          refine .inl ⟨it.stop H' F' sr.gr, ?_⟩
          rw [List.drop_length] at er
          simp only [compL] at er
          cases er
          rw [List.append_nil] at eo
          subst eo
          refine h (.ref D) H' F' (D :: B) (gr.trans g') (OR.ls hDacc hFD (fun hb => (hB D hb).2 rfl) od) fun a ha => ?_
          rcases List.mem_cons.mp ha with rfl | ha
          · exact gr.hh.none hD
          · exact gr.hh.none (hB a ha).1
section
variable {X : Cx} {elt tgE iter : Expr} {ifs : List Expr} {scope : Scope} {own : List (Str × Nat)} {pos : Pos} {g : TG} {tg : List Nat} {ic : IC} {t : TC} {c : EC}
theorem eok_comp (hc : X.calm = true) (hN : X.N.Nodup) (hi : IOk X tgE iter g tg ic) (ok : BlkOk X.N X.env.scope scope own) (hown : own.map (·.2) = tg) (hb : CompOk X scope tgE g ifs t elt c) (hs : ∀ x, foldedSetIterable iter X.env x = pure x := by intro _; rfl) :
    EOk X (.ListComp elt [⟨tgE, iter, ifs, 0⟩] scope pos) (eComp tg ic t c) := fun W tk => by
  have := pe_lc (pos := pos) (g := g) (tt := rdT X.K X.mg t fun _ _ _ _ => False) (te := rdE X.K X.mg c fun _ _ _ _ => False) hc hN (hi W tk) ok (fun s H C cl fp => (hb s H C cl fp).1) (fun s H C cl fp => (hb s H C cl fp).2.1) (fun s H C cl fp => (hb s H C cl fp).2.2 _ takes0) hs
  rw [hown] at this
  exact pe_mono this fun σ H Q h => comp_rd h

/-! ### statements -/
def GoodS (K : Frag) (mg : Str → Option Value) (H0 F0 : Hp) (W : WX) (D : Ends) : SRes → Prop
  | .next ρ' => ∀ σ' H' F', SR K H0 F0 σ' H' F' ρ' → D.nx σ' H'
  | .brk ρ' => ∀ σ' H' F', SR K H0 F0 σ' H' F' ρ' → D.bk σ' H'
  | .cont ρ' => ∀ σ' H' F', SR K H0 F0 σ' H' F' ρ' → D.ct σ' H'
  | .ret ow => ∀ v H' F' A, Gr H0 F0 H' F' → OR K H' F' v ow A → (∀ a ∈ A, H0 a = none) → D.rt v H'
  | .err x ρ' => ∀ cls d σ' H' F', SR K H0 F0 σ' H' F' ρ' → XOk K mg F' H' cls d x → W cls d σ' H'
  | .stuck => False
def rdS (K : Frag) (mg : Str → Option Value) (c : SC) (W : WX) : TS := fun D σ H => ∃ H0 F0 F ρ, SR K H0 F0 σ H F ρ ∧ GoodS K mg H0 F0 W D (c ρ)
def SOk (X : Cx) (st : Stmt) (c : SC) : Prop := ∀ W, Takes X W → PS X st (rdS X.K X.mg c W)
def BOk (X : Cx) (st : List Stmt) (c : SC) : Prop := ∀ W, Takes X W → PSs X st (rdS X.K X.mg c W)
theorem ps_mono {st : Stmt} {u u' : TS} (h : PS X st u) (k : ∀ D σ H, u' D σ H → u D σ H) : PS X st u' := ⟨fun pins s σ H D I q => h.run pins s σ H D I (k D σ H q)⟩
theorem pss_mono {st : List Stmt} {u u' : TS} (h : PSs X st u) (k : ∀ D σ H, u' D σ H → u D σ H) : PSs X st u' := ⟨fun pins s σ H D I q => h.run pins s σ H D I (k D σ H q)⟩
variable {st : Stmt} {rest : List Stmt} {a b : SC} {e : Expr} {ce : EC} {tt : TC}
theorem bok_nil : BOk X [] sPass := fun W tk => pss_mono pss_nil fun D σ H ⟨H0, F0, F, ρ, s, h⟩ => h σ H F s
theorem bok_one (h : SOk X st a) : BOk X [st] a := fun W tk => pss_one (h W tk)
theorem bok_cons (h : SOk X st a) (r : BOk X rest b) : BOk X (st :: rest) (sSeq a b) := fun W tk => pss_mono (pss_cons (h W tk) (r W tk)) fun D σ H ⟨H0, F0, F, ρ, s, h⟩ => by
  refine ⟨H0, F0, F, ρ, s, ?_⟩
  unfold sSeq at h
  cases e1 : a ρ with
  | next ρ' =>
    rw [e1] at h
    exact fun σ' H' F' s' => ⟨H0, F0, F', ρ', s', h⟩
  | ret ow => rw [e1] at h; exact h
  | brk ρ' => rw [e1] at h; exact h
  | cont ρ' => rw [e1] at h; exact h
  | err x ρ' => rw [e1] at h; exact h
  | stuck => rw [e1] at h; exact h.elim
/-- a statement that is never reached -/
theorem sok_stuck : SOk X st sStuck := fun W tk => ps_mono ps_never fun D σ H ⟨H0, F0, F, ρ, s, h⟩ => h
theorem sok_pass : SOk X (.Pass pos) sPass := fun W tk => ps_mono ps_pass fun D σ H ⟨H0, F0, F, ρ, s, h⟩ => h σ H F s
/-- a slot frozen ahead of a statement -/
theorem SR.frzSlot {K : Frag} {H0 F0 H F : Hp} {σ : S} {ρ : Rho} (s : SR K H0 F0 σ H F ρ) (i : Nat) : ∃ F', SR K H0 F0 σ H F' (ρ.set i (frzSl ρ[i]?)) := by
  obtain ⟨A, sa⟩ := s.sra
  have q := sa.sl i
  have same : (ρ.set i (frzSl ρ[i]?) = ρ) → ∃ F', SR K H0 F0 σ H F' (ρ.set i (frzSl ρ[i]?)) := fun e => ⟨F, by rw [e]; exact s⟩
  match o : ρ[i]?, q with
  | none, _ => exact ⟨F, by rw [List.set_eq_of_length_le (List.getElem?_eq_none_iff.mp o)]; exact s⟩
  | some none, _ =>
    refine ⟨F, ?_⟩
    have : ρ.set i (frzSl (some none)) = ρ := by
      obtain ⟨h1, h2⟩ := List.getElem?_eq_some_iff.mp o
      show ρ.set i none = ρ
      rw [← h2, List.set_getElem_self]
    rw [this]; exact s
  | some (some (.bor d)), _ =>
    refine ⟨F, ?_⟩
    have : ρ.set i (frzSl (some (some (.bor d)))) = ρ := by
      obtain ⟨h1, h2⟩ := List.getElem?_eq_some_iff.mp o
      show ρ.set i (some (.bor d)) = ρ
      rw [← h2, List.set_getElem_self]
    rw [this]; exact s
  | some (some (.own ow)), ⟨v, e1, o1, o2⟩ =>
    have hi : i < ρ.length := (List.getElem?_eq_some_iff.mp o).1
    have fA : ∀ a ∈ A i, F a = none := fun a ha => (o1.there a ha).2
    refine ⟨frz F H (A i), ⟨by simp [sa.len], sa.gr.frozen o2 fA, fun j => if j = i then [] else A j, fun j => ?_, fun j k hjk a ha hb => ?_⟩⟩
    · by_cases ej : j = i
      · subst ej
        simp only [if_true, List.getElem?_set_self hi]
        exact ⟨v, e1, OR.fz o1.freeze, fun _ z => by cases z⟩
      · have qj := sa.sl j
        simp only [ej, if_false, List.getElem?_set_ne (Ne.symm ej)]
        match oj : ρ[j]?, qj with
        | some (some (.own ow')), ⟨v', e1', q', q2'⟩ =>
          exact ⟨v', e1', q'.keep (frz_sub fA) fun a ha => ⟨rfl, by rw [frz_out (sa.ap j i ej a ha)]; exact (q'.there a ha).2⟩, q2'⟩
        | some (some (.bor d)), q' => exact q'
        | some none, q' => exact q'
        | none, q' => exact q'
    · by_cases ej : j = i
      · simp only [ej, if_true] at ha; cases ha
      · by_cases ek : k = i
        · simp only [ek, if_true] at hb; cases hb
        · simp only [ej, ek, if_false] at ha hb
          exact sa.ap j k hjk a ha hb
theorem sok_frz {i : Nat} (h : SOk X st a) : SOk X st (sFrz i a) := fun W tk => ps_mono (h W tk) fun D σ H ⟨H0, F0, F, ρ, s, h⟩ => by
  obtain ⟨F', s'⟩ := s.frzSlot i
  exact ⟨H0, F0, F', _, s', h⟩
theorem sok_if {ss rr : List Stmt} (ht : TOk X e tt) (ha : BOk X ss a) (hb : BOk X rr b) : SOk X (.If e ss rr pos) (sIf tt a b) := fun W tk => ps_mono (ps_if (ht W tk) (ha W tk) (hb W tk)) fun D σ H ⟨H0, F0, F, ρ, s, h⟩ => by
  show rdT X.K X.mg tt W σ H fun c H1 => if c = true then rdS X.K X.mg a W D σ H1 else rdS X.K X.mg b W D σ H1
  unfold sIf at h
  cases e1 : tt ρ with
  | stuck => rw [e1] at h; exact h.elim
  | err x => rw [e1] at h; exact rdT_err s e1 fun cls d H' F' g xo => h cls d σ H' F' (s.step g) xo
  | ok c =>
    rw [e1] at h
    refine rdT_ok s e1 fun H1 F1 g => ?_
    cases c with
    | true => exact ⟨H0, F0, F1, ρ, s.step g, h⟩
    | false => exact ⟨H0, F0, F1, ρ, s.step g, h⟩
theorem sok_ret (h : EOk X e ce) : SOk X (.Return (some e) pos) (sRet ce) := fun W tk => ps_mono (ps_ret (h W tk)) fun D σ H ⟨H0, F0, F, ρ, s, h⟩ => by
  show rdE X.K X.mg ce W σ H D.rt
  unfold sRet at h
  cases e1 : ce ρ with
  | stuck => rw [e1] at h; exact h.elim
  | err x => rw [e1] at h; exact rdE_err s e1 fun cls d H' F' g xo => h cls d σ H' F' (s.step g) xo
  | ok rv =>
    rw [e1] at h
    refine rdE_ok s e1 fun v H1 F1 A g o n => ?_
    have s1 := s.step g
    match rv, o, h with
    | .val ow, o, h => exact h v H1 F1 A s1.gr o fun a ha => s.gr.hh.none (n a ha)
    | .ref i [] ow, ⟨_, ⟨v0, e0, ev⟩, ⟨ow0, eo, ea⟩, _⟩, h =>
      have ev' : v = v0 := ev
      subst ev'
      have ea' : ow0 = ow := by cases ow0 <;> (simp only [Ow.at] at ea; cases ea; rfl)
      subst ea'
      obtain ⟨A', sa⟩ := s1.sra
      have q := sa.sl i
      rw [eo] at q
      obtain ⟨v', e1', q1, q2⟩ := q
      rw [e0] at e1'
      cases e1'
      exact h v H1 F1 _ s1.gr q1 q2
    | .ref i (_ :: _) ow, _, h => exact h.elim
    | .bor d, _, h => exact h.elim
theorem sok_retN : SOk X (.Return none pos) (fun _ => .ret (.fz .none)) := fun W tk => ps_mono ps_retN fun D σ H ⟨H0, F0, F, ρ, s, h⟩ => h .non H F [] s.gr (OR.fz .non) fun _ z => by cases z
/-- name = e -/
theorem set_rd {W : WX} {i : Nat} {K : Frag} {mg : Str → Option Value} {D : Ends} {σ : S} {H : Hp} (h : rdS K mg (sSet i ce) W D σ H) : rdE K mg ce W σ H fun x H1 => D.nx (σ.set i (some x)) H1 := by
  obtain ⟨H0, F0, F, ρ, s, h⟩ := h
  unfold sSet at h
  cases e1 : ce ρ with
  | stuck => rw [e1] at h; exact h.elim
  | err x => rw [e1] at h; exact rdE_err s e1 fun cls d H' F' g xo => h cls d σ H' F' (s.step g) xo
  | ok rv =>
    rw [e1] at h
    refine rdE_ok s e1 fun v H1 F1 A g o n => ?_
    obtain ⟨A0, sa0⟩ := s.sra
    have sa := sa0.step g
    cases rv with
    | val ow =>
      obtain ⟨A', s', _⟩ := sa.set (i := i) (x := v) (sl := .own ow) (B := A) ⟨o, fun b hb => s.gr.hh.none (n b hb)⟩ fun b hb j hj => ((sa0.sl j).there b hj).1 (n b hb)
      exact h _ H1 F1 s'.sr
    | ref _ _ _ => exact h.elim
    | bor d =>
      obtain ⟨e0, o⟩ := o
      obtain ⟨A', s', _⟩ := sa.set (i := i) (x := v) (sl := .bor d) (B := []) ⟨rfl, o⟩ fun b hb => by cases hb
      exact h _ H1 F1 s'.sr
end
end VL

set_option Elab.async false
set_option linter.all false
set_option maxRecDepth 100000
set_option maxHeartbeats 4000000
/-! VL9: assignments, loops, stores, defs. -/
namespace VL
open PySem PySem.Spec PyProof.Rows L2
section
variable {X : Cx} {elt tgE iter : Expr} {ifs : List Expr} {scope : Scope} {own : List (Str × Nat)} {pos : Pos} {g : TG} {tg : List Nat} {ic : IC} {t : TC} {c : EC} {st : Stmt} {rest : List Stmt} {a b : SC} {e o : Expr} {ce co : EC} {tt : TC} {i : Nat} {x : Str}
theorem sok_set {p2 : Pos} (hN : X.N.Nodup) (hi : X.N[i]? = some x) (hx : Loc X.env.scope x) (h : EOk X e ce) (hs : swapsWith e (some (.Name x p2)) pos.line X.env = pure false := by rfl) (hf : X.fn x = true ∨ X.env.scope.names.lookup x = some .local := by first | exact .inl rfl | exact .inr rfl | assumption) :
    SOk X (.Assign [.Name x p2] e pos) (sSet i ce) := fun W tk => ps_mono (ps_set hN hi hx (h W tk) hs hf) fun D σ H h => set_rd h
theorem sok_setLc {py spos : Pos} {y : Str} (hc : X.calm = true) (hN : X.N.Nodup) (hy : X.N[i]? = some y) (hyl : X.env.scope.names.lookup y = some .local) (hsw : swapsWith (.ListComp elt [⟨tgE, iter, ifs, 0⟩] scope pos) (some (.Name y py)) spos.line X.env = pure true)
    (hi : IOk X tgE iter g tg ic) (ok : BlkOk X.N X.env.scope scope own) (hown : own.map (·.2) = tg) (hb : CompOk X scope tgE g ifs t elt c) (hs : ∀ x, foldedSetIterable iter X.env x = pure x := by intro _; rfl) :
    SOk X (.Assign [.Name y py] (.ListComp elt [⟨tgE, iter, ifs, 0⟩] scope pos) spos) (sSet i (eComp tg ic t c)) := fun W tk => by
  have := ps_setLc (pos := pos) (spos := spos) (py := py) (g := g) (tt := rdT X.K X.mg t fun _ _ _ _ => False) (te := rdE X.K X.mg c fun _ _ _ _ => False) hc hN hy hyl hsw (hi W tk) ok (fun s H C cl fp => (hb s H C cl fp).1) (fun s H C cl fp => (hb s H C cl fp).2.1) (fun s H C cl fp => (hb s H C cl fp).2.2 _ takes0) hs
  rw [hown] at this
  exact ps_mono this fun D σ H h => comp_rd (set_rd h)
/-- a, b, .. = a row -/
def gRow (K : Frag) (n : Nat) (t : TGs) : TG := fun v σ H Q => ∃ a xs, v = .ref a ∧ (SqL K H a xs ∨ SqT K H a xs) ∧ xs.length = n ∧ t xs σ H Q
theorem pg_row {es : List Expr} {k : Nat} {t : TGs} {n : Nat} (hc : X.calm = true) (h : PGs X es t) (hn : (assignEach es X.env).length = n := by rfl) (hst : (assignEach es X.env).findIdx? (·.1) = none := by rfl) : PG X (.Tuple es k pos) (gRow X.K n t) := by
  refine ⟨fun pins s σ H v u Q I r hw => ?_⟩
  obtain ⟨a, xs, e1, hq, hl, hw⟩ := hw
  rcases hq with hq | hq
  · exact (pg_lst hc h hn hst).run pins s σ H v u Q I r ⟨a, xs, e1, hq, hl, hw⟩
  · exact (pg_tup hc h hn hst).run pins s σ H v u Q I r ⟨a, xs, e1, hq, hl, hw⟩
theorem voks_fz {K : Frag} {H0 H F : Hp} : ∀ {ds : List D} {vs : List V}, RpAll K F vs ds → VOks K H0 H F vs [] (ds.map slOf)
  | [], _, .nil => .nil
  | _ :: _, _, .cons h r => .cons (B := []) (C := []) ⟨OR.fz h, fun _ z => by cases z⟩ (voks_fz r) fun _ z => by cases z
theorem voks_bor {K : Frag} {H0 H F : Hp} : ∀ {ds : List D} {vs : List V}, RpAll K H0 vs ds → VOks K H0 H F vs [] (ds.map slBor)
  | [], _, .nil => .nil
  | d :: _, _, .cons h r => .cons (B := []) (C := []) (by
      unfold slBor
      by_cases hs : scal d = true
      · rw [if_pos hs, h.scal_eq hs]; exact ⟨OR.fz (Rp.scal F hs), fun _ z => by cases z⟩
      · rw [if_neg hs]; exact ⟨rfl, h⟩) (voks_bor r) fun _ z => by cases z
theorem voks_own {K : Frag} {H0 H F : Hp} : ∀ {xs : List Ow} {vs : List V} {A : List Addr}, ORs K H F vs xs A → (∀ a ∈ A, H0 a = none) → VOks K H0 H F vs A (xs.map Sl.own)
  | [], _, _, .nil, _ => .nil
  | _ :: _, _, _, .cons h r n, k => .cons ⟨h, fun b hb => k b (List.mem_append_left _ hb)⟩ (voks_own r fun b hb => k b (List.mem_append_right _ hb)) n
theorem parts_ok {K : Frag} {H0 F0 H F : Hp} {σ : S} {ρ : Rho} {v : V} {A : List Addr} {rv : RV} {ss : List Sl} (s : SR K H0 F0 σ H F ρ) (h : RVOk K H0 H F σ ρ v A rv) (hA : ∀ a ∈ A, H0 a = none) (e : rv.parts = some ss) :
    ∃ a vs B, v = .ref a ∧ (SqL K H a vs ∨ SqT K H a vs) ∧ VOks K H0 H F vs B ss ∧ ∀ b ∈ B, b ∈ A := by
  match rv, h, e with
  | .val (.fz (.tuple ds)), h, e =>
    cases e
    cases (OR.fz_inv h).2 with
    | tup r ra => exact ⟨_, _, [], rfl, .inr (s.sub.sqT r), voks_fz ra, fun _ z => by cases z⟩
  | .val (.fz (.list ds)), h, e =>
    cases e
    cases (OR.fz_inv h).2 with
    | lst r ra => exact ⟨_, _, [], rfl, .inl (s.sub.lk r).sqL, voks_fz ra, fun _ z => by cases z⟩
  | .val (.ls xs), h, e =>
    cases e
    obtain ⟨a, vs, B, rfl, rfl, h1, _, _, o⟩ := OR.ls_inv h
    exact ⟨a, vs, B, rfl, .inl (.of h1), voks_own o fun b hb => hA b (List.mem_cons_of_mem _ hb), fun b hb => List.mem_cons_of_mem _ hb⟩
  | .val (.tp xs), h, e =>
    cases e
    obtain ⟨a, vs, B, rfl, rfl, h1, _, _, o⟩ := OR.tp_inv h
    exact ⟨a, vs, B, rfl, .inr (.of h1), voks_own o fun b hb => hA b (List.mem_cons_of_mem _ hb), fun b hb => List.mem_cons_of_mem _ hb⟩
  | .bor (.tuple ds), ⟨_, p⟩, e =>
    cases e
    cases p with
    | tup r ra => exact ⟨_, _, [], rfl, .inr (s.gr.hh.sqT r), voks_bor ra, fun _ z => by cases z⟩
  | .bor (.list ds), ⟨_, p⟩, e =>
    cases e
    cases p with
    | lst r ra => exact ⟨_, _, [], rfl, .inl (s.gr.hh.lk r).sqL, voks_bor ra, fun _ z => by cases z⟩
theorem VOks.len {K : Frag} {H0 H F : Hp} : ∀ {xs : List V} {B : List Addr} {ss : List Sl}, VOks K H0 H F xs B ss → xs.length = ss.length
  | _, _, _, .nil => rfl
  | _, _, _, .cons _ r _ => by simp [VOks.len r]
theorem sok_unp {es : List Expr} {k : Nat} {p2 : Pos} (hc : X.calm = true) (h : EOk X e ce) (hg : PGs X es (gNames tg)) (hn : (assignEach es X.env).length = tg.length := by rfl) (hst : (assignEach es X.env).findIdx? (·.1) = none := by rfl)
    (hs : swapsWithSole [.Tuple es k p2] e pos.line X.env = pure false := by rfl) (hw : swappedStores [.Tuple es k p2] e X.env = pure none := by rfl) (h1 : (assignEach [.Tuple es k p2] X.env).map (·.2) = [assign (.Tuple es k p2) X.env] := by rfl) :
    SOk X (.Assign [.Tuple es k p2] e pos) (sUnp tg ce) := fun W tk => ps_mono (ps_asg (h W tk) (pg_row hc hg hn hst) hs hw h1) fun D σ H ⟨H0, F0, F, ρ, s, h⟩ => by
  show rdE X.K X.mg ce W σ H fun x H1 => gRow X.K tg.length (gNames tg) x σ H1 D.nx
  unfold sUnp at h
  cases e1 : ce ρ with
  | stuck => rw [e1] at h; exact h.elim
  | err x => rw [e1] at h; exact rdE_err s e1 fun cls d H' F' g xo => h cls d σ H' F' (s.step g) xo
  | ok rv =>
    rw [e1] at h
    simp only at h
    refine rdE_ok s e1 fun v H1 F1 A gg o n => ?_
    obtain ⟨A0, sa0⟩ := s.sra
    have sa := sa0.step gg
    cases e2 : rv.parts with
    | none => rw [e2] at h; exact h.elim
    | some ss =>
      rw [e2] at h
      simp only at h
      by_cases hl : ss.length = tg.length
      · simp only [hl, if_true] at h
        obtain ⟨a, vs, B, rfl, hr, vo, hB⟩ := parts_ok (s.step gg) o (fun a ha => s.gr.hh.none (n a ha)) e2
        refine ⟨a, vs, rfl, hr, by rw [vo.len, hl], gNames_ok sa vo hl (fun b hb j hj => ((sa0.sl j).there b hj).1 (n b (hB b hb))) fun σ' A' s' _ _ _ => h σ' H1 F1 s'.sr⟩
      · simp only [hl, if_false] at h
        exact h.elim
/-! ### loops -/
theorem GoodS.rebase {K : Frag} {mg : Str → Option Value} {H0 F0 F1 : Hp} {W : WX} {D : Ends} (hf : Sub F0 F1) (hn : ∀ a, F1 a ≠ none → F0 a ≠ none ∨ H0 a = none) {r : SRes} (h : GoodS K mg H0 F0 W D r) : GoodS K mg H0 F1 W D r := by
  have G : ∀ {H' F' : Hp}, Gr H0 F1 H' F' → Gr H0 F0 H' F' := fun g => ⟨g.hh, hf.trans g.ff, fun a h => by
    rcases g.fn a h with z | z
    · exact hn a z
    · exact .inr z, g.fh'⟩
  have SS : ∀ {σ' : S} {H' F' : Hp} {ρ' : Rho}, SR K H0 F1 σ' H' F' ρ' → SR K H0 F0 σ' H' F' ρ' := fun s => ⟨s.len, G s.gr, s.sl⟩
  cases r with
  | next ρ' => exact fun σ' H' F' s => h σ' H' F' (SS s)
  | brk ρ' => exact fun σ' H' F' s => h σ' H' F' (SS s)
  | cont ρ' => exact fun σ' H' F' s => h σ' H' F' (SS s)
  | ret ow => exact fun v H' F' A g o n => h v H' F' A (G g) o n
  | err x ρ' => exact fun cls d σ' H' F' s xo => h cls d σ' H' F' (SS s) xo
  | stuck => exact h
theorem sok_for {body : List Stmt} (hp : PassesOwn (model X.prog X.w) X.A X.env X.xe) (hc : X.calm = true) (hi : IOk X tgE iter g tg ic) (hg : PG X tgE g) (hb : BOk X body b) (hs : ∀ x, foldedSetIterable iter X.env x = pure x := by intro _; rfl) :
    SOk X (.For tgE iter body [] pos) (sFor tg ic b) := fun W tk => ps_mono (ps_for hp hc (hi W tk) hg (hb W tk) hs) fun D σ H ⟨H0, F0, F, ρ, s, h⟩ => by
  refine ⟨H0, F0, F, ρ, s, ?_⟩
  unfold sFor at h
  cases e1 : ic ρ with
  | stuck => rw [e1] at h; exact h.elim
  | err x => rw [e1] at h; exact fun cls d H' F' gg xo => h cls d σ H' F' (s.step gg) xo
  | ok items =>
    rw [e1] at h
    simp only at h
    intro J H1 F1 gg it
    have s1 := s.step gg
    have h' := h.rebase (F1 := F1) s1.gr.ff s1.gr.fn
    have rb : SR X.K H0 F1 σ H1 F1 ρ := ⟨s1.len, ⟨s1.gr.hh, Sub.refl _, fun _ h => .inl h, s1.gr.fh'⟩, s1.sl⟩
    refine ⟨fun i m σ' H' => m = items.length - i ∧ i ≤ items.length ∧ ∃ F' ρ', SR X.K H0 F1 σ' H' F' ρ' ∧ GoodS X.K X.mg H0 F1 W D (forL tg b (items.drop i) ρ'), ⟨items.length, by simp, Nat.zero_le _, F1, ρ, rb, by simpa using h'⟩, ?_⟩
    rintro i m σ' H' ⟨rfl, hi', F', ρ', sr, q⟩
    by_cases hlt : i < items.length
    · have hs : items[i]? = some items[i] := List.getElem?_eq_getElem hlt
      have ed : items.drop i = items[i] :: items.drop (i + 1) := List.drop_eq_getElem_cons hlt
      rw [ed] at q
      obtain ⟨A, sra⟩ := sr.sra
      refine .inr ⟨it.go i H' F' sr.gr hlt, fun σ2 H2 => ∃ F' ρ', SR X.K H0 F1 σ2 H2 F' ρ' ∧ GoodS X.K X.mg H0 F1 W D (forL tg b (items.drop (i + 1)) ρ'), fun σ2 H2 z => ⟨items.length - (i + 1), by omega, rfl, by omega, z⟩, fun x H2 y => ?_⟩
      refine it.turn i _ A σ' H' F' ρ' x H2 _ hs sra y fun A3 σ3 H3 F3 s3 g3 _ _ _ => ⟨H0, F1, F3, _, s3.sr, ?_⟩
      unfold forL at q
      cases eb : b (setAll tg items[i] ρ') with
      | next ρ2 => rw [eb] at q; exact fun σ4 H4 F4 s4 => ⟨F4, ρ2, s4, q⟩
      | cont ρ2 => rw [eb] at q; exact fun σ4 H4 F4 s4 => ⟨F4, ρ2, s4, q⟩
      | brk ρ2 => rw [eb] at q; exact q
      | ret ow => rw [eb] at q; exact q
      | err x ρ2 => rw [eb] at q; exact q
      | stuck => rw [eb] at q; exact q.elim
    · have e : i = items.length := by omega
      subst e
      rw [List.drop_length] at q
      exact .inl ⟨it.stop H' F' sr.gr, q σ' H' F' sr⟩
theorem sok_while {body : List Stmt} (hp : PassesOwn (model X.prog X.w) X.A X.env X.xe) (ht : TOk X e tt) (hb : BOk X body b) : SOk X (.While e body [] pos) (sWhile tt b) := fun W tk => ps_mono (ps_while hp (ht W tk) (hb W tk)) fun D σ H ⟨H0, F0, F, ρ, s, h⟩ => by
  unfold sWhile at h
  refine ⟨fun m σ' H' => ∃ F' ρ', SR X.K H0 F0 σ' H' F' ρ' ∧ GoodS X.K X.mg H0 F0 W D (whileN tt b m ρ'), ⟨_, F, ρ, s, h⟩, ?_⟩
  rintro m σ' H' ⟨F', ρ', sr, q⟩
  cases m with
  | zero => exact q.elim
  | succ m =>
    unfold whileN at q
    show rdT X.K X.mg tt W σ' H' fun c H1 => if c = true then _ else _
    cases e1 : tt ρ' with
    | stuck => rw [e1] at q; exact q.elim
    | err x => rw [e1] at q; exact rdT_err sr e1 fun cls d H' F' g xo => q cls d _ H' F' (sr.step g) xo
    | ok c =>
      rw [e1] at q
      refine rdT_ok sr e1 fun H1 F1 gg => ?_
      cases c with
      | false =>
        simp only [Bool.false_eq_true, if_false]
        exact q σ' H1 F1 (sr.step gg)
      | true =>
        simp only [if_true]
        refine ⟨fun σ2 H2 => ∃ F' ρ', SR X.K H0 F0 σ2 H2 F' ρ' ∧ GoodS X.K X.mg H0 F0 W D (whileN tt b m ρ'), fun σ2 H2 z => ⟨m, Nat.lt_succ_self _, z⟩, ⟨H0, F0, F1, ρ', sr.step gg, ?_⟩⟩
        simp only at q
        cases eb : b ρ' with
        | next ρ2 => rw [eb] at q; exact fun σ4 H4 F4 s4 => ⟨F4, ρ2, s4, q⟩
        | cont ρ2 => rw [eb] at q; exact fun σ4 H4 F4 s4 => ⟨F4, ρ2, s4, q⟩
        | brk ρ2 => rw [eb] at q; exact q
        | ret ow => rw [eb] at q; exact q
        | err x ρ2 => rw [eb] at q; exact q
        | stuck => rw [eb] at q; exact q.elim
theorem sok_break : SOk X (.Break pos) (fun ρ => .brk ρ) := fun W tk => ps_mono ps_break fun D σ H ⟨H0, F0, F, ρ, s, h⟩ => h σ H F s
theorem sok_continue : SOk X (.Continue pos) (fun ρ => .cont ρ) := fun W tk => ps_mono ps_continue fun D σ H ⟨H0, F0, F, ρ, s, h⟩ => h σ H F s

/-! ### a list in a slot is changed -/
theorem ORs.setk {K : Frag} {H H1 F : Hp} {C : List Addr} : ∀ {ys : List Ow} {us : List V} {B : List Addr} {k : Nat} {y : Ow} {w : V}, ORs K H F us ys B → ys[k]? = some y → us[k]? = some w →
    ∃ Ak, OR K H F w y Ak ∧ (∀ b ∈ Ak, b ∈ B) ∧ ∀ (y' : Ow) (Ak' : List Addr), OR K H1 F w y' Ak' → (∀ b ∈ B, b ∉ Ak → H1 b = H b) → (∀ b ∈ Ak', b ∈ Ak ∨ b ∈ C) → (∀ b ∈ C, b ∉ B) → ∃ B', ORs K H1 F us (ys.set k y') B' ∧ ∀ b ∈ B', b ∈ B ∨ b ∈ C
  | [], _, _, _, _, _, .nil, e, _ => by simp at e
  | x :: xs, _, _, 0, y, w, @ORs.cons _ _ _ v _ vs _ A1 A2 h r n, e1, e2 => by
    simp at e1 e2
    subst e1; subst e2
    refine ⟨A1, h, fun b hb => List.mem_append_left _ hb, fun y' Ak' o hk hs hc => ⟨Ak' ++ A2, ?_, fun b hb => ?_⟩⟩
    · refine .cons o (r.keep (Sub.refl _) fun b hb => ⟨hk b (List.mem_append_right _ hb) fun z => n b z hb, (r.there b hb).2⟩) fun b hb hb2 => ?_
      rcases hs b hb with z | z
      · exact n b z hb2
      · exact hc b z (List.mem_append_right _ hb2)
    · rcases List.mem_append.mp hb with z | z
      · exact (hs b z).imp (fun q => List.mem_append_left _ q) id
      · exact .inl (List.mem_append_right _ z)
  | x :: xs, _, _, k + 1, y, w, @ORs.cons _ _ _ v _ vs _ A1 A2 h r n, e1, e2 => by
    obtain ⟨Ak, o, hA, kk⟩ := ORs.setk (H1 := H1) (C := C) (k := k) r (by simpa using e1) (by simpa using e2)
    refine ⟨Ak, o, fun b hb => List.mem_append_right _ (hA b hb), fun y' Ak' o' hk hs hc => ?_⟩
    obtain ⟨B', oB, hB⟩ := kk y' Ak' o' (fun b hb hn => hk b (List.mem_append_right _ hb) hn) hs fun b hb hb2 => hc b hb (List.mem_append_right _ hb2)
    refine ⟨A1 ++ B', ?_, fun b hb => ?_⟩
    · refine .cons (h.keep (Sub.refl _) fun b hb => ⟨hk b (List.mem_append_left _ hb) fun z => n b hb (hA b z), (h.there b hb).2⟩) oB fun b hb hb2 => ?_
      rcases hB b hb2 with z | z
      · exact n b hb z
      · exact hc b z (List.mem_append_left _ hb)
    · rcases List.mem_append.mp hb with z | z
      · exact .inl (List.mem_append_left _ z)
      · exact (hB b z).imp (fun q => List.mem_append_right _ q) id
/-- the tree along a path, and the list at its end exchanged -/
theorem put_ok {K : Frag} {H F : Hp} {a : Addr} {vs vs' : List V} {f : List Ow → List Ow} {C : List Addr} :
    ∀ {p : List Nat} {ow ow' : Ow} {v : V} {A : List Addr} {xs : List Ow}, OR K H F v ow A → At H v p (.ref a) → ow.at p = some (.ls xs) → H a = some (.lst vs) → ow.put p f = some ow' → (∀ b ∈ C, b ∉ A) →
      (∀ B, ORs K H F vs xs B → (∀ b ∈ B, b ∈ A) → a ∉ B → ∃ B', ORs K (upd H a (.lst vs')) F vs' (f xs) B' ∧ (∀ b ∈ B', b ∈ B ∨ b ∈ C) ∧ a ∉ B') →
      a ∈ A ∧ ∃ A', OR K (upd H a (.lst vs')) F v ow' A' ∧ ∀ b ∈ A', b ∈ A ∨ b ∈ C := by
  intro p
  induction p with
  | nil =>
    intro ow ow' v A xs o at_ eat ha e hC k
    have eow : ow = .ls xs := by cases ow <;> (simp only [Ow.at] at eat; cases eat; try rfl)
    subst eow
    simp only [Ow.put, Option.some.injEq] at e
    subst e
    obtain ⟨b, us, B, ev, eA, h1, h2, h3, h4⟩ := o.ls_inv
    have eab : b = a := by
      have : V.ref a = v := at_
      rw [ev] at this
      exact (V.ref.inj this).symm
    subst eab
    subst eA
    rw [ha] at h1
    cases h1
    obtain ⟨B', o', hB', na⟩ := k B h4 (fun c hc => List.mem_cons_of_mem _ hc) h3
    rw [ev]
    refine ⟨List.mem_cons_self, b :: B', OR.ls upd_same h2 na o', fun c hc => ?_⟩
    rcases List.mem_cons.mp hc with rfl | hc
    · exact .inl List.mem_cons_self
    · exact (hB' c hc).imp (fun z => List.mem_cons_of_mem _ z) id
  | cons q p ih =>
    intro ow ow' v A xs o at_ eat ha e hC k
    obtain ⟨b, us, w, ev, hb, hw, at2⟩ := at_
    subst ev
    cases ow with
    | fz d => simp [Ow.at] at eat
    | ls ys =>
      obtain ⟨b', us', B, ev, eA, h1, h2, h3, h4⟩ := o.ls_inv
      cases ev
      have eus : us' = us := by
        rcases hb with hb | hb
        · rw [hb] at h1; cases h1; rfl
        · rw [hb] at h1; cases h1
      subst eus
      subst eA
      simp only [Ow.at] at eat
      simp only [Ow.put] at e
      cases ey : ys[q]? with
      | none => rw [ey] at eat; cases eat
      | some y =>
        rw [ey] at eat e
        simp only at eat e
        cases ep : y.put p f with
        | none => rw [ep] at e; cases e
        | some y' =>
          rw [ep] at e
          cases e
          obtain ⟨Ak, oy, hAk, kk⟩ := h4.setk (H1 := upd H a (.lst vs')) (C := C) ey hw
          obtain ⟨haA, Ak', oy', hAk'⟩ := ih oy at2 eat ha ep (fun c hc hz => hC c hc (List.mem_cons_of_mem _ (hAk c hz))) fun B' oB hB' na => k B' oB (fun c hc => List.mem_cons_of_mem _ (hAk c (hB' c hc))) na
          obtain ⟨B', oB, hB'⟩ := kk y' Ak' oy' (fun c hc hn => upd_ne fun z => hn (z ▸ haA)) hAk' fun c hc hz => hC c hc (List.mem_cons_of_mem _ hz)
          have nab : b ≠ a := fun z => h3 (z ▸ hAk a haA)
          refine ⟨List.mem_cons_of_mem _ (hAk a haA), b :: B', OR.ls (by rw [upd_ne nab]; exact h1) h2 (fun z => ?_) oB, fun c hc => ?_⟩
          · rcases hB' b z with z | z
            · exact h3 z
            · exact hC b z List.mem_cons_self
          · rcases List.mem_cons.mp hc with rfl | hc
            · exact .inl List.mem_cons_self
            · exact (hB' c hc).imp (fun z => List.mem_cons_of_mem _ z) id
    | tp ys =>
      obtain ⟨b', us', B, ev, eA, h1, h2, h3, h4⟩ := o.tp_inv
      cases ev
      have eus : us' = us := by
        rcases hb with hb | hb
        · rw [hb] at h1; cases h1
        · rw [hb] at h1; cases h1; rfl
      subst eus
      subst eA
      simp only [Ow.at] at eat
      simp only [Ow.put] at e
      cases ey : ys[q]? with
      | none => rw [ey] at eat; cases eat
      | some y =>
        rw [ey] at eat e
        simp only at eat e
        cases ep : y.put p f with
        | none => rw [ep] at e; cases e
        | some y' =>
          rw [ep] at e
          cases e
          obtain ⟨Ak, oy, hAk, kk⟩ := h4.setk (H1 := upd H a (.lst vs')) (C := C) ey hw
          obtain ⟨haA, Ak', oy', hAk'⟩ := ih oy at2 eat ha ep (fun c hc hz => hC c hc (List.mem_cons_of_mem _ (hAk c hz))) fun B' oB hB' na => k B' oB (fun c hc => List.mem_cons_of_mem _ (hAk c (hB' c hc))) na
          obtain ⟨B', oB, hB'⟩ := kk y' Ak' oy' (fun c hc hn => upd_ne fun z => hn (z ▸ haA)) hAk' fun c hc hz => hC c hc (List.mem_cons_of_mem _ hz)
          have nab : b ≠ a := fun z => h3 (z ▸ hAk a haA)
          refine ⟨List.mem_cons_of_mem _ (hAk a haA), b :: B', OR.tp (by rw [upd_ne nab]; exact h1) h2 (fun z => ?_) oB, fun c hc => ?_⟩
          · rcases hB' b z with z | z
            · exact h3 z
            · exact hC b z List.mem_cons_self
          · rcases List.mem_cons.mp hc with rfl | hc
            · exact .inl List.mem_cons_self
            · exact (hB' c hc).imp (fun z => List.mem_cons_of_mem _ z) id
/-- the state behind a change of the list at i, p -/
theorem put_state {K : Frag} {H0 F0 H F : Hp} {σ : S} {ρ ρ' : Rho} {A : Nat → List Addr} {i : Nat} {p : List Nat} {v0 : V} {a : Addr} {xs : List Ow} {vs vs' : List V} {f : List Ow → List Ow} {C : List Addr} {ow0 : Ow}
    (s : SRA K H0 F0 A σ H F ρ) (e0 : σ[i]? = some (some v0)) (hat : At H v0 p (.ref a)) (eo : ρ[i]? = some (some (.own ow0))) (ea : ow0.at p = some (.ls xs)) (ha : H a = some (.lst vs)) (hp : putAt i p f ρ = .next ρ') (hC : ∀ c ∈ C, ∀ j, c ∉ A j) (hC0 : ∀ c ∈ C, H0 c = none)
    (k : ∀ B, ORs K H F vs xs B → (∀ b ∈ B, b ∈ A i) → a ∉ B → ∃ B', ORs K (upd H a (.lst vs')) F vs' (f xs) B' ∧ (∀ b ∈ B', b ∈ B ∨ b ∈ C) ∧ a ∉ B') : SR K H0 F0 σ (upd H a (.lst vs')) F ρ' := by
  unfold putAt at hp
  rw [eo] at hp
  simp only at hp
  cases ep : ow0.put p f with
  | none => rw [ep] at hp; cases hp
  | some ow' =>
    rw [ep] at hp
    cases hp
    have q := s.sl i
    rw [eo] at q
    obtain ⟨v, e1, o, oH⟩ := q
    rw [e0] at e1
    cases e1
    have hi : i < ρ.length := (List.getElem?_eq_some_iff.mp eo).1
    obtain ⟨haA, A', o', hA'⟩ := put_ok (C := C) o hat ea ha ep (fun c hc => hC c hc i) k
    have Fa : F a = none := (o.there a haA).2
    have H0a : H0 a = none := oH a haA
    have keep : ∀ {b : Addr}, b ≠ a → upd H a (.lst vs') b = H b := fun h => upd_ne h
    refine ⟨by simp [s.len], ⟨fun b u e => by rw [keep (ne_of_none e H0a)]; exact s.gr.hh b u e, s.gr.ff, s.gr.fn, fun b u e => by
      rw [keep (ne_of_none e Fa)]
      exact s.gr.fh' b u e⟩, fun j => if j = i then A' else A j, fun j => ?_, fun j l hjl b hb hb2 => ?_⟩
    · by_cases ej : j = i
      · subst ej
        simp only [if_true, List.getElem?_set_self hi]
        exact ⟨v0, e0, o', fun b hb => by
          rcases hA' b hb with z | z
          · exact oH b z
          · exact hC0 b z⟩
      · have qj := s.sl j
        simp only [ej, if_false, List.getElem?_set_ne (Ne.symm ej)]
        match oj : ρ[j]?, qj with
        | some (some (.own ow2)), ⟨v2, e2, q2, q3⟩ => exact ⟨v2, e2, q2.keep (Sub.refl _) fun b hb => ⟨keep fun z => s.ap j i ej b hb (z ▸ haA), (q2.there b hb).2⟩, q3⟩
        | some (some (.bor d)), q' => exact q'
        | some none, q' => exact q'
        | none, q' => exact q'
    · by_cases ej : j = i
      · have el : ¬ l = i := fun z => hjl (ej.trans z.symm)
        simp only [ej, el, if_true, if_false] at hb hb2
        rcases hA' b hb with z | z
        · exact s.ap i l (fun z => el z.symm) b z hb2
        · exact hC b z l hb2
      · by_cases el : l = i
        · simp only [ej, el, if_true, if_false] at hb hb2
          rcases hA' b hb2 with z | z
          · exact s.ap j i ej b hb z
          · exact hC b z j hb
        · simp only [ej, el, if_false] at hb hb2
          exact s.ap j l hjl b hb hb2
theorem putAt_next {i : Nat} {p : List Nat} {f : List Ow → List Ow} {ρ : Rho} : (∃ ρ', putAt i p f ρ = .next ρ') ∨ putAt i p f ρ = .stuck := by
  unfold putAt
  split
  · split
    · exact .inl ⟨_, rfl⟩
    · exact .inr rfl
  · exact .inr rfl
/-- o.append(e) -/
theorem app_rd {K : Frag} {mg : Str → Option Value} {W : WX} {D : Ends} {σ : S} {H : Hp} (h : rdS K mg (sApp co ce) W D σ H) :
    rdE K mg co W σ H fun x H1 => tyV K "list" x H1 ∧ rdE K mg ce W σ H1 fun y H2 => ∃ l xs, x = .ref l ∧ H2 l = some (.lst xs) ∧ xs.length < sizeLine ∧ D.nx σ (upd H2 l (.lst (xs ++ [y]))) := by
  obtain ⟨H0, F0, F, ρ, s, h⟩ := h
  unfold sApp at h
  cases e1 : co ρ with
  | stuck => rw [e1] at h; exact h.elim
  | err x => rw [e1] at h; exact rdE_err s e1 fun cls d H' F' g xo => h cls d σ H' F' (s.step g) xo
  | ok ro =>
    rw [e1] at h
    cases ro with
    | val _ => exact h.elim
    | bor _ => exact h.elim
    | ref i p ow =>
      cases ow with
      | fz _ => exact h.elim
      | tp _ => exact h.elim
      | ls ys =>
        simp only at h
        refine rdE_ok s e1 fun x H1 F1 A g1 o1 n1 => ?_
        have s1 := s.step g1
        obtain ⟨_, ⟨v0, e0, hat⟩, ⟨ow0, eo, ea⟩, B0, ob⟩ := id o1
        obtain ⟨l, vs0, Bl, ev, _, hl, _, _, orl⟩ := ob.ls_inv
        subst ev
        refine ⟨.inl ⟨rfl, _, .inl (.inl hl)⟩, ?_⟩
        cases e2 : ce ρ with
        | stuck => rw [e2] at h; exact h.elim
        | err z => rw [e2] at h; exact rdE_err s1 e2 fun cls d H' F' g xo => h cls d σ H' F' (s1.step g) xo
        | ok re =>
          rw [e2] at h
          cases re with
          | ref _ _ _ => exact h.elim
          | bor _ => exact h.elim
          | val oe =>
            simp only at h
            by_cases hc : ys.length < 16777216
            case neg => simp only [hc, if_false] at h; exact h.elim
            simp only [hc, if_true] at h
            refine rdE_ok s1 e2 fun y H2 F2 C g2 o2 n2 => ?_
            have hl2 : H2 l = some (.lst vs0) := g2.hh l _ hl
            refine ⟨l, vs0, rfl, hl2, by rw [orl.length, sizeLine_eq]; exact hc, ?_⟩
            rcases putAt_next (i := i) (p := p) (f := fun xs => xs ++ [oe]) (ρ := ρ) with ⟨ρ', hp⟩ | hp
            · rw [hp] at h
              obtain ⟨A0, sa0⟩ := s1.sra
              have sa := sa0.step g2
              have Cn : ∀ c ∈ C, ∀ j, c ∉ A0 j := fun c hc j hj => ((sa0.sl j).there c hj).1 (n2 c hc)
              refine h σ _ F2 (put_state (C := C) sa e0 (hat.gr g2.hh) eo ea hl2 hp Cn (fun c hc => s1.gr.hh.none (n2 c hc)) fun B oB hB na => ?_)
              have Cl : ∀ c ∈ C, c ≠ l := fun c hc z => by
                have := n2 c hc
                rw [z, hl] at this
                cases this
              have k1 : ORs K (upd H2 l (.lst (vs0 ++ [y]))) F2 vs0 ys B := oB.keep (Sub.refl _) fun c hc => ⟨upd_ne fun z => na (z ▸ hc), (oB.there c hc).2⟩
              have k2 : OR K (upd H2 l (.lst (vs0 ++ [y]))) F2 y oe C := OR.keep (Sub.refl _) o2 fun c hc => ⟨upd_ne (Cl c hc), (OR.there o2 c hc).2⟩
              refine ⟨B ++ (C ++ []), k1.append (.cons k2 .nil fun _ _ z => by cases z) fun c hc hc2 => ?_, fun c hc => ?_, fun hc => ?_⟩
              · exact Cn c (by simpa using hc2) i (hB c hc)
              · rcases List.mem_append.mp hc with z | z
                · exact .inl z
                · exact .inr (by simpa using z)
              · rcases List.mem_append.mp hc with z | z
                · exact na z
                · exact Cl l (by simpa using z) rfl
            · rw [hp] at h; exact h.elim
theorem sok_app {p1 cpos pos' : Pos} (ho : EOk X o co) (he : EOk X e ce) (hbase : attributeBase o "append" X.env (eval o X.env) = eval o X.env := by rfl)
    (hfew : ((backTo cpos (starEach [e] X.env)).all (fun x => !x.1) && (backToKw cpos (keywordEach [] X.env)).all (fun x => x.1.isSome)
      && decide (([e] : List Expr).length + ([] : List Keyword).length + (if ([] : List Keyword).isEmpty then 0 else 1) < 30)) = true := by rfl)
    (hline : (p1.endLine == cpos.line) = true := by rfl) (hs : starEach [e] X.env = (false, eval e X.env) :: starEach [] X.env := by rfl) (hplain : (backTo cpos (starEach [] X.env)).any (·.1) = false := by rfl)
    (hsw : swapsWith (.Call (.Attribute o "append" p1) [e] [] cpos) none pos'.line X.env = pure false := by rfl) :
    SOk X (.Expr (.Call (.Attribute o "append" p1) [e] [] cpos) pos') (sApp co ce) := fun W tk =>
  ps_mono (ps_expr (pe_bm PySem.F.plainAttrs_list PySem.F.slot_list_append PySem.F.type_list_append mt_append (ho W tk) (pa_cons (he W tk) pa_nil hs) hbase hfew hline hs hplain) hsw) fun D σ H h => by
    have q := app_rd h
    show rdE X.K X.mg co W σ H fun x H1 => tyV X.K "list" x H1 ∧ rdE X.K X.mg ce W σ H1 fun y H2 => rAppend x [y] H2 fun _ H3 => D.nx σ H3
    obtain ⟨H0, F0, F, ρ, s, q⟩ := q
    refine ⟨H0, F0, F, ρ, s, ?_⟩
    cases e1 : co ρ with
    | stuck => rw [e1] at q; exact q
    | err x => rw [e1] at q; exact q
    | ok rv =>
      rw [e1] at q
      intro v H' F' A g o n
      obtain ⟨h1, H0', F0', F'', ρ', s', h2⟩ := q v H' F' A g o n
      refine ⟨h1, H0', F0', F'', ρ', s', ?_⟩
      cases e2 : ce ρ' with
      | stuck => rw [e2] at h2; exact h2
      | err x => rw [e2] at h2; exact h2
      | ok rv2 =>
        rw [e2] at h2
        intro v2 H2 F2 A2 g2 o2 n2
        obtain ⟨l, xs, ex, h3, h4, h5⟩ := h2 v2 H2 F2 A2 g2 o2 n2
        exact ⟨l, xs, v2, ex, rfl, h3, h4, h5⟩
/-! ### a def -/
theorem start_get {N : List Str} {vs : List V} {i : Nat} : (L2.start N vs)[i]? = if i < vs.length then (vs[i]?).map some else if i < N.length then some none else none := by
  unfold L2.start
  by_cases h : i < vs.length
  · rw [if_pos h, List.getElem?_append_left (by simpa using h), List.getElem?_map]
  · rw [if_neg h, List.getElem?_append_right (by simpa using Nat.le_of_not_lt h), List.getElem?_replicate]
    simp only [List.length_map]
    by_cases h2 : i < N.length
    · rw [if_pos (by omega), if_pos h2]
    · rw [if_neg (by omega), if_neg h2]
end
theorem ArgOk.get {K : Frag} {H F : Hp} : ∀ {vs : List V} {as : List Sl} {i : Nat} {s : Sl}, Paired (ArgOk K H F) vs as → as[i]? = some s → ∃ v, vs[i]? = some v ∧ ArgOk K H F v s
  | _, _, _, _, .nil, e => by simp at e
  | _, _, 0, _, .cons h _, e => by simp at e; subst e; exact ⟨_, rfl, h⟩
  | _, _, i + 1, _, .cons _ r, e => by
    obtain ⟨v, h1, h2⟩ := ArgOk.get (i := i) r (by simpa using e)
    exact ⟨v, by simpa using h1, h2⟩
theorem fok_of {P : Program} {w : World} {K : Frag} {mg : Str → Option Value} {base : Heap} {x qual : Str} {st : Stmt} {f : Addr} {fd : FuncData} {N ps : List Str} {k : Nat} {b : SC} (F : Fun K x qual st f fd) (S : FnScope N ps (defScope st))
    (hb : ∀ (cdv : Value) (A : Around) (outer : List Env) (s : Shared) (H : Hp) (E : XK), Room k (A.deeper (envOfC qual (defScope st) s.heap.objs.size f cdv)) → BOk (cxOf (L2.CX P w) P w K mg base N qual (defScope st) f cdv A outer s H E) (defBody st) b) :
    FOk P w K mg base (k + 1) f fd ps (runBody b N.length) := by
  refine F.okX S (fun vs H Q E h => ?_) (fun cdv A outer s H vs Q E hr h => ?_)
  · obtain ⟨_, as, _, hl, hp, _⟩ := h
    rw [Paired.length hp, hl]
  · refine ⟨_, hb cdv A outer s H E hr (fun cls d _ H => E cls d H) (takes_of rfl rfl rfl rfl), ?_⟩
    obtain ⟨F0, as, hF, hl, hp, h⟩ := h
    have hpl : ps.length ≤ N.length := by have := congrArg List.length S.pre; rw [List.length_take] at this; omega
    have hvl := Paired.length hp
    refine ⟨H, F0, F0, as.map some ++ List.replicate (N.length - as.length) none, ⟨?_, Gr.refl hF, fun _ => [], fun i => ?_, fun _ _ _ _ z => by cases z⟩, ?_⟩
    · unfold L2.start
      simp only [List.length_append, List.length_map, List.length_replicate]
      omega
    · by_cases hi : i < as.length
      · rw [List.getElem?_append_left (by simpa using hi), List.getElem?_map, List.getElem?_eq_getElem hi]
        obtain ⟨v, hv, ho⟩ := ArgOk.get hp (List.getElem?_eq_getElem hi)
        have e0 : (L2.start N vs)[i]? = some (some v) := by rw [start_get, if_pos (by omega), hv]; rfl
        show SlOk K H H F0 (L2.start N vs) i [] (some (some as[i]))
        match as[i], ho with
        | .own (.fz d), ho => exact ⟨v, e0, OR.fz ho, fun _ z => by cases z⟩
        | .bor d, ho => exact ⟨rfl, v, e0, ho⟩
      · rw [List.getElem?_append_right (by simpa using Nat.le_of_not_lt hi), List.getElem?_replicate]
        split
        · rfl
        · rfl
    · unfold runBody at h
      cases e : b (as.map some ++ List.replicate (N.length - as.length) none) with
      | next ρ' => rw [e] at h; exact fun σ' H' F' s' => h .non H' F' [] s'.gr (OR.fz .non) fun _ z => by cases z
      | ret ow => rw [e] at h; exact h
      | brk _ => rw [e] at h; exact h.elim
      | cont _ => rw [e] at h; exact h.elim
      | err x ρ' => rw [e] at h; exact fun cls d σ' H' F' s' xo => h cls d H' F' s'.gr xo
      | stuck => rw [e] at h; exact h.elim
/-- the def's own wish lets loops run -/
theorem pass_def {P : Program} {w : World} {K : Frag} {mg : Str → Option Value} {base : Heap} {N : List Str} {qual : Str} {sc : Scope} {f : Addr} {cdv : Value} {A : Around} {outer : List Env} {s : Shared} {H : Hp} {E : XK} :
    PassesOwn (model P w) (A.deeper (envOfC qual sc s.heap.objs.size f cdv)) (envOfC qual sc s.heap.objs.size f cdv) (cxOf (L2.CX P w) P w K mg base N qual sc f cdv A outer s H E).xe := PassesOwn.leaving
end VL

set_option Elab.async false
set_option linter.all false
set_option maxRecDepth 100000
set_option maxHeartbeats 4000000
/-! VL10: enumerate of a list or a tuple. -/
namespace PySem
open Sem (wp)
open AutoSeq1 (wpAny_loadPart')
theorem vl_enumerate_new1 {v : Value} {o : Obj} {H : Heap → Prop} (B : Begins v o H) :
    Meets (Builtin.«enumerate.__new__» ⟨[.type "enumerate", v], []⟩) (fun _ R s => H s.heap ∧
      R (.ok (.ret (.ref (s.heap.push o).objs.size))) { s with heap := (s.heap.push o).push { cls := .type "enumerate", data := .fields #[.none, .bool false, .ref s.heap.objs.size, rawInt 0, .none, .none] } }) :=
  .of_wp fun prog w A R s h => by
    obtain ⟨hp, g, d, tk, os⟩ := s; obtain ⟨h1, h⟩ := h
    have hsub := sub_enumerate
    have q1 : ∀ {A' : Around} {E : Value → Shared → Prop} {Q : Value → Shared → Prop}, Q (.ref hp.objs.size) ⟨hp.push o, g, d, tk, os⟩ → wpAny (model prog w) A' (pyIter v) Q E ⟨hp, g, d, tk, os⟩ :=
      fun q => B.iter prog w _ _ ⟨hp, g, d, tk, os⟩ _ h1 q
    wp_walk using q1
    refine wpAny_stack_any fun st => wpAny_pure ?_
    split
    · rename_i c _ _ _ _ _
      cases (c == Value.type "enumerate")
      · wp_walk using q1
        exact ⟨_, rfl, h⟩
      · wp_walk using q1
        exact ⟨_, rfl, h⟩
    · wp_walk using q1
      exact ⟨_, rfl, h⟩
theorem vl_enum_begins {prog : Program} {w : World} {A : Around} {E : Value → Shared → Prop} {s : Shared} {v : Value} {o : Obj} {H : Heap → Prop} {Q : Value → Shared → Prop} (B : Begins v o H) (h1 : H s.heap)
    (h : ∀ h', IsEnum h' (s.heap.objs.size + 1) s.heap.objs.size 0 .none → h'.get? s.heap.objs.size = some o → h'.objs.size = s.heap.objs.size + 2 →
      (∀ b o, s.heap.get? b = some o → h'.get? b = some o) → Q (.ref (s.heap.objs.size + 1)) { s with heap := h' }) :
    wpAny (model prog w) A (call (.type "enumerate") [v]) Q E s := by
  refine callType_new F.called_enumerate (by decide) (F.typeCall_enumerate_1 _) (F.newCall_enumerate_1 _) (fun obj => F.args_object_init_2 obj _) F.entry_enumerate_new
    (vl_enumerate_new1 B) ⟨h1, ?_⟩
  have hz : (s.heap.push o).objs.size = s.heap.objs.size + 1 := Heap.size_push ..
  show _ ∧ _
  rw [hz]
  have he : IsEnum ((s.heap.push o).push { cls := .type "enumerate", data := .fields #[.none, .bool false, .ref s.heap.objs.size, rawInt 0, .none, .none] }) (s.heap.objs.size + 1) s.heap.objs.size 0 .none := by
    have := Heap.get?_push_size (s.heap.push o) (o := { cls := .type "enumerate", data := .fields #[.none, .bool false, .ref s.heap.objs.size, rawInt 0, .none, .none] }) rfl
    rw [hz] at this; exact this
  refine ⟨⟨_, he, rfl⟩, h _ he (Heap.get?_push_of_some _ (Heap.get?_push_size _ B.free)) (by rw [Heap.size_push, hz]) fun b o x => Heap.get?_push_of_some _ (Heap.get?_push_of_some _ x)⟩
end PySem
namespace VL
open PySem PySem.Spec PyProof.Rows L2
/-- the pairs of enumerate over the tuple at a -/
def IteT (K : Frag) (a : Addr) : It :=
  ⟨fun i H => ∃ (xs : List V) (x : V), SqT K H a xs ∧ xs[i]? = some x, fun i H v H' => ∃ T x, v = .ref T ∧ H T = none ∧ H' = upd H T (.tup [.int (i : Nat), x]) ∧ ∀ xs, SqT K H a xs → xs[i]? = some x, fun i H => ∃ xs : List V, SqT K H a xs ∧ xs.length ≤ i⟩
theorem turn_enumT {P : Program} {w : World} {K : Frag} {elts : List Expr} {kk : Nat} {tpos : Pos} (a e it : Addr) :
    Turn P w K (.Tuple elts kk tpos) (IteT K a) [e, it] e (fun i h => (∃ old, IsEnum h e it ((i : Nat) : Int) old) ∧ h.IsTupleIter it a i ∧ e ≠ it) where
  mem := by simp
  obj := fun i h st b hb => by
    obtain ⟨⟨old, he⟩, ⟨o, ho, hc, hd⟩, _⟩ := st
    have e' : b = e ∨ b = it := by simpa using hb
    rcases e' with z | z
    · rw [z]; exact ⟨_, he, fun v q => nomatch q⟩
    · rw [z]; exact ⟨o, ho, fun v q => by rw [hd] at q; cases q⟩
  keep := fun i h h' st k => let ⟨⟨old, he⟩, hi, hne⟩ := st; ⟨⟨old, k e (by simp) _ he⟩, hi.at fun o q => k it (by simp) o q, hne⟩
  item := by
    intro X hP hw hK hc i pins s σ H E I hf st hg
    subst hP hw hK
    obtain ⟨⟨old, he⟩, hit, hne⟩ := st
    obtain ⟨xs, x, hq, hx⟩ := hg
    obtain ⟨its, rv, p, hz⟩ := I.tuple hq
    obtain ⟨u, hu, ru⟩ := rv.get hx
    have hel : e < s.heap.objs.size := Heap.lt_size he
    have hil : it < s.heap.objs.size := by obtain ⟨_, q, _⟩ := hit; exact Heap.lt_size q
    have pt : s.heap.IsTuple a its.toArray := p
    have hai : a ≠ it := fun z => by
      obtain ⟨o1, q1, c1, _⟩ := hit
      obtain ⟨o2, q2, c2, _⟩ := pt
      rw [z, q1] at q2
      cases q2
      rw [c1] at c2
      injection c2 with z2
      exact absurd z2 (by decide)
    have hae : e ≠ a := fun z => by
      obtain ⟨o2, q2, c2, _⟩ := pt
      rw [← z, he] at q2
      cases q2
      injection (show Value.type "enumerate" = Value.type "tuple" from c2) with z2
      exact absurd z2 (by decide)
    have hlt : i < its.toArray.size := by
      have := (List.getElem?_eq_some_iff.mp hu).1
      simpa using this
    refine wpAny_pyNext_enum_itemC (Draws.tuple (prog := X.prog) (w := X.w) (A := X.A.in1) (by exact I.ok.hd hc) it a hai its.toArray) he ⟨hit, pt⟩ hlt hne (by simp [hne, hae]) fun y h' tk hy ho hit' hT hsz hk => ?_
    have ey : y = u := by
      have hy' : its[i]? = some y := by simpa using hy
      rw [hu] at hy'
      cases hy'; rfl
    subst ey
    refine ⟨_, rfl, wpAny_letOwnedTupleGo_enum (s := { s with heap := h', toks := tk + 1 }) ho fun h'' he' sb => ?_⟩
    have hT2 : h''.get? s.heap.objs.size = some { cls := .type "tuple", data := .seq #[.int i tk, y] } := (sb.2 _ (Nat.ne_of_gt hel)).trans hT
    have new : ObjOk X.prog X.w (upd H s.heap.objs.size (.tup [.int (i : Nat), x])) h'' s.heap.objs.size (.tup [.int (i : Nat), x]) :=
      ⟨by show 2 ≤ sizeLine; decide, [.int i tk, y], .cons ⟨_, rfl⟩ (.cons ru .nil), ⟨_, hT2, rfl, _, rfl⟩⟩
    have I1 : Inv X pins σ (upd H s.heap.objs.size (.tup [.int (i : Nat), x])) { s with heap := h'', toks := tk + 1 } :=
      I.turnedNew (ch := [e, it]) (fun b ob hb q => (sb.2 b (fun z => hb (by simp [z]))).trans (hk b ob (fun z => hb (by simp [z])) (fun z => hb (by simp [z])) q)) hf (Nat.le_refl _) new
    refine ⟨.ref s.heap.objs.size, _, I1, rfl, ⟨_, x, rfl, I.hok.fresh (Nat.le_refl _), rfl, fun ys hy => by rw [I.tuple_inj hy hq]; exact hx⟩, ⟨⟨y, ?_⟩, hit'.1.at fun o q => (sb.2 it (Ne.symm hne)).trans q, hne⟩, fun b hb => ?_⟩
    · have e1 : ((i + 1 : Nat) : Int) = (i : Int) + 1 := by omega
      rw [e1]; exact he'
    · have hb' : b < s.heap.objs.size := by
        have e' : b = e ∨ b = it := by simpa using hb
        rcases e' with z | z
        · rw [z]; exact hel
        · rw [z]; exact hil
      rw [upd_ne (Nat.ne_of_lt hb')]
      exact (hf b hb).1
  done := by
    intro X hP hw hK hc i pins s σ H E I hf st hg
    subst hP hw hK
    obtain ⟨⟨old, he⟩, hit, hne⟩ := st
    obtain ⟨xs, hq, hx⟩ := hg
    obtain ⟨its, rv, p, hz⟩ := I.tuple hq
    have pt : s.heap.IsTuple a its.toArray := p
    obtain ⟨f0, f1, f2, f3, f4, f5⟩ := hf it (by simp)
    have hl := rv.length
    have hai : a ≠ it := fun z => by
      obtain ⟨o1, q1, c1, _⟩ := hit
      obtain ⟨o2, q2, c2, _⟩ := pt
      rw [z, q1] at q2
      cases q2
      rw [c1] at c2
      injection c2 with z2
      exact absurd z2 (by decide)
    have hT : s.TypeIs (.ref e) "enumerate" := ⟨_, he, rfl⟩
    unfold pyNext
    refine wpAny_bind (wpAny_attempt (wpAny_callSpecial?_slot (name := Str.ofString "__next__") hT F.slot_enumerate_next
      (wpAny_call_entry F.slot_enumerate_next hT F.entry_enumerate_next ?_ (F.args_enumerate_next_1 _))))
    show wpAny _ _ (field (.ref e) 2 >>= _) _ _ _
    refine wpAny_bind (wpAny_field he rfl (x := .ref it) rfl ?_)
    refine wpAny_bind (wpAny_nextOf_tuple_end (by exact I.ok.hd hc) hit pt (by simp; omega) fun h' x he' hx' => ?_)
    obtain ⟨o, ho, hc'⟩ := hx'
    refine wpAny_bind (wpAny_isInstance (T := "StopIteration") (b := true) ⟨o, ho, hc'⟩ isSubtype_stop ?_)
    exact wpAny_pure ⟨rfl, I.turned (t' := s.toks) (fun b o hb q => he' b o hb q) f0 f1 f3 f4 f5⟩
  self := fun A i s Q E st h => let ⟨⟨_, he⟩, _⟩ := st; wpAny_pyIter_enum he h
def iEnumV (K : Frag) (tl : TE) : TI := fun σ H R => tl σ H fun x H1 => ∃ a, [x] = [V.ref a] ∧ ((∃ xs, SqL K H1 a xs ∧ R (Ite K a) H1) ∨ (∃ xs, SqT K H1 a xs ∧ R (IteT K a) H1))
theorem pi_enumV {X : Cx} {e : Expr} {te : TE} {p pos tpos : Pos} {elts : List Expr} {kk : Nat} (hg : Gl X "enumerate") (hm : X.mg "enumerate" = none) (he : PE X e te) (na : starEach [e] X.env = (false, eval e X.env) :: starEach [] X.env := by rfl) (hs : starEach [e] X.env = [(false, eval e X.env)] := by rfl) :
    PI X (.Tuple elts kk tpos) (.Call (.Name "enumerate" p) [e] [] pos) (iEnumV X.K te) := by
  refine ⟨fun pins s σ H R I h => ?_⟩
  have ha : PA X [e] (tCons te tNil) := pa_cons he pa_nil na
  refine Call_ (ld_blt I hg hm boot_enumerate (PyProof.Rows.callWith_type1 (thn (ha.run pos pins s σ H (fun vs H1 => ∃ a, vs = [V.ref a] ∧ ((∃ xs, SqL X.K H1 a xs ∧ R (Ite X.K a) H1) ∨ (∃ xs, SqT X.K H1 a xs ∧ R (IteT X.K a) H1))) I h) fun us s1 ⟨vs, H1, I1, r1, q1⟩ => ?_) hs rfl))
  obtain ⟨a, ex, q⟩ := q1
  subst ex
  cases r1 with
  | cons r rr =>
    cases rr
    cases r
    rcases q with ⟨xs, hq, q⟩ | ⟨xs, hq, q⟩
    · obtain ⟨its, rv, p', hz⟩ := I1.list hq
      refine call_enumerate_list p'.isList fun h' he hit hsz hk => wpAny_pyIter_enum he ?_
      have I2 : Inv X pins σ H1 { s1 with heap := h' } := I1.kept (t' := s1.toks) hk
      refine ⟨s1.heap.objs.size + 1, [s1.heap.objs.size + 1, s1.heap.objs.size], _, _, H1, rfl, I2, turn_enum a (s1.heap.objs.size + 1) s1.heap.objs.size, ⟨⟨.none, he⟩, hit, Nat.succ_ne_self _⟩, fun b hb => ?_, q⟩
      have e' : b = s1.heap.objs.size + 1 ∨ b = s1.heap.objs.size := by simpa using hb
      have hle : s1.heap.objs.size ≤ b := by
        rcases e' with z | z
        · rw [z]; exact Nat.le_add_right _ _
        · rw [z]; exact Nat.le_refl _
      exact I1.fpOk hle (I1.hok.fresh hle)
    · obtain ⟨its, rv, p', hz⟩ := I1.tuple hq
      refine vl_enum_begins (begins_tuple a its.toArray) (show s1.heap.IsTuple a its.toArray from p') fun h' he hit hsz hk => wpAny_pyIter_enum he ?_
      have I2 : Inv X pins σ H1 { s1 with heap := h' } := I1.kept (t' := s1.toks) hk
      refine ⟨s1.heap.objs.size + 1, [s1.heap.objs.size + 1, s1.heap.objs.size], _, _, H1, rfl, I2, turn_enumT a (s1.heap.objs.size + 1) s1.heap.objs.size, ⟨⟨.none, he⟩, ⟨_, hit, rfl, rfl⟩, Nat.succ_ne_self _⟩, fun b hb => ?_, q⟩
      have e' : b = s1.heap.objs.size + 1 ∨ b = s1.heap.objs.size := by simpa using hb
      have hle : s1.heap.objs.size ≤ b := by
        rcases e' with z | z
        · rw [z]; exact Nat.le_add_right _ _
        · rw [z]; exact Nat.le_refl _
      exact I1.fpOk hle (I1.hok.fresh hle)
theorem enumS_get : ∀ (ss : List Sl) (k i : Nat), (enumS k ss)[i]? = (ss[i]?).map fun s => [slOf (.int ((k + i : Nat) : Int)), s]
  | [], k, i => by simp [enumS]
  | s :: ss, k, 0 => by simp [enumS]
  | s :: ss, k, i + 1 => by
    simp only [enumS, List.getElem?_cons_succ]
    rw [enumS_get ss (k + 1) i]
    have : k + 1 + i = k + (i + 1) := by omega
    rw [this]
theorem enumS_len : ∀ (ss : List Sl) (k : Nat), (enumS k ss).length = ss.length
  | [], _ => rfl
  | _ :: ss, k => by simp [enumS, enumS_len ss (k + 1)]
theorem enum_iter {K : Frag} {H0 Fi : Hp} {a : Addr} {vs : List V} {l : Bool} {ss : List Sl} {i j : Nat} (h : Still K H0 Fi a vs l) (p : Paired (It1 K H0 Fi) vs ss) :
    IterOk K H0 Fi (if l = true then Ite K a else IteT K a) (gRow K 2 (gNames [i, j])) [i, j] (enumS 0 ss) := by
  have hlen := Paired.length p
  have key : ∀ (k : Nat) (s : List Sl) (A : Nat → List Addr) (σ : S) (H F : Hp) (ρ : Rho) (x : V) (T : Addr) (Q : S → Hp → Prop), (enumS 0 ss)[k]? = some s → SRA K H0 Fi A σ H F ρ → vs[k]? = some x → H T = none →
      (∀ A' σ' H2 F2, SRA K H0 Fi A' σ' H2 F2 (setAll [i, j] s ρ) → Gr H F H2 F2 → (∀ m, m ∉ [i, j] → σ'[m]? = σ[m]?) → (∀ m, ∀ a ∈ A' m, a ∈ A m) → σ'.length = σ.length → Q σ' H2) → gRow K 2 (gNames [i, j]) (.ref T) σ (upd H T (.tup [.int (k : Nat), x])) Q := by
    intro k s A σ H F ρ x T Q e sr hx hT kk
    rw [enumS_get] at e
    cases es : ss[k]? with
    | none => rw [es] at e; cases e
    | some t =>
      rw [es] at e
      cases e
      obtain ⟨y, hy, ht⟩ := Paired.get2 p es
      rw [hx] at hy
      cases hy
      have g := Gr.laid (o := .tup [.int (k : Nat), x]) sr.gr.fh' hT
      refine ⟨T, [.int (k : Nat), x], rfl, .inr (.of upd_same), rfl, ?_⟩
      have v1 : VOk K H0 (upd H T (.tup [.int (k : Nat), x])) F (.int (k : Nat)) [] (slOf (.int ((0 + k : Nat) : Int))) := by
        rw [Nat.zero_add]; exact ⟨OR.fz (.int _), fun _ z => by cases z⟩
      refine gNames_ok (sr.step g) (.cons (B := []) (C := []) v1 (.cons (B := []) (C := []) (ht.vok (H := _) sr.gr.ff) .nil fun _ z => by cases z) fun _ z => by cases z) rfl (fun _ z => by cases z) fun σ' A' s' e1 e2 e3 => kk A' σ' _ F s' g e1 (fun m b hb => ?_) e3
      rcases e2 m b hb with z | z
      · exact z
      · cases z
  cases l with
  | true =>
    simp only [if_true]
    refine ⟨fun k H F g hk => ?_, fun H F g => ?_, fun k s A σ H F ρ x H' Q e sr y kk => ?_⟩
    · have hk' : k < vs.length := by rw [hlen]; rw [enumS_len] at hk; exact hk
      exact ⟨vs, vs[k], h.lst g, List.getElem?_eq_getElem hk'⟩
    · exact ⟨vs, h.lst g, by rw [hlen, enumS_len]; exact Nat.le_refl _⟩
    · obtain ⟨T, z, e1, hT, e2, e3⟩ := y
      subst e1
      subst e2
      exact key k s A σ H F ρ z T Q e sr (e3 vs (h.lst sr.gr)) hT kk
  | false =>
    simp only [Bool.false_eq_true, if_false]
    refine ⟨fun k H F g hk => ?_, fun H F g => ?_, fun k s A σ H F ρ x H' Q e sr y kk => ?_⟩
    · have hk' : k < vs.length := by rw [hlen]; rw [enumS_len] at hk; exact hk
      exact ⟨vs, vs[k], h.tup g, List.getElem?_eq_getElem hk'⟩
    · exact ⟨vs, h.tup g, by rw [hlen, enumS_len]; exact Nat.le_refl _⟩
    · obtain ⟨T, z, e1, hT, e2, e3⟩ := y
      subst e1
      subst e2
      exact key k s A σ H F ρ z T Q e sr (e3 vs (h.tup sr.gr)) hT kk
theorem iok_enum {X : Cx} {e : Expr} {c : EC} {p pos tpos : Pos} {elts : List Expr} {kk i j : Nat} (hm : X.mg "enumerate" = none) (h : EOk X e c) (hg : Gl X "enumerate" := by rfl) (na : starEach [e] X.env = (false, eval e X.env) :: starEach [] X.env := by rfl) (hs : starEach [e] X.env = [(false, eval e X.env)] := by rfl) :
    IOk X (.Tuple elts kk tpos) (.Call (.Name "enumerate" p) [e] [] pos) (gRow X.K 2 (gNames [i, j])) [i, j] (iEnum c) := fun W tk => pi_mono (pi_enumV hg hm (h W tk) na hs) fun σ H R q => by
  obtain ⟨H0, F0, F, ρ, s, q⟩ := q
  show rdE X.K X.mg c W σ H fun x H1 => ∃ a, [x] = [V.ref a] ∧ ((∃ xs, SqL X.K H1 a xs ∧ R (Ite X.K a) H1) ∨ (∃ xs, SqT X.K H1 a xs ∧ R (IteT X.K a) H1))
  unfold iEnum at q
  cases e1 : c ρ with
  | stuck => rw [e1] at q; exact q.elim
  | err x => rw [e1] at q; exact rdE_err s e1 q
  | ok rv =>
    rw [e1] at q
    simp only [Res.bind] at q
    refine rdE_ok s e1 fun v H1 F1 A g o n => ?_
    cases e2 : rv.iter with
    | none => rw [e2] at q; exact q.elim
    | some ss =>
      rw [e2] at q
      simp only at q
      have s1 := s.step g
      obtain ⟨a, vs, F', lb, rfl, g2, st, p⟩ := iter_ok s1 o g n e2
      have it := enum_iter (i := i) (j := j) st p
      cases lb with
      | true =>
        simp only [if_true] at it
        exact ⟨a, rfl, .inl ⟨vs, st.lst ⟨s1.gr.hh, Sub.refl _, fun _ h => .inl h, g2.fh'⟩, q _ H1 F' g2 it⟩⟩
      | false =>
        simp only [Bool.false_eq_true, if_false] at it
        exact ⟨a, rfl, .inr ⟨vs, st.tup ⟨s1.gr.hh, Sub.refl _, fun _ h => .inl h, g2.fh'⟩, q _ H1 F' g2 it⟩⟩
end VL

set_option Elab.async false
set_option linter.all false
set_option maxRecDepth 100000
set_option maxHeartbeats 2000000
/-! VL11: short names for the generated walks; the end. -/
namespace VL
open PySem PySem.Spec PyProof.Rows L2
section
variable {X : Cx} {e : Expr}
theorem ev (i : Nat) {x : Str} {pos : Pos} (hN : X.N[i]? = some x := by rfl) (hv : Vis X.env.scope x := by first | exact Or.inl rfl | exact Or.inr (Or.inl rfl) | exact Or.inr (Or.inr rfl)) (hd : (x == ("__debug__" : Str)) = false := by decide)
    (hcd : (x == ("__classdict__" : Str)) = false := by decide) : EOk X (.Name x pos) (eVar i) := eok_var hN hv hd hcd
theorem eg {x : Str} (d : D) {u : Value} {pos : Pos} (hm : X.mg x = some u) (r : RelV (vOf d) u) (hd : scal d = true := by rfl) (hg : Gl X x := by rfl) (hdb : (x == ("__debug__" : Str)) = false := by decide) : EOk X (.Name x pos) (eK d) := eok_glob hd hm r hg hdb
theorem tn (i : Nat) {x : Str} {pos : Pos} (hnd : X.N.Nodup) (hN : X.N[i]? = some x := by rfl) (hx : Loc X.env.scope x := by first | exact Or.inl rfl | exact Or.inr rfl) (hf : X.fn x = true ∨ X.env.scope.names.lookup x = some .local := by first | exact .inl rfl | exact .inr rfl) : PG X (.Name x pos) (gName i) := pg_name hnd hN hx hf
theorem st (i : Nat) {x : Str} {pos p2 : Pos} {ce : EC} (hnd : X.N.Nodup) (h : EOk X e ce) (hN : X.N[i]? = some x := by rfl) (hx : Loc X.env.scope x := by first | exact Or.inl rfl | exact Or.inr rfl) (hs : swapsWith e (some (.Name x p2)) pos.line X.env = pure false := by rfl)
    (hf : X.fn x = true ∨ X.env.scope.names.lookup x = some .local := by first | exact .inl rfl | exact .inr rfl) : SOk X (.Assign [.Name x p2] e pos) (sSet i ce) := sok_set hnd hN hx h hs hf
structure Df (P : Program) (w : World) (K : Frag) (mg : Str → Option Value) (base : Heap) (k : Nat) (f : Addr) (fd : FuncData) (x : Str) (ps : List Str) (φ : Fn) : Prop where
  ok : FOk P w K mg base k f fd ps φ
  hm : mg x = some (.ref f)
  hk : PySem.W.keepIn K (.ref f) = true
  hb : Binds K fd ps []
theorem Df.call {k k' : Nat} {f : Addr} {fd : FuncData} {ps : List Str} {φ : Fn} {x : Str} {p pos : Pos} {e : Expr} {es : List Expr} {cs : List EC} (D : Df X.prog X.w X.K X.mg X.base k f fd x ps φ) (hr : Room k' X.A) (ha : AOk X (e :: es) cs) (hk : k ≤ k' := by decide) (hl : cs.length = ps.length := by rfl)
    (hg : Gl X x := by rfl) (hdb : (x == ("__debug__" : Str)) = false := by decide) (he : starEach (e :: es) X.env = (false, eval e X.env) :: starEach es X.env := by rfl) (hpl : (backTo pos (starEach es X.env)).any (·.1) = false := by rfl) :
    EOk X (.Call (.Name x p) (e :: es) [] pos) (eCall φ cs) := eok_call D.ok (hr.mono hk) D.hm D.hk D.hb hl ha hg hdb he hpl
theorem Df.mk' {P : Program} {w : World} {K : Frag} {mg : Str → Option Value} {base : Heap} {k : Nat} {f : Addr} {fd : FuncData} {x : Str} {ps : List Str} {φ : Fn} {qual : Str} {st : Stmt} (F : Fun K x qual st f fd) (hm : mg x = some (.ref f)) (hb : Binds K fd ps []) (ok : FOk P w K mg base k f fd ps φ) : Df P w K mg base k f fd x ps φ := ⟨ok, hm, F.kp, hb⟩
end
/-- the end: the law's def, called with the script -/
theorem rp_ints {K : Frag} {H : Hp} : ∀ (ns : List Int), RpAll K H (ns.map V.int) (ns.map PyData.int)
  | [] => .nil
  | i :: r => .cons (.int i) (rp_ints r)
theorem walk_ofV {l : PySem.W.OpenLaw} {k : Nat} {q : Program} {loose : List Str} {XP : (Str → Option Value) → Heap → Prop} {YP : World → Heap → Prop} {d : DefRec} {K : Params → Frag} {x : Str} {φ : Fn}
    (hn : l.most = some 63) (hdf : d.params.defaults = []) (hr : Room k callerA)
    (hY : ∀ (w : World) (h : Heap), YP w h → (K w.params).In h)
    (F : ∀ (w : World) (mg : Str → Option Value) (fa : Addr) (h : Heap), (K w.params).In h → h.Ns mainGlobals mg → mg d.name = some (.ref fa) →
      ∃ fd : FuncData, (∀ (s : Shared) (u : Value), BindsTo s fd ⟨[u], []⟩ [(x, u)]) ∧
        ∀ base : Heap, (K w.params).In base → base.Ns mainGlobals mg → FOk l.prog w (K w.params) mg base k fa fd [x] φ)
    (law : ∀ ns : List Int, ns.length ≤ 63 → φ [.own (.fz (.list (ns.map PyData.int)))] = .ok (.fz (.bool true))) :
    PySem.W.WalkO q loose XP YP l.row.toRowW d [] (fun f vs => PySem.call f vs) := by
  refine Att.attach_call hn hdf fun w s₀ s₁ mg mb fa o pm cd doc a vs ns G Y ho hd hcd hmg hobj hints hlen hg => ?_
  have KX := hY w _ Y
  obtain ⟨fd, hb, hF⟩ := F w mg fa _ KX G.T.g hmg
  refine law_call KX G.T.g G.T.b G.T.builtins G.T.nolimit hg hobj hints (Nat.le_trans hlen (by decide)) hr hF hb (fun H hO hS => ?_) fun H e s' ⟨_, _, _, _, _, _, _, _, _, _, _, _, hE⟩ => hE
  have lk : LK (K w.params) H a (ns.map V.int) := by
    rcases hS with h | ⟨o, its, n, hk, _, _, hs, hz, r⟩
    · exact .inl h
    · have e := KX _ _ hk
      rw [hobj] at e
      cases e
      cases hs
      exact .inr ⟨_, _, hk, hz, r⟩
  refine ⟨H, [.own (.fz (.list (ns.map PyData.int)))], Sub.refl _, rfl, .cons (.lst lk (rp_ints ns)) .nil, ?_⟩
  rw [law ns hlen]
  intro v H' F' A g o _
  have := (OR.fz_inv o).2
  cases this
  rfl
end VL

set_option Elab.async false
set_option linter.all false
set_option maxRecDepth 100000
set_option maxHeartbeats 2000000
/-! VL12: list(range(..)). -/
namespace VL
open PySem PySem.Spec PyProof.Rows L2
def rgB (a b : Int) : Bool := decide (-(2 ^ 62) ≤ a) && decide (a < 2 ^ 62) && decide (-(2 ^ 62) ≤ b) && decide (b < 2 ^ 62) && decide ((b - a).toNat ≤ 2 ^ 24)
def rgD (a b : Int) : List D := (List.range (b - a).toNat).map fun (i : Nat) => .int (a + (i : Nat))
def fLRng1 (x : RV) : Res RV := match x.d with
  | .int i => if rgB 0 i = true then .ok (.val (.ls ((rgD 0 i).map Ow.fz))) else .stuck
  | _ => .stuck
def fLRng2 (x y : RV) : Res RV := match x.d, y.d with
  | .int i, .int j => if rgB i j = true then .ok (.val (.ls ((rgD i j).map Ow.fz))) else .stuck
  | _, _ => .stuck
theorem rgB_ok {a b : Int} (h : rgB a b = true) : RgOk a b := by
  simp only [rgB, Bool.and_eq_true, decide_eq_true_eq] at h
  exact ⟨h.1.1.1.1, h.1.1.1.2, h.1.1.2, h.1.2, h.2⟩
theorem rp_rg {K : Frag} {H : Hp} (f : Nat → Int) : ∀ (l : List Nat), RpAll K H (l.map fun i => V.int (f i)) (l.map fun i => PyData.int (f i))
  | [] => .nil
  | i :: r => .cons (.int _) (rp_rg f r)
section
variable {X : Cx} {a b : Expr} {ca cb : EC} {pos p p2 : Pos}
def rLRg1 : V → Hp → VK → Prop := fun x H Q => ∃ n, x = .int n ∧ RgOk 0 n ∧ ∀ q, H q = none → Q (.ref q) (upd H q (.lst (rgV 0 n)))
def rLRg2 : R2 := fun x y H Q => ∃ i j, x = .int i ∧ y = .int j ∧ RgOk i j ∧ ∀ q, H q = none → Q (.ref q) (upd H q (.lst (rgV i j)))
theorem op1_lrng1 : Op1 X rLRg1 fLRng1 := by
  intro H0 F0 F H σ ρ x A rx Q s hx
  unfold fLRng1
  have pp := hx.dp s
  cases ed : rx.d with
  | int i =>
    rw [ed] at pp
    obtain rfl := rp_int pp
    by_cases hc : rgB 0 i = true
    · simp only [hc, if_true]
      intro k
      refine ⟨i, rfl, rgB_ok hc, fun q hq => ?_⟩
      have o : ORs X.K H F (rgV 0 i) ((rgD 0 i).map Ow.fz) [] := ORs.ofDp (rp_rg (fun k => 0 + (k : Nat)) _)
      obtain ⟨g, oo⟩ := fin_ls s o hq
      refine k _ _ _ _ g oo fun c hc => ?_
      rcases List.mem_cons.mp hc with rfl | hc
      · exact .inr hq
      · cases hc
    · simp only [hc]
      trivial
  | _ => trivial
theorem op2_lrng2 : Op2 X rLRg2 fLRng2 := by
  intro H0 F0 F H σ ρ x y A B rx ry Q s hx hy dis
  unfold fLRng2
  have px := hx.dp s
  have py := hy.dp s
  cases ex : rx.d with
  | int i =>
    cases ey : ry.d with
    | int j =>
      rw [ex] at px; rw [ey] at py
      obtain rfl := rp_int px
      obtain rfl := rp_int py
      by_cases hc : rgB i j = true
      · simp only [hc, if_true]
        intro k
        refine ⟨i, j, rfl, rfl, rgB_ok hc, fun q hq => ?_⟩
        have o : ORs X.K H F (rgV i j) ((rgD i j).map Ow.fz) [] := ORs.ofDp (rp_rg (fun k => i + (k : Nat)) _)
        obtain ⟨g, oo⟩ := fin_ls s o hq
        refine k _ _ _ _ g oo fun c hc => ?_
        rcases List.mem_cons.mp hc with rfl | hc
        · exact .inr (.inr hq)
        · cases hc
      · simp only [hc]
        trivial
    | _ => trivial
  | _ => trivial
theorem eok_lrng1 {p3 pos3 : Pos} (hl : X.mg "list" = none) (hr : X.mg "range" = none) (ha : EOk X a ca) (hc : X.calm = true := by rfl) (hg : Gl X "list" := by rfl) (hg2 : Gl X "range" := by rfl) (na : starEach [a] X.env = (false, eval a X.env) :: starEach [] X.env := by rfl)
    (ne : starEach [(.Call (.Name "range" p2) [a] [] pos : Expr)] X.env = (false, eval (.Call (.Name "range" p2) [a] [] pos) X.env) :: starEach [] X.env := by rfl) :
    EOk X (.Call (.Name "list" p3) [.Call (.Name "range" p2) [a] [] pos] [] pos3) (eUn fLRng1 ca) :=
  eok_un (R := rLRg1) (fun ta h => pe_listRg hc hg hl (prg_1 hg2 hr h na) ne) op1_lrng1 ha
theorem eok_lrng2 {p3 pos3 : Pos} (hl : X.mg "list" = none) (hr : X.mg "range" = none) (ha : EOk X a ca) (hb : EOk X b cb) (hc : X.calm = true := by rfl) (hg : Gl X "list" := by rfl) (hg2 : Gl X "range" := by rfl) (na : starEach [a, b] X.env = (false, eval a X.env) :: starEach [b] X.env := by rfl)
    (nb : starEach [b] X.env = (false, eval b X.env) :: starEach [] X.env := by rfl) (hp : (backTo pos (starEach [b] X.env)).any (·.1) = false := by rfl)
    (ne : starEach [(.Call (.Name "range" p2) [a, b] [] pos : Expr)] X.env = (false, eval (.Call (.Name "range" p2) [a, b] [] pos) X.env) :: starEach [] X.env := by rfl) :
    EOk X (.Call (.Name "list" p3) [.Call (.Name "range" p2) [a, b] [] pos] [] pos3) (eBin fLRng2 ca cb) :=
  eok_bin (R := rLRg2) (fun ta tb h h' => pe_listRg hc hg hl (prg_2 hg2 hr h h' na nb hp) ne) op2_lrng2 ha hb
end
end VL

set_option Elab.async false
set_option linter.all false
set_option maxRecDepth 100000
set_option maxHeartbeats 2000000
/-! VL13: plain lemmas about the combinators. -/
namespace VL
open PySem PySem.Spec PyProof.Rows L2
theorem forL_ix {tg : List Nat} {b : SC} {I : Nat → Rho → Prop} : ∀ (vs : List (List Sl)) (k0 : Nat) (ρ : Rho), I k0 ρ →
    (∀ k v ρ, vs[k]? = some v → I (k0 + k) ρ → ∃ ρ', (b (setAll tg v ρ) = .next ρ' ∨ b (setAll tg v ρ) = .cont ρ') ∧ I (k0 + k + 1) ρ') →
    ∃ ρ', forL tg b vs ρ = .next ρ' ∧ I (k0 + vs.length) ρ'
  | [], k0, ρ, h, _ => ⟨ρ, rfl, h⟩
  | v :: vs, k0, ρ, h, st => by
    obtain ⟨ρ1, e, h1⟩ := st 0 v ρ rfl h
    obtain ⟨ρ2, e2, h2⟩ := forL_ix vs (k0 + 1) ρ1 h1 fun k w ρ hw hI => by
      have := st (k + 1) w ρ (by simpa using hw) (by rw [show k0 + (k + 1) = k0 + 1 + k by omega]; exact hI)
      rw [show k0 + (k + 1) + 1 = k0 + 1 + k + 1 by omega] at this
      exact this
    refine ⟨ρ2, ?_, by rw [List.length_cons, show k0 + (vs.length + 1) = k0 + 1 + vs.length by omega]; exact h2⟩
    unfold forL
    rcases e with e | e <;> rw [e] <;> exact e2
/-- .. from the start -/
theorem forL_n {tg : List Nat} {b : SC} (I : Nat → Rho → Prop) {vs : List (List Sl)} {ρ : Rho} (h : I 0 ρ)
    (st : ∀ k v ρ, vs[k]? = some v → I k ρ → ∃ ρ', (b (setAll tg v ρ) = .next ρ' ∨ b (setAll tg v ρ) = .cont ρ') ∧ I (k + 1) ρ') : ∃ ρ', forL tg b vs ρ = .next ρ' ∧ I vs.length ρ' := by
  have := forL_ix (I := I) vs 0 ρ h fun k v ρ hv hI => by
    simp only [Nat.zero_add] at hI ⊢
    exact st k v ρ hv hI
  simpa using this
theorem compL_filter {tg : List Nat} {t : TC} {e : EC} {ρ : Rho} (p : List Sl → Bool) (f : List Sl → Ow) : ∀ vs : List (List Sl), (∀ v ∈ vs, t (setAll tg v ρ) = .ok (p v) ∧ (p v = true → e (setAll tg v ρ) = .ok (.val (f v)))) →
    compL tg t e vs ρ = .ok ((vs.filter p).map f)
  | [], _ => rfl
  | v :: vs, h => by
    have ih := compL_filter p f vs fun w hw => h w (List.mem_cons_of_mem _ hw)
    obtain ⟨h1, h2⟩ := h v List.mem_cons_self
    unfold compL
    rw [h1]
    cases hp : p v with
    | true =>
      rw [h2 hp]
      show (compL tg t e vs ρ).bind _ = _
      rw [ih, List.filter_cons_of_pos hp]
      rfl
    | false =>
      show compL tg t e vs ρ = _
      rw [ih, List.filter_cons_of_neg (by simp [hp])]
theorem compL_map {tg : List Nat} {t : TC} {e : EC} {ρ : Rho} (f : List Sl → Ow) (vs : List (List Sl)) (h : ∀ v ∈ vs, t (setAll tg v ρ) = .ok true ∧ e (setAll tg v ρ) = .ok (.val (f v))) :
    compL tg t e vs ρ = .ok (vs.map f) := by
  have := compL_filter (t := t) (e := e) (ρ := ρ) (tg := tg) (fun _ => true) f vs fun v hv => ⟨(h v hv).1, fun _ => (h v hv).2⟩
  rw [this, List.filter_eq_self.mpr (fun _ _ => rfl)]
theorem whileN_mono {t : TC} {b : SC} : ∀ (n m : Nat) (ρ : Rho), whileN t b n ρ ≠ .stuck → n ≤ m → whileN t b m ρ = whileN t b n ρ
  | 0, _, _, h, _ => absurd rfl h
  | n + 1, 0, _, _, h => by omega
  | n + 1, m + 1, ρ, h, hm => by
    unfold whileN at h ⊢
    cases e : t ρ with
    | stuck => rfl
    | err x => rfl
    | ok c =>
      rw [e] at h
      cases c with
      | false => rfl
      | true =>
        simp only at h ⊢
        cases e2 : b ρ with
        | next ρ' => rw [e2] at h; exact whileN_mono n m ρ' h (by omega)
        | cont ρ' => rw [e2] at h; exact whileN_mono n m ρ' h (by omega)
        | _ => rfl
theorem sWhile_of {t : TC} {b : SC} {n : Nat} {ρ ρ' : Rho} (h : whileN t b n ρ = .next ρ') (hn : n ≤ fuel) : sWhile t b ρ = .next ρ' := by
  unfold sWhile
  rw [whileN_mono n fuel ρ (by rw [h]; simp) hn, h]
/-! rows of ints -/
def oI (ns : List Int) : List Ow := ns.map fun n => .fz (.int n)
def dI (ns : List Int) : List D := ns.map .int
theorem oI_fz (ns : List Int) : (dI ns).map Ow.fz = oI ns := by unfold oI dI; rw [List.map_map]; rfl
theorem toDs_oI (ns : List Int) : toDs (oI ns) = dI ns := by rw [← oI_fz, toDs_fz]
theorem oI_all (ns : List Int) : (oI ns).all isFz = true := by
  rw [List.all_eq_true]; intro x hx
  obtain ⟨n, _, rfl⟩ := List.mem_map.mp hx
  rfl
theorem dI_scal (ns : List Int) : (dI ns).all scal = true := by
  rw [List.all_eq_true]; intro x hx
  obtain ⟨n, _, rfl⟩ := List.mem_map.mp hx
  rfl
theorem oI_app (ns : List Int) (n : Int) : oI ns ++ [Ow.fz (.int n)] = oI (ns ++ [n]) := by unfold oI; rw [List.map_append]; rfl
theorem oI_get (ns : List Int) (k : Nat) : (oI ns)[k]? = (ns[k]?).map fun n => .fz (.int n) := by unfold oI; rw [List.getElem?_map]
theorem dI_get (ns : List Int) (k : Nat) : (dI ns)[k]? = (ns[k]?).map PyData.int := by unfold dI; rw [List.getElem?_map]
theorem oI_len (ns : List Int) : (oI ns).length = ns.length := by unfold oI; rw [List.length_map]
theorem dI_len (ns : List Int) : (dI ns).length = ns.length := by unfold dI; rw [List.length_map]
theorem intsOf_dI : ∀ ns : List Int, intsOf (dI ns) = some ns
  | [] => rfl
  | n :: r => by
    show (match intsOf (dI r) with | some is => some (n :: is) | none => none) = _
    rw [intsOf_dI r]
theorem eqF_int (a b : Int) : eqF (.int a) (.int b) = decide (a = b) := by
  show (a == b) = _
  by_cases h : a = b <;> simp [h]
theorem any_dI (ns : List Int) (x : Int) : ((dI ns).any fun d => eqF d (.int x)) = decide (x ∈ ns) := by
  induction ns with
  | nil => simp [dI]
  | cons n r ih =>
    show (eqF (.int n) (.int x) || (dI r).any _) = _
    rw [ih, eqF_int]
    by_cases h : n = x
    · simp [h]
    · have h' : ¬ x = n := fun e => h e.symm
      simp [h, h']
theorem fIn_dI {y : RV} {ns : List Int} (x : Int) (h : rowOf y.d = some (dI ns)) : fIn (.val (.fz (.int x))) y = .ok (.val (.fz (.bool (decide (x ∈ ns))))) := by
  unfold fIn
  rw [h]
  simp only [RV.d, Ow.toD, scal, dI_scal, and_self, if_true, any_dI, rD]
theorem fNotIn_dI {y : RV} {ns : List Int} (x : Int) (h : rowOf y.d = some (dI ns)) : fNotIn (.val (.fz (.int x))) y = .ok (.val (.fz (.bool (!decide (x ∈ ns))))) := by
  unfold fNotIn
  rw [h]
  simp only [RV.d, Ow.toD, scal, dI_scal, and_self, if_true, any_dI, rD]
theorem atI_nat {α : Type} (xs : List α) {k : Int} (h0 : 0 ≤ k) (h1 : k < xs.length) : atI xs k = xs[k.toNat]? := by
  unfold atI ixN
  rw [if_pos h0, if_pos h1]
  rfl
theorem fIx_row {d e : D} {ds : List D} {k : Int} (h : rowOf d = some ds) (h0 : 0 ≤ k) (h1 : ds[k.toNat]? = some e) : fIx (.val (.fz d)) (.val (.fz (.int k))) = .ok (.val (.fz e)) := by
  have hl : k < ds.length := by
    have := (List.getElem?_eq_some_iff.mp h1).1
    omega
  unfold fIx
  cases d with
  | list es => cases h; simp only [RV.d, Ow.toD, atI_nat _ h0 hl, h1, rD]
  | tuple es => cases h; simp only [RV.d, Ow.toD, atI_nat _ h0 hl, h1, rD]
  | _ => cases h
theorem fIx_oI {i : Nat} {ns : List Int} {k e : Int} (h0 : 0 ≤ k) (h1 : ns[k.toNat]? = some e) : fIx (.ref i [] (.ls (oI ns))) (.val (.fz (.int k))) = .ok (.val (.fz (.int e))) := by
  have hl : k < (oI ns).length := by
    have := (List.getElem?_eq_some_iff.mp h1).1
    rw [oI_len]; omega
  unfold fIx
  simp only [RV.d, Ow.toD, ixN, if_pos h0, if_pos hl, oI_get, h1, Option.map_some]
  rfl
/-! what may be compared -/
theorem shaped_int (i : Int) : SeqAt.shaped (.int i) = true := rfl
theorem shaped_none : SeqAt.shaped .none = true := rfl
theorem shaped_bool (b : Bool) : SeqAt.shaped (.bool b) = true := rfl
theorem fEq_int (i j : Int) : fEq (.val (.fz (.int i))) (.val (.fz (.int j))) = .ok (.val (.fz (.bool (decide (i = j))))) := by
  unfold fEq
  simp only [RV.d, Ow.toD, shaped_int, and_self, if_true, rD, PyData.eqv]
  by_cases h : i = j <;> simp [h]
theorem fNe_int (i j : Int) : fNe (.val (.fz (.int i))) (.val (.fz (.int j))) = .ok (.val (.fz (.bool (!decide (i = j))))) := by
  unfold fNe
  simp only [RV.d, Ow.toD, shaped_int, and_self, if_true, rD, PyData.eqv]
  by_cases h : i = j <;> simp [h]
/-- trees of ints, at most n rows deep -/
def flat : Nat → D → Bool
  | _, .int _ => true
  | _, .none => true
  | n + 1, .list ds => ds.all (flat n)
  | n + 1, .tuple ds => ds.all (flat n)
  | _, _ => false
theorem flat_lay : ∀ (n : Nat) (d : D), flat n d = true → d.canLay0 = true ∧ d.depth ≤ n := by
  intro n
  induction n with
  | zero => intro d h; cases d <;> first | exact ⟨rfl, Nat.le_refl _⟩ | cases h
  | succ n ih =>
    have all : ∀ ds : List D, ds.all (flat n) = true → PyData.canLayAll0 ds = true ∧ PyData.depthAll ds ≤ n := by
      intro ds
      induction ds with
      | nil => intro _; exact ⟨rfl, Nat.zero_le _⟩
      | cons d ds ihd =>
        intro h
        simp only [List.all_cons, Bool.and_eq_true] at h
        obtain ⟨a1, a2⟩ := ih d h.1
        obtain ⟨b1, b2⟩ := ihd h.2
        exact ⟨by simp only [PyData.canLayAll0, a1, b1, Bool.and_self], by simp only [PyData.depthAll]; omega⟩
    intro d h
    cases d with
    | int i => exact ⟨rfl, Nat.zero_le _⟩
    | none => exact ⟨rfl, Nat.zero_le _⟩
    | list ds =>
      obtain ⟨a, b⟩ := all ds h
      exact ⟨by simp only [PyData.canLay0, a], by simp only [PyData.depth]; omega⟩
    | tuple ds =>
      obtain ⟨a, b⟩ := all ds h
      exact ⟨by simp only [PyData.canLay0, a], by simp only [PyData.depth]; omega⟩
    | _ => cases h
theorem flat_shaped {n : Nat} {d : D} (h : flat n d = true) (hn : n ≤ 64) : SeqAt.shaped d = true := by
  obtain ⟨a, b⟩ := flat_lay n d h
  unfold SeqAt.shaped
  simp only [a, Bool.true_and, decide_eq_true_eq]
  omega
theorem flat_dI (n : Nat) (ns : List Int) : flat (n + 1) (.list (dI ns)) = true := by
  show (dI ns).all (flat n) = true
  rw [List.all_eq_true]; intro x hx
  obtain ⟨i, _, rfl⟩ := List.mem_map.mp hx
  cases n <;> rfl
/-- a tree is itself -/
theorem fNe_same {n : Nat} {x y : RV} (e : x.d = y.d) (h : flat n y.d = true) (hn : n ≤ 64 := by decide) : fNe x y = .ok (.val (.fz (.bool false))) := by
  unfold fNe
  rw [e]
  have := flat_shaped h hn
  rw [if_pos ⟨this, this⟩, PySem.SeqAt.eqv_refl _ (flat_lay n _ h).1]
  rfl
end VL

set_option Elab.async false
set_option linter.all false
set_option maxRecDepth 100000
set_option maxHeartbeats 2000000
/-! VL14: steps of the plain reading. -/
namespace VL
open PySem
theorem run_ret {b : SC} {n : Nat} {as : List Sl} {ow : Ow} (ρ : Rho) (h : b ρ = .ret ow) (hρ : as.map some ++ List.replicate (n - as.length) none = ρ := by rfl) : runBody b n as = .ok ow := by
  unfold runBody
  rw [hρ, h]
theorem seq_n {a b : SC} {ρ ρ' : Rho} {r : SRes} (h : a ρ = .next ρ') (k : b ρ' = r) : sSeq a b ρ = r := by
  unfold sSeq; rw [h]; exact k
theorem seq_r {a b : SC} {ρ : Rho} {ow : Ow} (h : a ρ = .ret ow) : sSeq a b ρ = .ret ow := by
  unfold sSeq; rw [h]
theorem for_n {tg : List Nat} {it : IC} {b : SC} {vs : List (List Sl)} {ρ ρ' : Rho} (h : it ρ = .ok vs) (k : forL tg b vs ρ = .next ρ') : sFor tg it b ρ = .next ρ' := by
  unfold sFor; rw [h]; exact k
theorem for_r {tg : List Nat} {it : IC} {b : SC} {vs : List (List Sl)} {ρ : Rho} {r : SRes} (h : it ρ = .ok vs) (k : forL tg b vs ρ = r) : sFor tg it b ρ = r := by
  unfold sFor; rw [h]; exact k
theorem set_v {i : Nat} {a : EC} {ρ : Rho} {ow : Ow} (h : a ρ = .ok (.val ow)) : sSet i a ρ = .next (ρ.set i (some (.own ow))) := by
  unfold sSet; rw [h]
theorem ret_v {a : EC} {ρ : Rho} {ow : Ow} (h : a ρ = .ok (.val ow)) : sRet a ρ = .ret ow := by
  unfold sRet; rw [h]
theorem if_t {t : TC} {a b : SC} {ρ : Rho} {r : SRes} (h : t ρ = .ok true) (k : a ρ = r) : sIf t a b ρ = r := by
  unfold sIf; rw [h]; exact k
theorem if_f {t : TC} {a b : SC} {ρ : Rho} {r : SRes} (h : t ρ = .ok false) (k : b ρ = r) : sIf t a b ρ = r := by
  unfold sIf; rw [h]; exact k
theorem frz_n {i : Nat} {a : SC} {ρ : Rho} {r : SRes} (h : a (ρ.set i (frzSl ρ[i]?)) = r) : sFrz i a ρ = r := h
theorem call_ok {φ : Fn} {cs : List EC} {ρ : Rho} {xs : List RV} {ow : Ow} (h : VL.evalAll cs ρ = .ok xs) (k : φ (xs.map RV.arg) = .ok ow) : eCall φ cs ρ = .ok (.val ow) := by
  unfold eCall
  rw [h]
  show (φ (xs.map RV.arg)).bind _ = _
  rw [k]; rfl
theorem comp_v {tg : List Nat} {it : IC} {t : TC} {e : EC} {ρ : Rho} {vs : List (List Sl)} {os : List Ow} (h : it ρ = .ok vs) (hl : vs.length ≤ 16777216) (k : compL tg t e vs (wipeR tg ρ) = .ok os) : eComp tg it t e ρ = .ok (.val (.ls os)) := by
  unfold eComp
  rw [h]
  show (if vs.length ≤ 16777216 then _ else _) = _
  rw [if_pos hl, k]
theorem un_v {f : RV → Res RV} {a : EC} {ρ : Rho} {x : RV} {r : Res RV} (h : a ρ = .ok x) (k : f x = r) : eUn f a ρ = r := by
  unfold eUn; rw [h]; exact k
theorem bin_v {f : RV → RV → Res RV} {a b : EC} {ρ : Rho} {x y : RV} {r : Res RV} (h : a ρ = .ok x) (h' : b ρ = .ok y) (k : f x y = r) : eBin f a b ρ = r := by
  unfold eBin; rw [h]; show (b ρ).bind _ = _; rw [h']; exact k
theorem fIx_oI' {i : Nat} {ns : List Int} {k : Nat} {e : Int} (h1 : ns[k]? = some e) : fIx (.ref i [] (.ls (oI ns))) (.val (.fz (.int k))) = .ok (.val (.fz (.int e))) := fIx_oI (by omega) (by simpa using h1)
theorem fIx_row' {d e : D} {ds : List D} {k : Nat} (h : rowOf d = some ds) (h1 : ds[k]? = some e) : fIx (.val (.fz d)) (.val (.fz (.int k))) = .ok (.val (.fz e)) := fIx_row h (by omega) (by simpa using h1)
/-- whole numbers in a range -/
theorem rangeS_get {lo hi : Int} {k : Nat} {v : List Sl} (h : (rangeS lo hi)[k]? = some v) : v = [slOf (.int (lo + k))] ∧ k < (hi - lo).toNat := by
  unfold rangeS at h
  rw [List.getElem?_map] at h
  by_cases hk : k < (hi - lo).toNat
  · rw [List.getElem?_range hk] at h
    simp at h
    exact ⟨h.symm, hk⟩
  · rw [List.getElem?_eq_none (by simpa using hk)] at h
    cases h
theorem rangeS_len (lo hi : Int) : (rangeS lo hi).length = (hi - lo).toNat := by unfold rangeS; rw [List.length_map, List.length_range]
theorem row_get {ds : List D} {k : Nat} {v : List Sl} (h : ((ds.map slOf).map fun s => [s])[k]? = some v) : ∃ d, ds[k]? = some d ∧ v = [.own (.fz d)] := by
  rw [List.getElem?_map, List.getElem?_map] at h
  cases e : ds[k]? with
  | none => rw [e] at h; cases h
  | some d => rw [e] at h; simp at h; exact ⟨d, rfl, h.symm⟩
theorem enum_get {ds : List D} {k : Nat} {v : List Sl} (h : (enumS 0 (ds.map slOf))[k]? = some v) : ∃ d, ds[k]? = some d ∧ v = [.own (.fz (.int k)), .own (.fz d)] := by
  rw [enumS_get, List.getElem?_map] at h
  cases e : ds[k]? with
  | none => rw [e] at h; cases h
  | some d =>
    rw [e] at h; simp at h
    refine ⟨d, rfl, ?_⟩
    rw [← h]; rfl
/-- ascending whole numbers between two bounds -/
def Asc (lo hi : Int) (ns : List Int) : Prop := ns.Pairwise (· < ·) ∧ ∀ x ∈ ns, lo ≤ x ∧ x ≤ hi
theorem Asc.step {lo hi : Int} {ns : List Int} (h : Asc lo hi ns) {k : Nat} {x y : Int} (hk : 0 < k) (hx : ns[k - 1]? = some x) (hy : ns[k]? = some y) : x < y := by
  obtain ⟨h1, e1⟩ := List.getElem?_eq_some_iff.mp hx
  obtain ⟨h2, e2⟩ := List.getElem?_eq_some_iff.mp hy
  have := List.pairwise_iff_getElem.mp h.1 (k - 1) k h1 h2 (by omega)
  rw [e1, e2] at this
  exact this
theorem Asc.nodup {lo hi : Int} {ns : List Int} (h : Asc lo hi ns) : ns.Nodup := h.1.imp fun h e => by omega
theorem Asc.nil (lo hi : Int) : Asc lo hi [] := ⟨.nil, fun _ h => by cases h⟩
def rgI (a b : Int) : List Int := (List.range (b - a).toNat).map fun (k : Nat) => a + k
theorem rgI_len (a b : Int) : (rgI a b).length = (b - a).toNat := by unfold rgI; rw [List.length_map, List.length_range]
theorem rgI_get {a b : Int} {k : Nat} {x : Int} (h : (rgI a b)[k]? = some x) : x = a + k ∧ k < (b - a).toNat := by
  unfold rgI at h
  rw [List.getElem?_map] at h
  by_cases hk : k < (b - a).toNat
  · rw [List.getElem?_range hk] at h
    simp at h
    exact ⟨h.symm, hk⟩
  · rw [List.getElem?_eq_none (by simpa using hk)] at h
    cases h
theorem mem_rgI {a b x : Int} : x ∈ rgI a b ↔ a ≤ x ∧ x < b := by
  unfold rgI
  rw [List.mem_map]
  constructor
  · rintro ⟨k, hk, rfl⟩
    have := List.mem_range.mp hk
    omega
  · intro h
    exact ⟨(x - a).toNat, List.mem_range.mpr (by omega), by omega⟩
theorem rgD_dI (a b : Int) : rgD a b = dI (rgI a b) := by unfold rgD dI rgI; rw [List.map_map]; rfl
theorem lrng1_s {n : Int} (h0 : -1000 ≤ n) (h : n ≤ 1000) : fLRng1 (.val (.fz (.int n))) = .ok (.val (.ls (oI (rgI 0 n)))) := by
  have hb : rgB 0 n = true := by simp only [rgB, Bool.and_eq_true, decide_eq_true_eq]; omega
  show (if rgB 0 n = true then _ else _) = _
  rw [if_pos hb, rgD_dI, oI_fz]
theorem lrng2_s {m n : Int} (h2 : -1000 ≤ m) (h3 : m ≤ 1000) (h0 : -1000 ≤ n) (h : n ≤ 1000) : fLRng2 (.val (.fz (.int m))) (.val (.fz (.int n))) = .ok (.val (.ls (oI (rgI m n)))) := by
  have hb : rgB m n = true := by simp only [rgB, Bool.and_eq_true, decide_eq_true_eq]; omega
  show (if rgB m n = true then _ else _) = _
  rw [if_pos hb, rgD_dI, oI_fz]
theorem rng1_s {a : EC} {ρ : Rho} {n : Int} (h : a ρ = .ok (.val (.fz (.int n)))) (h0 : -1000 ≤ n) (h1 : n ≤ 1000) : iRng1 a ρ = .ok (rangeS 0 n) := by
  have hb : rngOk n = true := by simp only [rngOk, Bool.and_eq_true, decide_eq_true_eq]; omega
  unfold iRng1
  rw [h]
  show (if rngOk n = true then _ else _) = _
  rw [if_pos hb]
theorem row_s {a : EC} {ρ : Rho} {d : D} {ds : List D} (h : a ρ = .ok (.val (.fz d))) (e : rowOf d = some ds) : iRow a ρ = .ok ((ds.map slOf).map fun s => [s]) := by
  unfold iRow
  rw [h]
  show (match (RV.val (.fz d)).iter with | some ss => Res.ok (ss.map fun s => [s]) | none => .stuck) = _
  have : (RV.val (.fz d)).iter = some (ds.map slOf) := by
    show (match rowOf d with | some ds => some (ds.map slOf) | none => none) = _
    rw [e]
  rw [this]
theorem enum_s {a : EC} {ρ : Rho} {d : D} {ds : List D} (h : a ρ = .ok (.val (.fz d))) (e : rowOf d = some ds) : iEnum a ρ = .ok (enumS 0 (ds.map slOf)) := by
  unfold iEnum
  rw [h]
  show (match (RV.val (.fz d)).iter with | some ss => Res.ok (enumS 0 ss) | none => .stuck) = _
  have : (RV.val (.fz d)).iter = some (ds.map slOf) := by
    show (match rowOf d with | some ds => some (ds.map slOf) | none => none) = _
    rw [e]
  rw [this]
theorem list_s {d : D} {ds : List D} (h : rowOf d = some ds) : fList (.val (.fz d)) = .ok (.val (.ls (ds.map Ow.fz))) := by
  cases d with
  | list _ => cases h; rfl
  | tuple _ => cases h; rfl
  | _ => cases h
theorem len_s {d : D} {ds : List D} (h : rowOf d = some ds) : fLen (.val (.fz d)) = .ok (.val (.fz (.int ds.length))) := by
  cases d with
  | list _ => cases h; rfl
  | tuple _ => cases h; rfl
  | _ => cases h
theorem asc_rgI (a b : Int) : Asc a (b - 1) (rgI a b) := by
  refine ⟨?_, fun x hx => ?_⟩
  · unfold rgI
    rw [List.pairwise_map]
    exact List.pairwise_lt_range.imp fun h => by omega
  · have := mem_rgI.mp hx
    omega
theorem asc_filter {lo hi : Int} {ns : List Int} (h : Asc lo hi ns) (p : Int → Bool) : Asc lo hi (ns.filter p) := ⟨h.1.filter p, fun x hx => h.2 x (List.mem_filter.mp hx).1⟩
theorem len_le_of_nodup {α : Type} [DecidableEq α] : ∀ {l m : List α}, l.Nodup → (∀ x ∈ l, x ∈ m) → l.length ≤ m.length
  | [], _, _, _ => Nat.zero_le _
  | x :: l, m, h, k => by
    have h' := List.nodup_cons.mp h
    have hx := k x List.mem_cons_self
    have := len_le_of_nodup (l := l) (m := m.erase x) h'.2 fun y hy => (List.mem_erase_of_ne (fun e => h'.1 (by rw [← e]; exact hy))).mpr (k y (List.mem_cons_of_mem _ hy))
    rw [List.length_erase_of_mem hx] at this
    have : 0 < m.length := List.length_pos_of_mem hx
    simp only [List.length_cons]; omega
theorem len_le_days {n : Nat} {r : List Int} (h : r.Nodup) (k : ∀ x ∈ r, 1 ≤ x ∧ x ≤ n) : r.length ≤ n := by
  have := len_le_of_nodup (m := (List.range n).map fun (i : Nat) => (i : Int) + 1) h fun x hx => by
    have := k x hx
    exact List.mem_map.mpr ⟨(x - 1).toNat, List.mem_range.mpr (by omega), by omega⟩
  simpa using this
end VL

set_option Elab.async false
set_option linter.all false
set_option maxRecDepth 100000
set_option maxHeartbeats 2000000
/-! VL15: more steps of the plain reading. -/
namespace VL
open PySem
theorem compL_pt {tg : List Nat} {t : TC} {e : EC} {ρ : Rho} : ∀ (vs : List (List Sl)) (os : List Ow), vs.length = os.length → (∀ (k : Nat) v o, vs[k]? = some v → os[k]? = some o → t (setAll tg v ρ) = .ok true ∧ e (setAll tg v ρ) = .ok (.val o)) → compL tg t e vs ρ = .ok os
  | [], [], _, _ => rfl
  | [], _ :: _, h, _ => by simp at h
  | _ :: _, [], h, _ => by simp at h
  | v :: vs, o :: os, h, k => by
    obtain ⟨h1, h2⟩ := k 0 v o rfl rfl
    have ih := compL_pt vs os (by simpa using h) fun j w p hw hp => k (j + 1) w p (by simpa using hw) (by simpa using hp)
    unfold compL
    rw [h1]
    show (match e (setAll tg v ρ) with | .ok x => _ | _ => _) = _
    rw [h2]
    show (compL tg t e vs ρ).bind _ = _
    rw [ih]
    rfl
/-- .. some left out -/
theorem compL_fpt {tg : List Nat} {t : TC} {e : EC} {ρ : Rho} : ∀ (vs : List (List Sl)) (xs : List (Bool × Ow)), vs.length = xs.length → (∀ (k : Nat) v b o, vs[k]? = some v → xs[k]? = some (b, o) → t (setAll tg v ρ) = .ok b ∧ (b = true → e (setAll tg v ρ) = .ok (.val o))) → compL tg t e vs ρ = .ok ((xs.filter (·.1)).map (·.2))
  | [], [], _, _ => rfl
  | [], _ :: _, h, _ => by simp at h
  | _ :: _, [], h, _ => by simp at h
  | v :: vs, (b, o) :: xs, h, k => by
    obtain ⟨h1, h2⟩ := k 0 v b o rfl rfl
    have ih := compL_fpt vs xs (by simpa using h) fun j w b p hw hp => k (j + 1) w b p (by simpa using hw) (by simpa using hp)
    unfold compL
    rw [h1]
    cases b with
    | false => exact ih
    | true =>
      show (match e (setAll tg v ρ) with | .ok x => _ | _ => _) = _
      rw [h2 rfl]
      show (compL tg t e vs ρ).bind _ = _
      rw [ih]
      rfl
theorem parts_s {d : D} {ds : List D} (h : rowOf d = some ds) : (RV.val (.fz d)).parts = some (ds.map slOf) := by
  cases d with
  | list _ => cases h; rfl
  | tuple _ => cases h; rfl
  | _ => cases h
theorem unp_s {tg : List Nat} {a : EC} {ρ : Rho} {d : D} {ds : List D} (h : a ρ = .ok (.val (.fz d))) (e : rowOf d = some ds) (hl : ds.length = tg.length) : sUnp tg a ρ = .next (setAll tg (ds.map slOf) ρ) := by
  unfold sUnp
  rw [h]
  show (match (RV.val (.fz d)).parts with | some ss => _ | none => _) = _
  rw [parts_s e]
  show (if (ds.map slOf).length = tg.length then _ else _) = _
  rw [if_pos (by rw [List.length_map]; exact hl)]
/-- rows of rows -/
def Rows (ds : List D) (S : List (List D)) : Prop := ds.map rowOf = S.map some
theorem Rows.len {ds : List D} {S : List (List D)} (h : Rows ds S) : ds.length = S.length := by have := congrArg List.length h; simpa using this
theorem Rows.get {ds : List D} {S : List (List D)} (h : Rows ds S) {k : Nat} {x : D} (e : ds[k]? = some x) : ∃ s, S[k]? = some s ∧ rowOf x = some s := by
  have := congrArg (fun l => l[k]?) h
  simp only [List.getElem?_map, e, Option.map_some] at this
  cases es : S[k]? with
  | none => rw [es] at this; cases this
  | some s => rw [es] at this; exact ⟨s, rfl, by simpa using this⟩
def lsO (S : List (List D)) : Ow := .ls (S.map fun s => .ls (s.map Ow.fz))
theorem toDs_cons (x : Ow) (xs : List Ow) : toDs (x :: xs) = x.toD :: toDs xs := rfl
theorem toDs_is : ∀ xs : List Ow, toDs xs = xs.map Ow.toD
  | [] => rfl
  | x :: xs => by rw [toDs_cons, toDs_is xs]; rfl
theorem lsO_toD (S : List (List D)) : (lsO S).toD = .list (S.map .list) := by
  show PyData.list (toDs _) = _
  rw [toDs_is, List.map_map]
  congr 1
  refine List.map_congr_left fun s _ => ?_
  show PyData.list (toDs (s.map Ow.fz)) = _
  rw [toDs_fz]
theorem app_s {i : Nat} {o a : EC} {ρ : Rho} {xs : List Ow} {ow : Ow} (h : o ρ = .ok (.ref i [] (.ls xs))) (h' : a ρ = .ok (.val ow)) (hr : ρ[i]? = some (some (.own (.ls xs)))) (hl : xs.length < 16777216) : sApp o a ρ = .next (ρ.set i (some (.own (.ls (xs ++ [ow]))))) := by
  unfold sApp
  rw [h]
  show (match a ρ with | .ok (.val ow) => _ | .err x => _ | _ => _) = _
  rw [h']
  show (if xs.length < 16777216 then _ else _) = _
  rw [if_pos hl]
  unfold putAt
  rw [hr]
  rfl
theorem sorted_ls {ns : List Int} {x : RV} (h : x.d = .list (dI ns)) : fSorted x = .ok (.val (.ls (oI (sortI ns)))) := by
  unfold fSorted
  rw [h]
  show (match intsOf (dI ns) with | some ns => _ | none => _) = _
  rw [intsOf_dI]
  rfl
theorem sum_ls {ns : List Int} {x : RV} (h : x.d = .list (dI ns)) : fSum x = .ok (.val (.fz (.int ns.sum))) := by
  unfold fSum
  rw [h]
  show (match intsOf (dI ns) with | some ns => _ | none => _) = _
  rw [intsOf_dI]
  rfl
theorem oI_toD (ns : List Int) : (Ow.ls (oI ns)).toD = .list (dI ns) := by show PyData.list (toDs (oI ns)) = _; rw [toDs_oI]
theorem len_ls {x : RV} {xs : List D} (h : x.d = .list xs) : fLen x = .ok (.val (.fz (.int xs.length))) := by
  unfold fLen
  rw [h]
  rfl
theorem len_v (os : List Ow) : fLen (.val (.ls os)) = .ok (.val (.fz (.int os.length))) := by
  rw [len_ls (xs := toDs os) rfl, toDs_is, List.length_map]
theorem take_succ {α : Type} {xs : List α} {k : Nat} {x : α} (h : xs[k]? = some x) : xs.take (k + 1) = xs.take k ++ [x] := by
  obtain ⟨q1, q2⟩ := List.getElem?_eq_some_iff.mp h
  rw [List.take_succ_eq_append_getElem q1, q2]
end VL

set_option Elab.async false
set_option linter.all false
set_option maxRecDepth 100000
set_option maxHeartbeats 2000000
/-! VL16: comprehensions over ranges, slices of rows of ints. -/
namespace VL
open PySem
theorem wipe1 (i : Nat) (ρ : Rho) : wipeR [i] ρ = ρ.set i none := rfl
theorem comp_rng {i n : Nat} {a : EC} {t : TC} {e : EC} {ρ : Rho} (p : Nat → Bool) (f : Nat → Int) (ha : a ρ = .ok (.val (.fz (.int n)))) (hn : n ≤ 1000)
    (h : ∀ k < n, t ((ρ.set i none).set i (some (.own (.fz (.int k))))) = .ok (p k) ∧ (p k = true → e ((ρ.set i none).set i (some (.own (.fz (.int k))))) = .ok (.val (.fz (.int (f k)))))) :
    eComp [i] (iRng1 a) t e ρ = .ok (.val (.ls (oI (((List.range n).filter p).map f)))) := by
  refine (comp_v (rng1_s ha (by omega) (by omega)) (by rw [rangeS_len]; omega) (compL_fpt _ ((List.range n).map fun k => (p k, .fz (.int (f k)))) (by rw [rangeS_len]; simp) ?_)).trans ?_
  · intro k v b o hv ho
    obtain ⟨rfl, hk⟩ := rangeS_get hv
    have hk' : k < n := by omega
    rw [List.getElem?_map, List.getElem?_range hk'] at ho
    cases ho
    have := h k hk'
    show t (((ρ.set i none)).set i (some (.own (.fz (.int (0 + (k : Nat))))))) = _ ∧ (_ → e (((ρ.set i none)).set i (some (.own (.fz (.int (0 + (k : Nat))))))) = _)
    rw [Int.zero_add]
    exact this
  · rw [List.filter_map, List.map_map]
    unfold oI
    rw [List.map_map]
    rfl
theorem asc_frange (c : Int) (n : Nat) (p : Nat → Bool) : Asc c (n - 1 + c) (((List.range n).filter p).map fun (k : Nat) => (k : Int) + c) := by
  refine ⟨?_, fun x hx => ?_⟩
  · rw [List.pairwise_map]
    exact (List.pairwise_lt_range.filter p).imp fun h => by omega
  · obtain ⟨k, hk, rfl⟩ := List.mem_map.mp hx
    have := List.mem_range.mp (List.mem_filter.mp hk).1
    omega
theorem cutL_oI (ns : List Int) (lo hi : Option Int) : cutL (oI ns) lo hi = oI (cutL ns lo hi) := by
  unfold cutL
  rw [oI_len]
  unfold oI
  rw [List.map_take, List.map_drop]
theorem cut_len {ns : List Int} {lo hi : Int} (h0 : 0 ≤ lo) (h1 : lo ≤ hi) (h2 : hi ≤ ns.length) : (cutL ns (some lo) (some hi)).length = (hi - lo).toNat := by
  unfold cutL HT.sIx
  simp only [List.length_take, List.length_drop]
  rw [if_neg (by omega), if_neg (by omega)]
  omega
theorem slice_s {a lo hi : EC} {ρ : Rho} {i : Nat} {ns : List Int} {l h : Int} (ha : a ρ = .ok (.ref i [] (.ls (oI ns)))) (hl : lo ρ = .ok (.val (.fz (.int l)))) (hh : hi ρ = .ok (.val (.fz (.int h)))) : eSlice a (some lo) (some hi) ρ = .ok (.val (.ls (oI (cutL ns (some l) (some h))))) := by
  unfold eSlice
  rw [ha]
  show ((lo ρ).bind _).bind _ = _
  rw [hl]
  show ((hi ρ).bind _).bind _ = _
  rw [hh]
  show (match (RV.ref i [] (.ls (oI ns))).items with | some xs => _ | none => _) = _
  have : (RV.ref i [] (.ls (oI ns))).items = some (oI ns) := by
    show (if (oI ns).all isFz = true then some (oI ns) else none) = _
    rw [if_pos (oI_all ns)]
  rw [this, ← cutL_oI]
theorem row_ls {a : EC} {ρ : Rho} {ds : List D} (h : a ρ = .ok (.val (.ls (ds.map Ow.fz)))) : iRow a ρ = .ok ((ds.map slOf).map fun s => [s]) := by
  unfold iRow
  rw [h]
  show (match (RV.val (.ls (ds.map Ow.fz))).iter with | some ss => Res.ok (ss.map fun s => [s]) | none => .stuck) = _
  have : (RV.val (.ls (ds.map Ow.fz))).iter = some (ds.map slOf) := by
    show (match rowOf (.list (toDs (ds.map Ow.fz))) with | some ds => some (ds.map slOf) | none => none) = _
    rw [toDs_fz]
    rfl
  rw [this]
theorem cat_s {ds : List D} {os : List Ow} (h : ds.length + os.length ≤ 16777216) : fAdd (.val (.fz (.list ds))) (.val (.ls os)) = .ok (.val (.ls (ds.map Ow.fz ++ os))) := by
  show (if (ds.map Ow.fz).length + os.length ≤ 16777216 then _ else _) = _
  rw [if_pos (by rw [List.length_map]; exact h)]
theorem and_t {a b : TC} {ρ : Rho} {r : Res Bool} (h : a ρ = .ok true) (k : b ρ = r) : VL.tAnd a b ρ = r := by
  unfold VL.tAnd
  rw [h]; exact k
theorem and_f {a b : TC} {ρ : Rho} (h : a ρ = .ok false) : VL.tAnd a b ρ = .ok false := by
  unfold VL.tAnd
  rw [h]; rfl
theorem or_f {a b : TC} {ρ : Rho} {r : Res Bool} (h : a ρ = .ok false) (k : b ρ = r) : VL.tOr a b ρ = r := by
  unfold VL.tOr
  rw [h]; exact k
theorem ev_cons {c : EC} {cs : List EC} {ρ : Rho} {x : RV} {xs : List RV} (h : c ρ = .ok x) (h' : VL.evalAll cs ρ = .ok xs) : VL.evalAll (c :: cs) ρ = .ok (x :: xs) := by
  unfold VL.evalAll
  rw [h]
  show (VL.evalAll cs ρ).bind _ = _
  rw [h']; rfl
theorem ix_val {ns : List Int} {k : Nat} {e : Int} (h1 : ns[k]? = some e) : fIx (.val (.ls (oI ns))) (.val (.fz (.int k))) = .ok (.val (.fz (.int e))) := by
  have hl : (k : Int) < (oI ns).length := by
    have := (List.getElem?_eq_some_iff.mp h1).1
    rw [oI_len]; omega
  unfold fIx
  simp only [RV.d, Ow.toD, atI_nat _ (Int.natCast_nonneg k) hl, Int.toNat_natCast, oI_get, h1, Option.map_some]
theorem mul_r (i j : Int) (h : -(2 ^ 64) < j ∧ j < 2 ^ 64) : fMul (.val (.fz (.int i))) (.val (.fz (.int j))) = .ok (.val (.fz (.int (i * j)))) := by
  have : mulOk i j = true := by
    simp only [mulOk, Bool.or_eq_true, Bool.and_eq_true, decide_eq_true_eq]
    exact .inr h
  show (if mulOk i j = true then _ else _) = _
  rw [if_pos this]; rfl
theorem mul_l (i j : Int) (h : -(2 ^ 64) < i ∧ i < 2 ^ 64) : fMul (.val (.fz (.int i))) (.val (.fz (.int j))) = .ok (.val (.fz (.int (i * j)))) := by
  have : mulOk i j = true := by
    simp only [mulOk, Bool.or_eq_true, Bool.and_eq_true, decide_eq_true_eq]
    exact .inl h
  show (if mulOk i j = true then _ else _) = _
  rw [if_pos this]; rfl
theorem mod_s (i j : Int) (h : 0 < j) : fMod (.val (.fz (.int i))) (.val (.fz (.int j))) = .ok (.val (.fz (.int (i % j)))) := by
  show (if 0 < j then _ else _) = _
  rw [if_pos h]; rfl
theorem div_s (i j : Int) (h : 0 < j ∧ j < 1073741824) : fDiv (.val (.fz (.int i))) (.val (.fz (.int j))) = .ok (.val (.fz (.int (i / j)))) := by
  show (if 0 < j ∧ j < 1073741824 then _ else _) = _
  rw [if_pos h]; rfl
theorem add_s (i j : Int) : fAdd (.val (.fz (.int i))) (.val (.fz (.int j))) = .ok (.val (.fz (.int (i + j)))) := rfl
theorem sub_s (i j : Int) : fSub (.val (.fz (.int i))) (.val (.fz (.int j))) = .ok (.val (.fz (.int (i - j)))) := rfl
theorem int_s (i : Int) : fInt (.val (.fz (.int i))) = .ok (.val (.fz (.int i))) := rfl
theorem lt_s (i j : Int) : fLt (.val (.fz (.int i))) (.val (.fz (.int j))) = .ok (.val (.fz (.bool (decide (i < j))))) := rfl
theorem le_s (i j : Int) : fLe (.val (.fz (.int i))) (.val (.fz (.int j))) = .ok (.val (.fz (.bool (decide (i ≤ j))))) := rfl
theorem gt_s (i j : Int) : fGt (.val (.fz (.int i))) (.val (.fz (.int j))) = .ok (.val (.fz (.bool (decide (j < i))))) := rfl
theorem ge_s (i j : Int) : fGe (.val (.fz (.int i))) (.val (.fz (.int j))) = .ok (.val (.fz (.bool (decide (j ≤ i))))) := rfl
end VL

set_option Elab.async false
set_option linter.all false
set_option maxRecDepth 100000
set_option maxHeartbeats 2000000
/-! VL17: an expression's statement; min, max of two; a row of a def's own things handed out at its end. -/
namespace VL
open PySem PySem.Spec PyProof.Rows L2
def sEx (a : EC) : SC := fun ρ => match a ρ with
  | .ok _ => .next ρ
  | .err x => .err x ρ
  | .stuck => .stuck
def fMin (x y : RV) : Res RV := match x.d, y.d with
  | .int i, .int j => rD (.int (if j < i then j else i))
  | _, _ => .stuck
def fMax (x y : RV) : Res RV := match x.d, y.d with
  | .int i, .int j => rD (.int (if j > i then j else i))
  | _, _ => .stuck
theorem bt_min : bootBuiltins "min" = some (.builtin "min") := by decide +kernel
theorem bt_max : bootBuiltins "max" = some (.builtin "max") := by decide +kernel
section
variable {X : Cx} {a b e : Expr} {ca cb ce : EC} {pos p : Pos}
theorem sok_ex (h : EOk X e ce) (hs : swapsWith e none pos.line X.env = pure false := by rfl) : SOk X (.Expr e pos) (sEx ce) := fun W tk => ps_mono (ps_expr (h W tk) hs) fun D σ H ⟨H0, F0, F, ρ, s, h⟩ => by
  show rdE X.K X.mg ce W σ H fun _ H1 => D.nx σ H1
  unfold sEx at h
  cases e1 : ce ρ with
  | stuck => rw [e1] at h; exact h.elim
  | err x => rw [e1] at h; exact rdE_err s e1 fun cls d H' F' g xo => h cls d σ H' F' (s.step g) xo
  | ok rv => rw [e1] at h; exact rdE_ok s e1 fun v H1 F1 A g o n => h σ H1 F1 (s.step g)
def rMin2 : R2 := fun x y H Q => ∃ i j : Int, [x, y] = [.int i, .int j] ∧ Q (.int (if j < i then j else i)) H
def rMax2 : R2 := fun x y H Q => ∃ i j : Int, [x, y] = [.int i, .int j] ∧ Q (.int (if j > i then j else i)) H
theorem op2_min : Op2 X rMin2 fMin := op2_i (fun i j => .int (if j < i then j else i)) (fun _ _ => true) (fun _ _ => rfl) (fun x y => by unfold fMin; split <;> simp_all) fun i j H Q _ q => ⟨i, j, rfl, q⟩
theorem op2_max : Op2 X rMax2 fMax := op2_i (fun i j => .int (if j > i then j else i)) (fun _ _ => true) (fun _ _ => rfl) (fun x y => by unfold fMax; split <;> simp_all) fun i j H Q _ q => ⟨i, j, rfl, q⟩
theorem eok_min (hm : X.mg "min" = none) (ha : EOk X a ca) (hb : EOk X b cb) (hc : X.calm = true := by rfl) (hg : Gl X "min" := by rfl) (he : starEach [a, b] X.env = (false, eval a X.env) :: starEach [b] X.env := by rfl) (he2 : starEach [b] X.env = (false, eval b X.env) :: starEach [] X.env := by rfl)
    (hpl : (backTo pos (starEach [b] X.env)).any (·.1) = false := by rfl) : EOk X (.Call (.Name "min" p) [a, b] [] pos) (eBin fMin ca cb) :=
  eok_bin (R := rMin2) (fun ta tb h h' => pe_mono (pe_callB (call_min2 hc) hg hm bt_min (pa_cons h (pa_cons h' pa_nil he2) he) (by decide) (by decide) he hpl) fun _ _ _ q => q) op2_min ha hb
theorem eok_max (hm : X.mg "max" = none) (ha : EOk X a ca) (hb : EOk X b cb) (hc : X.calm = true := by rfl) (hg : Gl X "max" := by rfl) (he : starEach [a, b] X.env = (false, eval a X.env) :: starEach [b] X.env := by rfl) (he2 : starEach [b] X.env = (false, eval b X.env) :: starEach [] X.env := by rfl)
    (hpl : (backTo pos (starEach [b] X.env)).any (·.1) = false := by rfl) : EOk X (.Call (.Name "max" p) [a, b] [] pos) (eBin fMax ca cb) :=
  eok_bin (R := rMax2) (fun ta tb h h' => pe_mono (pe_callB (call_max2 hc) hg hm bt_max (pa_cons h (pa_cons h' pa_nil he2) he) (by decide) (by decide) he hpl) fun _ _ _ q => q) op2_max ha hb
end
/-! ### handed out -/
inductive Mv where
  | ev (c : EC)
  | mv (i : Nat)
def evalM : List Mv → Rho → Res (List Ow)
  | [], _ => .ok []
  | .ev c :: r, ρ => (c ρ).bind fun x => match x.ow with
    | some o => (evalM r ρ).bind fun os => .ok (o :: os)
    | none => .stuck
  | .mv i :: r, ρ => match ρ[i]? with
    | some (some (.own ow)) => (evalM r (ρ.set i none)).bind fun os => .ok (ow :: os)
    | _ => .stuck
def sRetM (cs : List Mv) : SC := fun ρ => match evalM cs ρ with
  | .ok os => if os.length ≤ 1000 then .ret (mkTup os) else .stuck
  | .err x => .err x ρ
  | .stuck => .stuck
section
variable {K : Frag} {mg : Str → Option Value} {W : WX} {σ : S} {H H0 F0 F : Hp} {ρ : Rho} {A : Nat → List Addr}
theorem SRA.drop (s : SRA K H0 F0 A σ H F ρ) (i : Nat) : SRA K H0 F0 (fun j => if j = i then [] else A j) σ H F (ρ.set i none) := by
  refine ⟨by simp [s.len], s.gr, fun j => ?_, fun j k hjk a ha hb => ?_⟩
  · by_cases e : j = i
    · subst e
      simp only [if_true]
      by_cases hr : j < ρ.length
      · rw [List.getElem?_set_self hr]; rfl
      · rw [List.getElem?_eq_none (by simp; omega)]; rfl
    · simp only [e, if_false, List.getElem?_set_ne (Ne.symm e)]
      exact s.sl j
  · by_cases e1 : j = i
    · simp [e1] at ha
    · by_cases e2 : k = i
      · simp [e2] at hb
      · simp only [e1, if_false] at ha
        simp only [e2, if_false] at hb
        exact s.ap j k hjk a ha hb
def rdM (K : Frag) (mg : Str → Option Value) (cs : List Mv) (W : WX) : TA := fun σ H Q => ∃ (H0 F0 F : Hp) (ρ : Rho) (A : Nat → List Addr), SRA K H0 F0 A σ H F ρ ∧ match evalM cs ρ with
  | .ok os => ∀ vs H' F' B, Gr H F H' F' → ORs K H' F' vs os B → (∀ a ∈ B, H a = none ∨ ∃ j, a ∈ A j) → Q vs H'
  | .err x => ∀ cls d H' F', Gr H F H' F' → XOk K mg F' H' cls d x → W cls d σ H'
  | .stuck => False
end
section
variable {X : Cx} {e : Expr} {es : List Expr} {cs : List Mv} {c : EC} {pos : Pos}
def MOk (X : Cx) (es : List Expr) (cs : List Mv) : Prop := ∀ W, Takes X W → PA X es (rdM X.K X.mg cs W)
theorem mok_nil : MOk X [] [] := fun W tk => pa_mono pa_nil fun σ H Q ⟨H0, F0, F, ρ, A, s, h⟩ => h [] H F [] (Gr.refl s.gr.fh') .nil fun _ z => by cases z
theorem mok_ev (he : EOk X e c) (hr : MOk X es cs) (hs : starEach (e :: es) X.env = (false, eval e X.env) :: starEach es X.env := by rfl) : MOk X (e :: es) (.ev c :: cs) := fun W tk =>
  pa_mono (pa_cons (he W tk) (hr W tk) hs) fun σ H Q ⟨H0, F0, F, ρ, A, s, h⟩ => by
    show rdE X.K X.mg c W σ H fun x H1 => rdM X.K X.mg cs W σ H1 fun xs H2 => Q (x :: xs) H2
    unfold evalM at h
    cases e1 : c ρ with
    | stuck => rw [e1] at h; exact h.elim
    | err x => rw [e1] at h; exact rdE_err s.sr e1 h
    | ok rx =>
      rw [e1] at h
      simp only [Res.bind] at h
      refine rdE_ok s.sr e1 fun x H1 F1 A1 g1 o1 n1 => ?_
      cases rx with
      | ref _ _ _ => exact h.elim
      | bor _ => exact h.elim
      | val ow =>
        simp only [RV.ow] at h
        refine ⟨H0, F0, F1, ρ, A, s.step g1, ?_⟩
        cases e2 : evalM cs ρ with
        | stuck => rw [e2] at h; exact h.elim
        | err z => rw [e2] at h; exact fun cls d H' F' g => h cls d H' F' (g1.trans g)
        | ok os =>
          rw [e2] at h
          simp only at h
          have o1' : OR X.K H1 F1 x ow A1 := o1
          intro vs H2 F2 B g2 o2 n2
          refine h (x :: vs) H2 F2 (A1 ++ B) (g1.trans g2) (.cons (o1'.gr g2) o2 fun a ha hb => ?_) fun a ha => ?_
          · rcases n2 a hb with q | ⟨j, q⟩
            · exact (o1'.there a ha).1 q
            · exact ((s.sl j).there a q).1 (n1 a ha)
          · rcases List.mem_append.mp ha with z | z
            · exact .inl (n1 a z)
            · rcases n2 a z with q | q
              · exact .inl (g1.hh.none q)
              · exact .inr q
theorem mok_mv (i : Nat) {x : Str} (hr : MOk X es cs) (hN : X.N[i]? = some x := by rfl) (hv : Vis X.env.scope x := by first | exact Or.inl rfl | exact Or.inr (Or.inl rfl) | exact Or.inr (Or.inr rfl)) (hd : (x == ("__debug__" : Str)) = false := by decide)
    (hcd : (x == ("__classdict__" : Str)) = false := by decide) (hs : starEach (.Name x pos :: es) X.env = (false, eval (.Name x pos) X.env) :: starEach es X.env := by rfl) : MOk X (.Name x pos :: es) (.mv i :: cs) := fun W tk =>
  pa_mono (pa_cons (pe_var hN hv hd hcd) (hr W tk) hs) fun σ H Q ⟨H0, F0, F, ρ, A, s, h⟩ => by
    unfold evalM at h
    have hi := s.sl i
    cases e : ρ[i]? with
    | none => rw [e] at h; exact h.elim
    | some o =>
      cases o with
      | none => rw [e] at h; exact h.elim
      | some sl =>
        rw [e] at h hi
        cases sl with
        | bor d => exact h.elim
        | own ow =>
          obtain ⟨v, e1, o1, n1⟩ := hi
          refine ⟨v, e1, H0, F0, F, ρ.set i none, _, s.drop i, ?_⟩
          simp only at h
          cases e2 : evalM cs (ρ.set i none) with
          | stuck => rw [e2] at h; exact h.elim
          | err z => rw [e2] at h; exact h
          | ok os =>
            rw [e2] at h
            simp only [Res.bind] at h
            intro vs H2 F2 B g2 o2 n2
            refine h (v :: vs) H2 F2 (A i ++ B) g2 (.cons (o1.gr g2) o2 fun a ha hb => ?_) fun a ha => ?_
            · rcases n2 a hb with q | ⟨j, q⟩
              · exact (o1.there a ha).1 q
              · by_cases ej : j = i
                · simp [ej] at q
                · simp only [ej, if_false] at q
                  exact s.ap i j (Ne.symm ej) a ha q
            · rcases List.mem_append.mp ha with z | z
              · exact .inr ⟨i, z⟩
              · rcases n2 a z with q | ⟨j, q⟩
                · exact .inl q
                · by_cases ej : j = i
                  · simp [ej] at q
                  · simp only [ej, if_false] at q
                    exact .inr ⟨j, q⟩
theorem sok_retM {x1 : Nat} {p2 : Pos} (h : MOk X es cs) : SOk X (.Return (some (.Tuple es x1 p2)) pos) (sRetM cs) := fun W tk => ps_mono (ps_ret (pe_tup (h W tk))) fun D σ H ⟨H0, F0, F, ρ, s, h⟩ => by
  obtain ⟨A, sa⟩ := s.sra
  show rdM X.K X.mg cs W σ H fun xs H1 => xs.length ≤ sizeLine ∧ ∀ p, H1 p = none → D.rt (.ref p) (upd H1 p (.tup xs))
  refine ⟨H0, F0, F, ρ, A, sa, ?_⟩
  unfold sRetM at h
  cases e1 : evalM cs ρ with
  | stuck => rw [e1] at h; exact h.elim
  | err x => rw [e1] at h; exact fun cls d H' F' g xo => h cls d σ H' F' (s.step g) xo
  | ok os =>
    rw [e1] at h
    simp only at h
    intro vs H1 F1 B g1 o1 n1
    by_cases hc : os.length ≤ 1000
    · simp only [hc, if_true] at h
      refine ⟨by rw [o1.length, sizeLine_eq]; omega, fun p hp => ?_⟩
      obtain ⟨F', C, g, o, n⟩ := fin_tup (s.step g1) o1 hp
      refine h (.ref p) _ F' C (s.gr.trans (g1.trans g)) o fun c hc => ?_
      rcases n c hc with rfl | z
      · exact s.gr.hh.none (g1.hh.none hp)
      · rcases n1 c z with q | ⟨j, q⟩
        · exact s.gr.hh.none q
        · exact ((sa.sl j).there c q).2.2
    · simp only [hc] at h
      exact h.elim
end
end VL

set_option Elab.async false
set_option linter.all false
set_option maxRecDepth 100000
set_option maxHeartbeats 2000000
/-! VL18: more steps of the plain reading. -/
namespace VL
open PySem
/-- a row of ints, in any of its forms -/
structure IsI (x : RV) (L : List Int) : Prop where
  d : x.d = .list (dI L)
  items : x.items = some (oI L)
theorem isI_fz (L : List Int) : IsI (.val (.fz (.list (dI L)))) L := ⟨rfl, by show some ((dI L).map Ow.fz) = _; rw [oI_fz]⟩
theorem isI_ls (L : List Int) : IsI (.val (.ls (oI L))) L := ⟨oI_toD L, rfl⟩
theorem isI_ref (i : Nat) (p : List Nat) (L : List Int) : IsI (.ref i p (.ls (oI L))) L := ⟨oI_toD L, by show (if (oI L).all isFz = true then some (oI L) else none) = _; rw [if_pos (oI_all L)]⟩
theorem cat_I {x y : RV} {L M : List Int} (hx : IsI x L) (hy : IsI y M) (h : L.length + M.length ≤ 16777216) : fAdd x y = .ok (.val (.ls (oI (L ++ M)))) := by
  unfold fAdd
  rw [hx.d, hy.d]
  show catL x y = _
  unfold catL
  rw [hx.items, hy.items]
  show (if (oI L).length + (oI M).length ≤ 16777216 then _ else _) = _
  rw [if_pos (by rw [oI_len, oI_len]; exact h)]
  unfold oI
  rw [List.map_append]
theorem len_I {x : RV} {L : List Int} (hx : IsI x L) : fLen x = .ok (.val (.fz (.int L.length))) := by rw [len_ls hx.d, dI_len]
theorem rev_I {x : RV} {L : List Int} (hx : IsI x L) : fRev x = .ok (.val (.ls (oI L.reverse))) := by
  unfold fRev
  rw [hx.d]
  show (match x.items with | some xs => _ | none => _) = _
  rw [hx.items]
  show Res.ok (RV.val (.ls (oI L).reverse)) = _
  unfold oI
  rw [List.map_reverse]
theorem list_I {x : RV} {L : List Int} (hx : IsI x L) : fList x = .ok (.val (.ls (oI L))) := by
  unfold fList
  rw [hx.items]
theorem in_I {y : RV} {L : List Int} (x : Int) (hy : IsI y L) : fIn (.val (.fz (.int x))) y = .ok (.val (.fz (.bool (decide (x ∈ L))))) := fIn_dI x (by rw [hy.d]; rfl)
theorem notIn_I {y : RV} {L : List Int} (x : Int) (hy : IsI y L) : fNotIn (.val (.fz (.int x))) y = .ok (.val (.fz (.bool (!decide (x ∈ L))))) := fNotIn_dI x (by rw [hy.d]; rfl)
theorem ix_I {L : List Int} {k : Int} {e : Int} (h0 : 0 ≤ k) (h1 : L[k.toNat]? = some e) : fIx (.val (.fz (.list (dI L)))) (.val (.fz (.int k))) = .ok (.val (.fz (.int e))) := fIx_row rfl h0 (by rw [dI_get, h1]; rfl)
theorem row_I {a : EC} {ρ : Rho} {x : RV} {L : List Int} (h : a ρ = .ok x) (hv : x = .val (.fz (.list (dI L))) ∨ x = .val (.ls (oI L))) : iRow a ρ = .ok (((dI L).map slOf).map fun s => [s]) := by
  rcases hv with rfl | rfl
  · exact row_s h rfl
  · rw [← oI_fz] at h
    exact row_ls h
theorem rng2_s {a b : EC} {ρ : Rho} {m n : Int} (h : a ρ = .ok (.val (.fz (.int m)))) (h' : b ρ = .ok (.val (.fz (.int n)))) (h0 : -1000 ≤ m) (h1 : m ≤ 1000) (h2 : -1000 ≤ n) (h3 : n ≤ 1000) : iRng2 a b ρ = .ok (rangeS m n) := by
  have hb : rngOk m = true := by simp only [rngOk, Bool.and_eq_true, decide_eq_true_eq]; omega
  have hc : rngOk n = true := by simp only [rngOk, Bool.and_eq_true, decide_eq_true_eq]; omega
  unfold iRng2
  rw [h]
  show (b ρ).bind _ = _
  rw [h']
  show (if rngOk m = true ∧ rngOk n = true then _ else _) = _
  rw [if_pos ⟨hb, hc⟩]
theorem rangeS_row (m n : Int) : rangeS m n = ((dI (rgI m n)).map slOf).map fun s => [s] := by
  unfold rangeS dI rgI
  rw [List.map_map, List.map_map, List.map_map]
  rfl
/-- a comprehension over a row of ints -/
theorem comp_I {i : Nat} {it : IC} {t : TC} {e : EC} {ρ : Rho} {L : List Int} (p : Int → Bool) (f : Int → Int) (hi : it ρ = .ok (((dI L).map slOf).map fun s => [s])) (hn : L.length ≤ 1000)
    (h : ∀ x ∈ L, t ((ρ.set i none).set i (some (.own (.fz (.int x))))) = .ok (p x) ∧ (p x = true → e ((ρ.set i none).set i (some (.own (.fz (.int x))))) = .ok (.val (.fz (.int (f x)))))) :
    eComp [i] it t e ρ = .ok (.val (.ls (oI ((L.filter p).map f)))) := by
  refine (comp_v hi (by simp [dI_len]; omega) (compL_fpt _ (L.map fun x => (p x, .fz (.int (f x)))) (by simp [dI_len]) ?_)).trans ?_
  · intro k v b o hv ho
    obtain ⟨x, hx, rfl⟩ := row_get hv
    rw [dI_get] at hx
    rw [List.getElem?_map] at ho
    cases en : L[k]? with
    | none => rw [en] at hx; cases hx
    | some n =>
      rw [en] at hx ho
      cases hx; cases ho
      exact h n (List.mem_of_getElem? en)
  · rw [List.filter_map, List.map_map]
    unfold oI
    rw [List.map_map]
    rfl
/-- two ascending rows of the same members -/
theorem asc_ext : ∀ {L M : List Int}, L.Pairwise (· < ·) → M.Pairwise (· < ·) → (∀ x, x ∈ L ↔ x ∈ M) → L = M
  | [], [], _, _, _ => rfl
  | [], m :: M, _, _, h => absurd ((h m).mpr List.mem_cons_self) (by simp)
  | l :: L, [], _, _, h => absurd ((h l).mp List.mem_cons_self) (by simp)
  | l :: L, m :: M, hL, hM, h => by
    have hL' := List.pairwise_cons.mp hL
    have hM' := List.pairwise_cons.mp hM
    have e : l = m := by
      rcases List.mem_cons.mp ((h l).mp List.mem_cons_self) with q | q
      · exact q
      · rcases List.mem_cons.mp ((h m).mpr List.mem_cons_self) with q' | q'
        · exact q'.symm
        · have := hL'.1 m q'
          have := hM'.1 l q
          omega
    subst e
    rw [asc_ext hL'.2 hM'.2 fun x => ?_]
    constructor
    · intro hx
      rcases List.mem_cons.mp ((h x).mp (List.mem_cons_of_mem _ hx)) with q | q
      · subst q
        have := hL'.1 x hx
        omega
      · exact q
    · intro hx
      rcases List.mem_cons.mp ((h x).mpr (List.mem_cons_of_mem _ hx)) with q | q
      · subst q
        have := hM'.1 x hx
        omega
      · exact q
/-- sorting a row without repetitions -/
theorem sortI_lt {L : List Int} (h : L.Nodup) : (sortI L).Pairwise (· < ·) := by
  have hs := sortI_sorted L
  have hn : (sortI L).Nodup := (sortI_perm L).nodup_iff.mpr h
  exact (hs.and hn).imp fun ⟨a, b⟩ => by
    rcases Int.lt_or_eq_of_le a with q | q
    · exact q
    · exact absurd q b
end VL

set_option Elab.async false
set_option linter.all false
set_option maxRecDepth 100000
set_option maxHeartbeats 4000000
namespace K41
open PySem PySem.Spec PyProof.Rows L2 VL
def top (i : Nat) : Stmt := PySem.Challenge.pw_reelvault_k41_whole_future_days.main.body.getD i (.Pass ⟨0, 0, 0, 0⟩)
structure Txt (mg : Str → Option Value) : Prop where
  b_int : mg "int" = none
  b_range : mg "range" = none
  b_len : mg "len" = none
  b_isinstance : mg "isinstance" = none
  b_tuple : mg "tuple" = none
  b_list : mg "list" = none
  b_bool : mg "bool" = none
  b_enumerate : mg "enumerate" = none
  b_sorted : mg "sorted" = none
  b_min : mg "min" = none
  c_LEVEL_LIMIT : ∃ t, mg "LEVEL_LIMIT" = some (.int 7 t)
  c_LEVELS_LIMIT : ∃ t, mg "LEVELS_LIMIT" = some (.int 12 t)
  c_SIZE_LIMIT : ∃ t, mg "SIZE_LIMIT" = some (.int 999 t)
  c_DAYS_LIMIT : ∃ t, mg "DAYS_LIMIT" = some (.int 10 t)
  c_COPIES_LIMIT : ∃ t, mg "COPIES_LIMIT" = some (.int 30 t)
section
variable {P : Program} {w : World} {K : Frag} {mg : Str → Option Value} {base : Heap}
/-! _law_row -/
abbrev s__law_row : Stmt := top 43
theorem sc__law_row : FnScope ["cell", "count", "size", "row", "rest", "k", "mixed"] ["cell", "count", "size"] (defScope s__law_row) := ⟨rfl, rfl, rfl, by decide +kernel, rfl, by decide +kernel, by decide +kernel⟩
def w__law_row_0 : SC := (sIf (tB (eBin fGe (eVar 0) (eBin fPow (eK (.int 10)) (eK (.int 18))))) (sSeq (sApp (eVar 3) (eBin fMod (eUn fInt (eVar 4)) (eVar 2))) (sSet 4 (eBin fDiv (eVar 4) (eVar 2)))) (sSeq (sSet 6 (eBin fMod (eUn fInt (eBin fAdd (eBin fAdd (eBin fMul (eBin fMod (eUn fInt (eVar 0)) (eK (.int 2147483647))) (eK (.int 48271))) (eBin fMul (eVar 5) (eK (.int 69621)))) (eK (.int 11)))) (eK (.int 2147483647)))) (sSeq (sSet 6 (eBin fMod (eUn fInt (eBin fAdd (eBin fAdd (eBin fMul (eVar 6) (eVar 6)) (eBin fMul (eK (.int 13)) (eVar 5))) (eK (.int 5)))) (eK (.int 2147483629)))) (sApp (eVar 3) (eBin fMod (eBin fMod (eUn fInt (eBin fAdd (eBin fMul (eVar 6) (eBin fAdd (eVar 6) (eK (.int 7)))) (eVar 5))) (eK (.int 2147483587))) (eVar 2))))))
def b__law_row : SC := (sSeq (sSet 3 (eLst [])) (sSeq (sSet 4 (eUn fInt (eVar 0))) (sSeq (sFor [5] (iRng1 (eVar 1)) w__law_row_0) (sRet (eVar 3)))))
def φ__law_row : Fn := runBody b__law_row 7
theorem ok__law_row {f : Addr} {fd : FuncData} (F : Fun K "_law_row" "_law_row" s__law_row f fd) (T : Txt mg)  : FOk P w K mg base 1 f fd ["cell", "count", "size"] φ__law_row :=
  fok_of (N := ["cell", "count", "size", "row", "rest", "k", "mixed"]) F sc__law_row fun cdv A outer s H E hr => (bok_cons (st 3 sc__law_row.nd (eok_lst aok_nil)) (bok_cons (st 4 sc__law_row.nd (eok_intc T.b_int (ev 0))) (bok_cons (sok_for (b := w__law_row_0) pass_def rfl (iok_rng1 (i := 5) T.b_range (ev 1)) (tn 5 sc__law_row.nd) (bok_one (sok_if (tok_cmp op_ge op2_ge (ev 0) (eok_pow eok_int eok_int) (nomark _)) (bok_cons (sok_app (ev 3) (eok_mod (eok_intc T.b_int (ev 4)) (ev 2))) (bok_one (st 4 sc__law_row.nd (eok_div (ev 4) (ev 2))))) (bok_cons (st 6 sc__law_row.nd (eok_mod (eok_intc T.b_int (eok_add (eok_add (eok_mul (eok_mod (eok_intc T.b_int (ev 0)) eok_int) eok_int) (eok_mul (ev 5) eok_int)) eok_int)) eok_int)) (bok_cons (st 6 sc__law_row.nd (eok_mod (eok_intc T.b_int (eok_add (eok_add (eok_mul (ev 6) (ev 6)) (eok_mul eok_int (ev 5))) eok_int)) eok_int)) (bok_one (sok_app (ev 3) (eok_mod (eok_mod (eok_intc T.b_int (eok_add (eok_mul (ev 6) (eok_add (ev 6) eok_int)) (ev 5))) eok_int) (ev 2))))))))) (bok_one (sok_ret (ev 3))))))
/-! _law_base -/
abbrev s__law_base : Stmt := top 46
theorem sc__law_base : FnScope ["plan", "day", "base", "earlier"] ["plan", "day"] (defScope s__law_base) := ⟨rfl, rfl, rfl, by decide +kernel, rfl, by decide +kernel, by decide +kernel⟩
def w__law_base_0 : SC := (sIf (tB (eBin fLt (eBin fIx (eVar 0) (eBin fSub (eVar 3) (eK (.int 1)))) (eBin fIx (eVar 0) (eBin fSub (eVar 1) (eK (.int 1)))))) (sSet 2 (eVar 3)) sPass)
def b__law_base : SC := (sSeq (sSet 2 (eK (.int 0))) (sSeq (sFor [3] (iRng2 (eK (.int 1)) (eVar 1)) w__law_base_0) (sRet (eVar 2))))
def φ__law_base : Fn := runBody b__law_base 4
theorem ok__law_base {f : Addr} {fd : FuncData} (F : Fun K "_law_base" "_law_base" s__law_base f fd) (T : Txt mg)  : FOk P w K mg base 1 f fd ["plan", "day"] φ__law_base :=
  fok_of (N := ["plan", "day", "base", "earlier"]) F sc__law_base fun cdv A outer s H E hr => (bok_cons (st 2 sc__law_base.nd eok_int) (bok_cons (sok_for (b := w__law_base_0) pass_def rfl (iok_rng2 (i := 3) T.b_range eok_int (ev 1)) (tn 3 sc__law_base.nd) (bok_one (sok_if (tok_cmp op_lt op2_lt (eok_ix (ev 0) (eok_sub (ev 3) eok_int)) (eok_ix (ev 0) (eok_sub (ev 1) eok_int)) (nomark _)) (bok_one (st 2 sc__law_base.nd (ev 3))) bok_nil))) (bok_one (sok_ret (ev 2)))))
/-! _law_chain -/
abbrev s__law_chain : Stmt := top 47
theorem sc__law_chain : FnScope ["plan", "day", "days", "place", "step"] ["plan", "day"] (defScope s__law_chain) := ⟨rfl, rfl, rfl, by decide +kernel, rfl, by decide +kernel, by decide +kernel⟩
def w__law_chain_0 : SC := (sIf (tB (eBin fGt (eVar 3) (eK (.int 0)))) (sSeq (sFrz 3 (sFrz 2 (sSet 2 (eBin fAdd (eLst [(eVar 3)]) (eVar 2))))) (sFrz 3 (sSet 3 (eCall φ__law_base [(eVar 0), (eVar 3)])))) sPass)
def b__law_chain : SC := (sSeq (sSet 2 (eLst [])) (sSeq (sSet 3 (eVar 1)) (sSeq (sFor [4] (iRng1 (eUn fLen (eVar 0))) w__law_chain_0) (sRet (eVar 2)))))
def φ__law_chain : Fn := runBody b__law_chain 5
theorem ok__law_chain {f : Addr} {fd : FuncData} (F : Fun K "_law_chain" "_law_chain" s__law_chain f fd) (T : Txt mg) {f__law_base : Addr} {fd__law_base : FuncData} (D__law_base : Df P w K mg base 1 f__law_base fd__law_base "_law_base" ["plan", "day"] φ__law_base) : FOk P w K mg base 2 f fd ["plan", "day"] φ__law_chain :=
  fok_of (N := ["plan", "day", "days", "place", "step"]) F sc__law_chain fun cdv A outer s H E hr => (bok_cons (st 2 sc__law_chain.nd (eok_lst aok_nil)) (bok_cons (st 3 sc__law_chain.nd (ev 1)) (bok_cons (sok_for (b := w__law_chain_0) pass_def rfl (iok_rng1 (i := 4) T.b_range (eok_len T.b_len (ev 0))) (tn 4 sc__law_chain.nd) (bok_one (sok_if (tok_cmp op_gt op2_gt (ev 3) eok_int (nomark _)) (bok_cons (sok_frz (i := 3) (sok_frz (i := 2) (st 2 sc__law_chain.nd (eok_add (eok_lst (aok_cons (ev 3) aok_nil)) (ev 2))))) (bok_one (sok_frz (i := 3) (st 3 sc__law_chain.nd (D__law_base.call hr (aok_cons (ev 0) (aok_cons (ev 3) aok_nil))))))) bok_nil))) (bok_one (sok_ret (ev 2))))))
/-! _law_future -/
abbrev s__law_future : Stmt := top 48
theorem sc__law_future : FnScope ["plan", "read", "level", "day"] ["plan"] (defScope s__law_future) := ⟨rfl, rfl, rfl, by decide +kernel, rfl, by decide +kernel, by decide +kernel⟩
def w__law_future_0 : SC := (sFrz 1 (sSet 1 (eBin fAdd (eVar 1) (eCall φ__law_chain [(eBin fAdd (eVar 0) (eLst [(eVar 2)])), (eBin fAdd (eUn fLen (eVar 0)) (eK (.int 1)))]))))
def b__law_future : SC := (sSeq (sSet 1 (eLst [])) (sSeq (sFor [2] (iRng1 (eK (.int 8))) w__law_future_0) (sRet (eComp [3] (iRng2 (eK (.int 1)) (eBin fAdd (eUn fLen (eVar 0)) (eK (.int 1)))) (tB (eBin fIn (eVar 3) (eVar 1))) (eVar 3)))))
def φ__law_future : Fn := runBody b__law_future 4
theorem ok__law_future {f : Addr} {fd : FuncData} (F : Fun K "_law_future" "_law_future" s__law_future f fd) (T : Txt mg) {f__law_chain : Addr} {fd__law_chain : FuncData} (D__law_chain : Df P w K mg base 2 f__law_chain fd__law_chain "_law_chain" ["plan", "day"] φ__law_chain) : FOk P w K mg base 3 f fd ["plan"] φ__law_future :=
  fok_of (N := ["plan", "read", "level", "day"]) F sc__law_future fun cdv A outer s H E hr => (bok_cons (st 1 sc__law_future.nd (eok_lst aok_nil)) (bok_cons (sok_for (b := w__law_future_0) pass_def rfl (iok_rng1 (i := 2) T.b_range eok_int) (tn 2 sc__law_future.nd) (bok_one (sok_frz (i := 1) (st 1 sc__law_future.nd (eok_add (ev 1) (D__law_chain.call hr (aok_cons (eok_add (ev 0) (eok_lst (aok_cons (ev 2) aok_nil))) (aok_cons (eok_add (eok_len T.b_len (ev 0)) eok_int) aok_nil)))))))) (bok_one (sok_ret (eok_comp rfl sc__law_future.nd (iok_rng2 (i := 3) T.b_range eok_int (eok_add (eok_len T.b_len (ev 0)) eok_int)) (blkOk_by (own := [("day", 3)]) (show blkC ["plan", "read", "level", "day"] (defScope s__law_future) _ _ = true by decide +kernel)) rfl (fun _ _ _ _ _ => ⟨(tn 3 sc__law_future.nd), (pts_oneV (tok_cmp op_in_seq op2_in (ev 3) (ev 1) (by with_unfolding_all rfl))), (ev 3)⟩))))))
/-! is_row -/
abbrev s_is_row : Stmt := top 10
theorem sc_is_row : FnScope ["value"] ["value"] (defScope s_is_row) := ⟨rfl, rfl, rfl, by decide +kernel, rfl, by decide +kernel, by decide +kernel⟩
def b_is_row : SC := (sRet (eUn (fIsIs [.list, .tuple]) (eVar 0)))
def φ_is_row : Fn := runBody b_is_row 1
theorem ok_is_row {f : Addr} {fd : FuncData} (F : Fun K "is_row" "is_row" s_is_row f fd) (T : Txt mg)  : FOk P w K mg base 1 f fd ["value"] φ_is_row :=
  fok_of (N := ["value"]) F sc_is_row fun cdv A outer s H E hr => (bok_one (sok_ret (eok_isIs T.b_isinstance (ev 0) (tys_cons (ty_name (c := .list) T.b_list (by rfl)) (tys_cons (ty_name (c := .tuple) T.b_tuple (by rfl)) tys_nil)))))
/-! is_number -/
abbrev s_is_number : Stmt := top 9
theorem sc_is_number : FnScope ["value", "low", "high"] ["value", "low", "high"] (defScope s_is_number) := ⟨rfl, rfl, rfl, by decide +kernel, rfl, by decide +kernel, by decide +kernel⟩
def b_is_number : SC := (sSeq (sIf (tOr (tNot (tB (eUn (fIsI .int) (eVar 0)))) (tB (eUn (fIsI .bool) (eVar 0)))) (sRet (eK (.bool false))) sPass) (sRet (eChain fLe fLe (eVar 1) (eVar 0) (eVar 2))))
def φ_is_number : Fn := runBody b_is_number 3
theorem ok_is_number {f : Addr} {fd : FuncData} (F : Fun K "is_number" "is_number" s_is_number f fd) (T : Txt mg)  : FOk P w K mg base 1 f fd ["value", "low", "high"] φ_is_number :=
  fok_of (N := ["value", "low", "high"]) F sc_is_number fun cdv A outer s H E hr => (bok_cons (sok_if (tok_w (wok_or (tok_not (tok_val (eok_isI T.b_isinstance (ev 0) (ty_name (c := .int) T.b_int (by rfl))))) (wok_or1 (tok_val (eok_isI T.b_isinstance (ev 0) (ty_name (c := .bool) T.b_bool (by rfl))))))) (bok_one (sok_ret eok_bool)) bok_nil) (bok_one (sok_ret (eok_chain op_le op_le op2_le op2_le (ev 1) (ev 0) (ev 2)))))
/-! check_small_row -/
abbrev s_check_small_row : Stmt := top 17
theorem sc_check_small_row : FnScope ["row", "most", "at", "member"] ["row", "most"] (defScope s_check_small_row) := ⟨rfl, rfl, rfl, by decide +kernel, rfl, by decide +kernel, by decide +kernel⟩
def w_check_small_row_0 : SC := (sIf (tNot (tB (eCall φ_is_number [(eVar 3), (eK (.int 0)), (eK (.int 7))]))) sStuck sPass)
def b_check_small_row : SC := (sSeq (sIf (tOr (tNot (tB (eCall φ_is_row [(eVar 0)]))) (tB (eBin fEq (eUn fLen (eVar 0)) (eK (.int 0))))) sStuck sPass) (sSeq (sIf (tB (eBin fGt (eUn fLen (eVar 0)) (eVar 1))) sStuck sPass) (sSeq (sFor [2, 3] (iEnum (eVar 0)) w_check_small_row_0) (sRet (eUn fList (eVar 0))))))
def φ_check_small_row : Fn := runBody b_check_small_row 4
theorem ok_check_small_row {f : Addr} {fd : FuncData} (F : Fun K "check_small_row" "check_small_row" s_check_small_row f fd) (T : Txt mg) {f_is_row : Addr} {fd_is_row : FuncData} (D_is_row : Df P w K mg base 1 f_is_row fd_is_row "is_row" ["value"] φ_is_row) {f_is_number : Addr} {fd_is_number : FuncData} (D_is_number : Df P w K mg base 1 f_is_number fd_is_number "is_number" ["value", "low", "high"] φ_is_number) : FOk P w K mg base 2 f fd ["row", "most"] φ_check_small_row :=
  fok_of (N := ["row", "most", "at", "member"]) F sc_check_small_row fun cdv A outer s H E hr => (bok_cons (sok_if (tok_w (wok_or (tok_not (tok_val (D_is_row.call hr (aok_cons (ev 0) aok_nil)))) (wok_or1 (tok_cmp (op_eqD hr.units) op2_eq (eok_len T.b_len (ev 0)) eok_int (nomark _))))) (bok_one sok_stuck) bok_nil) (bok_cons (sok_if (tok_cmp op_gt op2_gt (eok_len T.b_len (ev 0)) (ev 1) (nomark _)) (bok_one sok_stuck) bok_nil) (bok_cons (sok_for (b := w_check_small_row_0) pass_def rfl (iok_enum (i := 2) (j := 3) T.b_enumerate (ev 0)) (pg_row rfl (pgs_cons (tn 2 sc_check_small_row.nd) (pgs_cons (tn 3 sc_check_small_row.nd) pgs_nil))) (bok_one (sok_if (tok_not (tok_val (D_is_number.call hr (aok_cons (ev 3) (aok_cons eok_int (aok_cons (eg (.int 7) T.c_LEVEL_LIMIT.choose_spec ⟨_, rfl⟩) aok_nil)))))) (bok_one sok_stuck) bok_nil))) (bok_one (sok_ret (eok_list T.b_list (ev 0)))))))
/-! check_levels -/
abbrev s_check_levels : Stmt := top 18
theorem sc_check_levels : FnScope ["levels"] ["levels"] (defScope s_check_levels) := ⟨rfl, rfl, rfl, by decide +kernel, rfl, by decide +kernel, by decide +kernel⟩
def b_check_levels : SC := (sRet (eCall φ_check_small_row [(eVar 0), (eK (.int 12))]))
def φ_check_levels : Fn := runBody b_check_levels 1
theorem ok_check_levels {f : Addr} {fd : FuncData} (F : Fun K "check_levels" "check_levels" s_check_levels f fd) (T : Txt mg) {f_check_small_row : Addr} {fd_check_small_row : FuncData} (D_check_small_row : Df P w K mg base 2 f_check_small_row fd_check_small_row "check_small_row" ["row", "most"] φ_check_small_row) : FOk P w K mg base 3 f fd ["levels"] φ_check_levels :=
  fok_of (N := ["levels"]) F sc_check_levels fun cdv A outer s H E hr => (bok_one (sok_ret (D_check_small_row.call hr (aok_cons (ev 0) (aok_cons (eg (.int 12) T.c_LEVELS_LIMIT.choose_spec ⟨_, rfl⟩) aok_nil)))))
/-! chain_of -/
abbrev s_chain_of : Stmt := top 20
theorem sc_chain_of : FnScope ["found", "day", "days", "place"] ["found", "day"] (defScope s_chain_of) := ⟨rfl, rfl, rfl, by decide +kernel, rfl, by decide +kernel, by decide +kernel⟩
def w_chain_of_0 : SC := (sSeq (sFrz 3 (sApp (eVar 2) (eVar 3))) (sSet 3 (eBin fIx (eVar 0) (eBin fSub (eVar 3) (eK (.int 1))))))
def b_chain_of : SC := (sSeq (sSet 2 (eLst [])) (sSeq (sSet 3 (eVar 1)) (sSeq (sWhile (tB (eBin fGt (eVar 3) (eK (.int 0)))) w_chain_of_0) (sFrz 2 (sRet (eUn fRev (eVar 2)))))))
def φ_chain_of : Fn := runBody b_chain_of 4
theorem ok_chain_of {f : Addr} {fd : FuncData} (F : Fun K "chain_of" "chain_of" s_chain_of f fd) (T : Txt mg)  : FOk P w K mg base 1 f fd ["found", "day"] φ_chain_of :=
  fok_of (N := ["found", "day", "days", "place"]) F sc_chain_of fun cdv A outer s H E hr => (bok_cons (st 2 sc_chain_of.nd (eok_lst aok_nil)) (bok_cons (st 3 sc_chain_of.nd (ev 1)) (bok_cons (sok_while (b := w_chain_of_0) pass_def (tok_cmp op_gt op2_gt (ev 3) eok_int (nomark _)) (bok_cons (sok_frz (i := 3) (sok_app (ev 2) (ev 3))) (bok_one (st 3 sc_chain_of.nd (eok_ix (ev 0) (eok_sub (ev 3) eok_int)))))) (bok_one (sok_frz (i := 2) (sok_ret (eok_rev (ev 2))))))))
/-! base_list -/
abbrev s_base_list : Stmt := top 19
theorem sc_base_list : FnScope ["levels", "found", "day", "base", "earlier"] ["levels"] (defScope s_base_list) := ⟨rfl, rfl, rfl, by decide +kernel, rfl, by decide +kernel, by decide +kernel⟩
def w_base_list_0 : SC := (sIf (tB (eBin fLt (eBin fIx (eVar 0) (eBin fSub (eVar 4) (eK (.int 1)))) (eBin fIx (eVar 0) (eBin fSub (eVar 2) (eK (.int 1)))))) (sSet 3 (eVar 4)) sPass)
def w_base_list_1 : SC := (sSeq (sSet 3 (eK (.int 0))) (sSeq (sFor [4] (iRng2 (eK (.int 1)) (eVar 2)) w_base_list_0) (sFrz 3 (sApp (eVar 1) (eVar 3)))))
def b_base_list : SC := (sSeq (sSet 1 (eLst [])) (sSeq (sFor [2] (iRng2 (eK (.int 1)) (eBin fAdd (eUn fLen (eVar 0)) (eK (.int 1)))) w_base_list_1) (sRet (eVar 1))))
def φ_base_list : Fn := runBody b_base_list 5
theorem ok_base_list {f : Addr} {fd : FuncData} (F : Fun K "base_list" "base_list" s_base_list f fd) (T : Txt mg)  : FOk P w K mg base 1 f fd ["levels"] φ_base_list :=
  fok_of (N := ["levels", "found", "day", "base", "earlier"]) F sc_base_list fun cdv A outer s H E hr => (bok_cons (st 1 sc_base_list.nd (eok_lst aok_nil)) (bok_cons (sok_for (b := w_base_list_1) pass_def rfl (iok_rng2 (i := 2) T.b_range eok_int (eok_add (eok_len T.b_len (ev 0)) eok_int)) (tn 2 sc_base_list.nd) (bok_cons (st 3 sc_base_list.nd eok_int) (bok_cons (sok_for (b := w_base_list_0) pass_def rfl (iok_rng2 (i := 4) T.b_range eok_int (ev 2)) (tn 4 sc_base_list.nd) (bok_one (sok_if (tok_cmp op_lt op2_lt (eok_ix (ev 0) (eok_sub (ev 4) eok_int)) (eok_ix (ev 0) (eok_sub (ev 2) eok_int)) (nomark _)) (bok_one (st 3 sc_base_list.nd (ev 4))) bok_nil))) (bok_one (sok_frz (i := 3) (sok_app (ev 1) (ev 3))))))) (bok_one (sok_ret (ev 1)))))
/-! future_days -/
abbrev s_future_days : Stmt := top 22
theorem sc_future_days : FnScope ["levels", "last", "day"] ["levels"] (defScope s_future_days) := ⟨rfl, rfl, rfl, by decide +kernel, rfl, by decide +kernel, by decide +kernel⟩
def b_future_days : SC := (sSeq (sFrz 0 (sSet 0 (eCall φ_check_levels [(eVar 0)]))) (sSeq (sFrz 0 (sSet 1 (eCall φ_chain_of [(eCall φ_base_list [(eVar 0)]), (eUn fLen (eVar 0))]))) (sFrz 1 (sRet (eComp [2] (iRow (eVar 1)) (tB (eBin fLt (eBin fIx (eVar 0) (eBin fSub (eVar 2) (eK (.int 1)))) (eK (.int 7)))) (eVar 2))))))
def φ_future_days : Fn := runBody b_future_days 3
theorem ok_future_days {f : Addr} {fd : FuncData} (F : Fun K "future_days" "future_days" s_future_days f fd) (T : Txt mg) {f_check_levels : Addr} {fd_check_levels : FuncData} (D_check_levels : Df P w K mg base 3 f_check_levels fd_check_levels "check_levels" ["levels"] φ_check_levels) {f_chain_of : Addr} {fd_chain_of : FuncData} (D_chain_of : Df P w K mg base 1 f_chain_of fd_chain_of "chain_of" ["found", "day"] φ_chain_of) {f_base_list : Addr} {fd_base_list : FuncData} (D_base_list : Df P w K mg base 1 f_base_list fd_base_list "base_list" ["levels"] φ_base_list) : FOk P w K mg base 4 f fd ["levels"] φ_future_days :=
  fok_of (N := ["levels", "last", "day"]) F sc_future_days fun cdv A outer s H E hr => (bok_cons (sok_frz (i := 0) (st 0 sc_future_days.nd (D_check_levels.call hr (aok_cons (ev 0) aok_nil)))) (bok_cons (sok_frz (i := 0) (st 1 sc_future_days.nd (D_chain_of.call hr (aok_cons (D_base_list.call hr (aok_cons (ev 0) aok_nil)) (aok_cons (eok_len T.b_len (ev 0)) aok_nil))))) (bok_one (sok_frz (i := 1) (sok_ret (eok_comp rfl sc_future_days.nd (iok_row (i := 2) (ev 1)) (blkOk_by (own := [("day", 2)]) (show blkC ["levels", "last", "day"] (defScope s_future_days) _ _ = true by decide +kernel)) rfl (fun _ _ _ _ _ => ⟨(tn 2 sc_future_days.nd), (pts_oneV (tok_cmp op_lt op2_lt (eok_ix (ev 0) (eok_sub (ev 2) eok_int)) (eg (.int 7) T.c_LEVEL_LIMIT.choose_spec ⟨_, rfl⟩) (nomark _))), (ev 2)⟩)))))))
/-! _law_cell -/
abbrev s__law_cell : Stmt := top 42
theorem sc__law_cell : FnScope ["script", "k"] ["script", "k"] (defScope s__law_cell) := ⟨rfl, rfl, rfl, by decide +kernel, rfl, by decide +kernel, by decide +kernel⟩
def b__law_cell : SC := (sSeq (sIf (tB (eBin fLt (eVar 1) (eUn fLen (eVar 0)))) (sRet (eBin fIx (eVar 0) (eVar 1))) sPass) (sSeq (sIf (tB (eBin fEq (eUn fLen (eVar 0)) (eK (.int 0)))) (sRet (eBin fMul (eK (.int 7919)) (eVar 1))) sPass) (sRet (eBin fAdd (eBin fMod (eUn fInt (eBin fIx (eVar 0) (eBin fMod (eUn fInt (eVar 1)) (eUn fLen (eVar 0))))) (eK (.int 1000003))) (eBin fMul (eK (.int 7919)) (eVar 1))))))
def φ__law_cell : Fn := runBody b__law_cell 2
theorem ok__law_cell {f : Addr} {fd : FuncData} (F : Fun K "_law_cell" "_law_cell" s__law_cell f fd) (T : Txt mg)  : FOk P w K mg base 1 f fd ["script", "k"] φ__law_cell :=
  fok_of (N := ["script", "k"]) F sc__law_cell fun cdv A outer s H E hr => (bok_cons (sok_if (tok_cmp op_lt op2_lt (ev 1) (eok_len T.b_len (ev 0)) (nomark _)) (bok_one (sok_ret (eok_ix (ev 0) (ev 1)))) bok_nil) (bok_cons (sok_if (tok_cmp (op_eqD hr.units) op2_eq (eok_len T.b_len (ev 0)) eok_int (nomark _)) (bok_one (sok_ret (eok_mul eok_int (ev 1)))) bok_nil) (bok_one (sok_ret (eok_add (eok_mod (eok_intc T.b_int (eok_ix (ev 0) (eok_mod (eok_intc T.b_int (ev 1)) (eok_len T.b_len (ev 0))))) eok_int) (eok_mul eok_int (ev 1)))))))
/-! _law_table -/
abbrev s__law_table : Stmt := top 49
theorem sc__law_table : FnScope ["script", "count", "table", "day"] ["script", "count"] (defScope s__law_table) := ⟨rfl, rfl, rfl, by decide +kernel, rfl, by decide +kernel, by decide +kernel⟩
def w__law_table_0 : SC := (sApp (eVar 2) (eCall φ__law_row [(eBin fAdd (eCall φ__law_cell [(eVar 0), (eBin fAdd (eK (.int 9)) (eVar 3))]) (eBin fMul (eK (.int 7919)) (eVar 3))), (eVar 3), (eK (.int 1000))]))
def b__law_table : SC := (sSeq (sSet 2 (eLst [])) (sSeq (sFor [3] (iRng2 (eK (.int 1)) (eBin fAdd (eVar 1) (eK (.int 1)))) w__law_table_0) (sRet (eVar 2))))
def φ__law_table : Fn := runBody b__law_table 4
theorem ok__law_table {f : Addr} {fd : FuncData} (F : Fun K "_law_table" "_law_table" s__law_table f fd) (T : Txt mg) {f__law_row : Addr} {fd__law_row : FuncData} (D__law_row : Df P w K mg base 1 f__law_row fd__law_row "_law_row" ["cell", "count", "size"] φ__law_row) {f__law_cell : Addr} {fd__law_cell : FuncData} (D__law_cell : Df P w K mg base 1 f__law_cell fd__law_cell "_law_cell" ["script", "k"] φ__law_cell) : FOk P w K mg base 2 f fd ["script", "count"] φ__law_table :=
  fok_of (N := ["script", "count", "table", "day"]) F sc__law_table fun cdv A outer s H E hr => (bok_cons (st 2 sc__law_table.nd (eok_lst aok_nil)) (bok_cons (sok_for (b := w__law_table_0) pass_def rfl (iok_rng2 (i := 3) T.b_range eok_int (eok_add (ev 1) eok_int)) (tn 3 sc__law_table.nd) (bok_one (sok_app (ev 2) (D__law_row.call hr (aok_cons (eok_add (D__law_cell.call hr (aok_cons (ev 0) (aok_cons (eok_add eok_int (ev 3)) aok_nil))) (eok_mul eok_int (ev 3))) (aok_cons (ev 3) (aok_cons eok_int aok_nil))))))) (bok_one (sok_ret (ev 2)))))
/-! _law_is_number -/
abbrev s__law_is_number : Stmt := top 44
theorem sc__law_is_number : FnScope ["told"] ["told"] (defScope s__law_is_number) := ⟨rfl, rfl, rfl, by decide +kernel, rfl, by decide +kernel, by decide +kernel⟩
def b__law_is_number : SC := (sRet (eAnd (eUn (fIsI .int) (eVar 0)) (eUn fNot (eUn (fIsI .bool) (eVar 0)))))
def φ__law_is_number : Fn := runBody b__law_is_number 1
theorem ok__law_is_number {f : Addr} {fd : FuncData} (F : Fun K "_law_is_number" "_law_is_number" s__law_is_number f fd) (T : Txt mg)  : FOk P w K mg base 1 f fd ["told"] φ__law_is_number :=
  fok_of (N := ["told"]) F sc__law_is_number fun cdv A outer s H E hr => (bok_one (sok_ret (eok_and (eok_isI T.b_isinstance (ev 0) (ty_name (c := .int) T.b_int (by rfl))) (eok_one (eok_not (eok_isI T.b_isinstance (ev 0) (ty_name (c := .bool) T.b_bool (by rfl))))))))
/-! _law_are_numbers -/
abbrev s__law_are_numbers : Stmt := top 45
theorem sc__law_are_numbers : FnScope ["told", "due", "k"] ["told", "due"] (defScope s__law_are_numbers) := ⟨rfl, rfl, rfl, by decide +kernel, rfl, by decide +kernel, by decide +kernel⟩
def w__law_are_numbers_0 : SC := (sIf (tOr (tNot (tB (eCall φ__law_is_number [(eBin fIx (eVar 0) (eVar 2))]))) (tB (eBin fNe (eBin fIx (eVar 0) (eVar 2)) (eBin fIx (eVar 1) (eVar 2))))) (sRet (eK (.bool false))) sPass)
def b__law_are_numbers : SC := (sSeq (sIf (tOr (tNot (tB (eUn (fIsI .list) (eVar 0)))) (tB (eBin fNe (eUn fLen (eVar 0)) (eUn fLen (eVar 1))))) (sRet (eK (.bool false))) sPass) (sSeq (sFor [2] (iRng1 (eUn fLen (eVar 1))) w__law_are_numbers_0) (sRet (eK (.bool true)))))
def φ__law_are_numbers : Fn := runBody b__law_are_numbers 3
theorem ok__law_are_numbers {f : Addr} {fd : FuncData} (F : Fun K "_law_are_numbers" "_law_are_numbers" s__law_are_numbers f fd) (T : Txt mg) {f__law_is_number : Addr} {fd__law_is_number : FuncData} (D__law_is_number : Df P w K mg base 1 f__law_is_number fd__law_is_number "_law_is_number" ["told"] φ__law_is_number) : FOk P w K mg base 2 f fd ["told", "due"] φ__law_are_numbers :=
  fok_of (N := ["told", "due", "k"]) F sc__law_are_numbers fun cdv A outer s H E hr => (bok_cons (sok_if (tok_w (wok_or (tok_not (tok_val (eok_isI T.b_isinstance (ev 0) (ty_name (c := .list) T.b_list (by rfl))))) (wok_or1 (tok_cmp (op_neD hr.units) op2_ne (eok_len T.b_len (ev 0)) (eok_len T.b_len (ev 1)) (nomark _))))) (bok_one (sok_ret eok_bool)) bok_nil) (bok_cons (sok_for (b := w__law_are_numbers_0) pass_def rfl (iok_rng1 (i := 2) T.b_range (eok_len T.b_len (ev 1))) (tn 2 sc__law_are_numbers.nd) (bok_one (sok_if (tok_w (wok_or (tok_not (tok_val (D__law_is_number.call hr (aok_cons (eok_ix (ev 0) (ev 2)) aok_nil)))) (wok_or1 (tok_cmp (op_neD hr.units) op2_ne (eok_ix (ev 0) (ev 2)) (eok_ix (ev 1) (ev 2)) (nomark _))))) (bok_one (sok_ret eok_bool)) bok_nil))) (bok_one (sok_ret eok_bool))))
/-! check_number -/
abbrev s_check_number : Stmt := top 12
theorem sc_check_number : FnScope ["value", "low", "high", "what"] ["value", "low", "high", "what"] (defScope s_check_number) := ⟨rfl, rfl, rfl, by decide +kernel, rfl, by decide +kernel, by decide +kernel⟩
def b_check_number : SC := (sIf (tNot (tB (eCall φ_is_number [(eVar 0), (eVar 1), (eVar 2)]))) sStuck sPass)
def φ_check_number : Fn := runBody b_check_number 4
theorem ok_check_number {f : Addr} {fd : FuncData} (F : Fun K "check_number" "check_number" s_check_number f fd) (T : Txt mg) {f_is_number : Addr} {fd_is_number : FuncData} (D_is_number : Df P w K mg base 1 f_is_number fd_is_number "is_number" ["value", "low", "high"] φ_is_number) : FOk P w K mg base 2 f fd ["value", "low", "high", "what"] φ_check_number :=
  fok_of (N := ["value", "low", "high", "what"]) F sc_check_number fun cdv A outer s H E hr => (bok_one (sok_if (tok_not (tok_val (D_is_number.call hr (aok_cons (ev 0) (aok_cons (ev 1) (aok_cons (ev 2) aok_nil)))))) (bok_one sok_stuck) bok_nil))
/-! chain -/
abbrev s_chain : Stmt := top 21
theorem sc_chain : FnScope ["levels", "day"] ["levels", "day"] (defScope s_chain) := ⟨rfl, rfl, rfl, by decide +kernel, rfl, by decide +kernel, by decide +kernel⟩
def b_chain : SC := (sSeq (sFrz 0 (sSet 0 (eCall φ_check_levels [(eVar 0)]))) (sSeq (sEx (eCall φ_check_number [(eVar 1), (eK (.int 1)), (eUn fLen (eVar 0)), (eK (.str "day"))])) (sFrz 0 (sRet (eCall φ_chain_of [(eCall φ_base_list [(eVar 0)]), (eVar 1)])))))
def φ_chain : Fn := runBody b_chain 2
theorem ok_chain {f : Addr} {fd : FuncData} (F : Fun K "chain" "chain" s_chain f fd) (T : Txt mg) {f_check_levels : Addr} {fd_check_levels : FuncData} (D_check_levels : Df P w K mg base 3 f_check_levels fd_check_levels "check_levels" ["levels"] φ_check_levels) {f_check_number : Addr} {fd_check_number : FuncData} (D_check_number : Df P w K mg base 2 f_check_number fd_check_number "check_number" ["value", "low", "high", "what"] φ_check_number) {f_chain_of : Addr} {fd_chain_of : FuncData} (D_chain_of : Df P w K mg base 1 f_chain_of fd_chain_of "chain_of" ["found", "day"] φ_chain_of) {f_base_list : Addr} {fd_base_list : FuncData} (D_base_list : Df P w K mg base 1 f_base_list fd_base_list "base_list" ["levels"] φ_base_list) : FOk P w K mg base 4 f fd ["levels", "day"] φ_chain :=
  fok_of (N := ["levels", "day"]) F sc_chain fun cdv A outer s H E hr => (bok_cons (sok_frz (i := 0) (st 0 sc_chain.nd (D_check_levels.call hr (aok_cons (ev 0) aok_nil)))) (bok_cons (sok_ex (D_check_number.call hr (aok_cons (ev 1) (aok_cons eok_int (aok_cons (eok_len T.b_len (ev 0)) (aok_cons eok_str aok_nil)))))) (bok_one (sok_frz (i := 0) (sok_ret (D_chain_of.call hr (aok_cons (D_base_list.call hr (aok_cons (ev 0) aok_nil)) (aok_cons (ev 1) aok_nil))))))))
/-! _law_house -/
abbrev s__law_house : Stmt := top 50
theorem sc__law_house : FnScope ["plan", "table", "copies", "day", "base"] ["plan", "table"] (defScope s__law_house) := ⟨rfl, rfl, rfl, by decide +kernel, rfl, by decide +kernel, by decide +kernel⟩
def w__law_house_0 : SC := (sSeq (sSet 4 (eCall φ__law_base [(eVar 0), (eVar 3)])) (sFrz 4 (sApp (eVar 2) (eTup [(eVar 4), (eVar 3), (eBin fIx (eBin fIx (eVar 1) (eBin fSub (eVar 3) (eK (.int 1)))) (eVar 4))]))))
def b__law_house : SC := (sSeq (sSet 2 (eLst [])) (sSeq (sFor [3] (iRng2 (eK (.int 1)) (eBin fAdd (eUn fLen (eVar 0)) (eK (.int 1)))) w__law_house_0) (sFrz 2 (sRet (eTup [(eUn fLen (eVar 0)), (eVar 2)])))))
def φ__law_house : Fn := runBody b__law_house 5
theorem ok__law_house {f : Addr} {fd : FuncData} (F : Fun K "_law_house" "_law_house" s__law_house f fd) (T : Txt mg) {f__law_base : Addr} {fd__law_base : FuncData} (D__law_base : Df P w K mg base 1 f__law_base fd__law_base "_law_base" ["plan", "day"] φ__law_base) : FOk P w K mg base 2 f fd ["plan", "table"] φ__law_house :=
  fok_of (N := ["plan", "table", "copies", "day", "base"]) F sc__law_house fun cdv A outer s H E hr => (bok_cons (st 2 sc__law_house.nd (eok_lst aok_nil)) (bok_cons (sok_for (b := w__law_house_0) pass_def rfl (iok_rng2 (i := 3) T.b_range eok_int (eok_add (eok_len T.b_len (ev 0)) eok_int)) (tn 3 sc__law_house.nd) (bok_cons (st 4 sc__law_house.nd (D__law_base.call hr (aok_cons (ev 0) (aok_cons (ev 3) aok_nil)))) (bok_one (sok_frz (i := 4) (sok_app (ev 2) (eok_tup (aok_cons (ev 4) (aok_cons (ev 3) (aok_cons (eok_ix (eok_ix (ev 1) (eok_sub (ev 3) eok_int)) (ev 4)) aok_nil))))))))) (bok_one (sok_frz (i := 2) (sok_ret (eok_tup (aok_cons (eok_len T.b_len (ev 0)) (aok_cons (ev 2) aok_nil))))))))
/-! is_sizes -/
abbrev s_is_sizes : Stmt := top 36
theorem sc_is_sizes : FnScope ["value", "count", "size"] ["value", "count"] (defScope s_is_sizes) := ⟨rfl, rfl, rfl, by decide +kernel, rfl, by decide +kernel, by decide +kernel⟩
def w_is_sizes_0 : SC := (sIf (tNot (tB (eCall φ_is_number [(eVar 2), (eK (.int 0)), (eK (.int 999))]))) (sRet (eK (.bool false))) sPass)
def b_is_sizes : SC := (sSeq (sIf (tOr (tNot (tB (eCall φ_is_row [(eVar 0)]))) (tB (eBin fNe (eUn fLen (eVar 0)) (eVar 1)))) (sRet (eK (.bool false))) sPass) (sSeq (sFor [2] (iRow (eVar 0)) w_is_sizes_0) (sRet (eK (.bool true)))))
def φ_is_sizes : Fn := runBody b_is_sizes 3
theorem ok_is_sizes {f : Addr} {fd : FuncData} (F : Fun K "is_sizes" "is_sizes" s_is_sizes f fd) (T : Txt mg) {f_is_row : Addr} {fd_is_row : FuncData} (D_is_row : Df P w K mg base 1 f_is_row fd_is_row "is_row" ["value"] φ_is_row) {f_is_number : Addr} {fd_is_number : FuncData} (D_is_number : Df P w K mg base 1 f_is_number fd_is_number "is_number" ["value", "low", "high"] φ_is_number) : FOk P w K mg base 2 f fd ["value", "count"] φ_is_sizes :=
  fok_of (N := ["value", "count", "size"]) F sc_is_sizes fun cdv A outer s H E hr => (bok_cons (sok_if (tok_w (wok_or (tok_not (tok_val (D_is_row.call hr (aok_cons (ev 0) aok_nil)))) (wok_or1 (tok_cmp (op_neD hr.units) op2_ne (eok_len T.b_len (ev 0)) (ev 1) (nomark _))))) (bok_one (sok_ret eok_bool)) bok_nil) (bok_cons (sok_for (b := w_is_sizes_0) pass_def rfl (iok_row (i := 2) (ev 0)) (tn 2 sc_is_sizes.nd) (bok_one (sok_if (tok_not (tok_val (D_is_number.call hr (aok_cons (ev 2) (aok_cons eok_int (aok_cons (eg (.int 999) T.c_SIZE_LIMIT.choose_spec ⟨_, rfl⟩) aok_nil)))))) (bok_one (sok_ret eok_bool)) bok_nil))) (bok_one (sok_ret eok_bool))))
/-! check_weights -/
abbrev s_check_weights : Stmt := top 37
theorem sc_check_weights : FnScope ["weights", "at", "sizes"] ["weights"] (defScope s_check_weights) := ⟨rfl, rfl, rfl, by decide +kernel, rfl, by decide +kernel, by decide +kernel⟩
def w_check_weights_0 : SC := (sIf (tNot (tB (eCall φ_is_sizes [(eVar 2), (eBin fAdd (eVar 1) (eK (.int 1)))]))) sStuck sPass)
def b_check_weights : SC := (sSeq (sIf (tOr (tNot (tB (eCall φ_is_row [(eVar 0)]))) (tB (eBin fEq (eUn fLen (eVar 0)) (eK (.int 0))))) sStuck sPass) (sSeq (sIf (tB (eBin fGt (eUn fLen (eVar 0)) (eK (.int 12)))) sStuck sPass) (sSeq (sFor [1, 2] (iEnum (eVar 0)) w_check_weights_0) (sRet (eComp [2] (iRow (eVar 0)) tYes (eUn fList (eVar 2)))))))
def φ_check_weights : Fn := runBody b_check_weights 3
theorem ok_check_weights {f : Addr} {fd : FuncData} (F : Fun K "check_weights" "check_weights" s_check_weights f fd) (T : Txt mg) {f_is_row : Addr} {fd_is_row : FuncData} (D_is_row : Df P w K mg base 1 f_is_row fd_is_row "is_row" ["value"] φ_is_row) {f_is_sizes : Addr} {fd_is_sizes : FuncData} (D_is_sizes : Df P w K mg base 2 f_is_sizes fd_is_sizes "is_sizes" ["value", "count"] φ_is_sizes) : FOk P w K mg base 3 f fd ["weights"] φ_check_weights :=
  fok_of (N := ["weights", "at", "sizes"]) F sc_check_weights fun cdv A outer s H E hr => (bok_cons (sok_if (tok_w (wok_or (tok_not (tok_val (D_is_row.call hr (aok_cons (ev 0) aok_nil)))) (wok_or1 (tok_cmp (op_eqD hr.units) op2_eq (eok_len T.b_len (ev 0)) eok_int (nomark _))))) (bok_one sok_stuck) bok_nil) (bok_cons (sok_if (tok_cmp op_gt op2_gt (eok_len T.b_len (ev 0)) (eg (.int 12) T.c_LEVELS_LIMIT.choose_spec ⟨_, rfl⟩) (nomark _)) (bok_one sok_stuck) bok_nil) (bok_cons (sok_for (b := w_check_weights_0) pass_def rfl (iok_enum (i := 1) (j := 2) T.b_enumerate (ev 0)) (pg_row rfl (pgs_cons (tn 1 sc_check_weights.nd) (pgs_cons (tn 2 sc_check_weights.nd) pgs_nil))) (bok_one (sok_if (tok_not (tok_val (D_is_sizes.call hr (aok_cons (ev 2) (aok_cons (eok_add (ev 1) eok_int) aok_nil))))) (bok_one sok_stuck) bok_nil))) (bok_one (sok_ret (eok_comp rfl sc_check_weights.nd (iok_row (i := 2) (ev 0)) (blkOk_by (own := [("sizes", 2)]) (show blkC ["weights", "at", "sizes"] (defScope s_check_weights) _ _ = true by decide +kernel)) rfl (fun _ _ _ _ _ => ⟨(tn 2 sc_check_weights.nd), pts_nilV, (eok_list T.b_list (ev 2))⟩)))))))
/-! check_plan -/
abbrev s_check_plan : Stmt := top 38
theorem sc_check_plan : FnScope ["weights", "levels"] ["weights", "levels"] (defScope s_check_plan) := ⟨rfl, rfl, rfl, by decide +kernel, rfl, by decide +kernel, by decide +kernel⟩
def b_check_plan : SC := (sSeq (sFrz 0 (sSet 0 (eCall φ_check_weights [(eVar 0)]))) (sSeq (sFrz 1 (sSet 1 (eCall φ_check_levels [(eVar 1)]))) (sSeq (sIf (tB (eBin fNe (eUn fLen (eVar 1)) (eUn fLen (eVar 0)))) sStuck sPass) (sFrz 1 (sFrz 0 (sRet (eTup [(eVar 0), (eVar 1)])))))))
def φ_check_plan : Fn := runBody b_check_plan 2
theorem ok_check_plan {f : Addr} {fd : FuncData} (F : Fun K "check_plan" "check_plan" s_check_plan f fd) (T : Txt mg) {f_check_weights : Addr} {fd_check_weights : FuncData} (D_check_weights : Df P w K mg base 3 f_check_weights fd_check_weights "check_weights" ["weights"] φ_check_weights) {f_check_levels : Addr} {fd_check_levels : FuncData} (D_check_levels : Df P w K mg base 3 f_check_levels fd_check_levels "check_levels" ["levels"] φ_check_levels) : FOk P w K mg base 4 f fd ["weights", "levels"] φ_check_plan :=
  fok_of (N := ["weights", "levels"]) F sc_check_plan fun cdv A outer s H E hr => (bok_cons (sok_frz (i := 0) (st 0 sc_check_plan.nd (D_check_weights.call hr (aok_cons (ev 0) aok_nil)))) (bok_cons (sok_frz (i := 1) (st 1 sc_check_plan.nd (D_check_levels.call hr (aok_cons (ev 1) aok_nil)))) (bok_cons (sok_if (tok_cmp (op_neD hr.units) op2_ne (eok_len T.b_len (ev 1)) (eok_len T.b_len (ev 0)) (nomark _)) (bok_one sok_stuck) bok_nil) (bok_one (sok_frz (i := 1) (sok_frz (i := 0) (sok_ret (eok_tup (aok_cons (ev 0) (aok_cons (ev 1) aok_nil))))))))))
/-! level_house -/
abbrev s_level_house : Stmt := top 40
theorem sc_level_house : FnScope ["weights", "levels", "copies", "at", "base"] ["weights", "levels"] (defScope s_level_house) := ⟨rfl, rfl, rfl, by decide +kernel, rfl, by decide +kernel, by decide +kernel⟩
def w_level_house_0 : SC := (sApp (eVar 2) (eTup [(eVar 4), (eBin fAdd (eVar 3) (eK (.int 1))), (eBin fIx (eBin fIx (eVar 0) (eVar 3)) (eVar 4))]))
def b_level_house : SC := (sSeq (sFrz 1 (sFrz 0 (sUnp [0, 1] (eCall φ_check_plan [(eVar 0), (eVar 1)])))) (sSeq (sIf (tB (eBin fGt (eUn fLen (eVar 1)) (eK (.int 10)))) sStuck sPass) (sSeq (sSet 2 (eLst [])) (sSeq (sFrz 1 (sFor [3, 4] (iEnum (eCall φ_base_list [(eVar 1)])) w_level_house_0)) (sRetM [.ev (eUn fLen (eVar 1)), .mv 2])))))
def φ_level_house : Fn := runBody b_level_house 5
theorem ok_level_house {f : Addr} {fd : FuncData} (F : Fun K "level_house" "level_house" s_level_house f fd) (T : Txt mg) {f_check_plan : Addr} {fd_check_plan : FuncData} (D_check_plan : Df P w K mg base 4 f_check_plan fd_check_plan "check_plan" ["weights", "levels"] φ_check_plan) {f_base_list : Addr} {fd_base_list : FuncData} (D_base_list : Df P w K mg base 1 f_base_list fd_base_list "base_list" ["levels"] φ_base_list) : FOk P w K mg base 5 f fd ["weights", "levels"] φ_level_house :=
  fok_of (N := ["weights", "levels", "copies", "at", "base"]) F sc_level_house fun cdv A outer s H E hr => (bok_cons (sok_frz (i := 1) (sok_frz (i := 0) (sok_unp (tg := [0, 1]) rfl (D_check_plan.call hr (aok_cons (ev 0) (aok_cons (ev 1) aok_nil))) (pgs_cons (tn 0 sc_level_house.nd) (pgs_cons (tn 1 sc_level_house.nd) pgs_nil))))) (bok_cons (sok_if (tok_cmp op_gt op2_gt (eok_len T.b_len (ev 1)) (eg (.int 10) T.c_DAYS_LIMIT.choose_spec ⟨_, rfl⟩) (nomark _)) (bok_one sok_stuck) bok_nil) (bok_cons (st 2 sc_level_house.nd (eok_lst aok_nil)) (bok_cons (sok_frz (i := 1) (sok_for (b := w_level_house_0) pass_def rfl (iok_enum (i := 3) (j := 4) T.b_enumerate (D_base_list.call hr (aok_cons (ev 1) aok_nil))) (pg_row rfl (pgs_cons (tn 3 sc_level_house.nd) (pgs_cons (tn 4 sc_level_house.nd) pgs_nil))) (bok_one (sok_app (ev 2) (eok_tup (aok_cons (ev 4) (aok_cons (eok_add (ev 3) eok_int) (aok_cons (eok_ix (eok_ix (ev 0) (ev 3)) (ev 4)) aok_nil)))))))) (bok_one (sok_retM (mok_ev (eok_len T.b_len (ev 1)) (mok_mv 2 mok_nil))))))))
/-! given_days -/
abbrev s_given_days : Stmt := top 32
theorem sc_given_days : FnScope ["copies", "sealed", "reached", "grows", "copy"] ["copies", "sealed"] (defScope s_given_days) := ⟨rfl, rfl, rfl, by decide +kernel, rfl, by decide +kernel, by decide +kernel⟩
def w_given_days_0 : SC := (sIf (tAnd (tB (eBin fNotIn (eBin fIx (eVar 4) (eK (.int 1))) (eVar 2))) (tOr (tB (eBin fEq (eBin fIx (eVar 4) (eK (.int 0))) (eK (.int 0)))) (tB (eBin fIn (eBin fIx (eVar 4) (eK (.int 0))) (eVar 2))))) (sSeq (sApp (eVar 2) (eBin fIx (eVar 4) (eK (.int 1)))) (sSet 3 (eK (.bool true)))) sPass)
def w_given_days_1 : SC := (sSeq (sSet 3 (eK (.bool false))) (sFor [4] (iRow (eVar 0)) w_given_days_0))
def b_given_days : SC := (sSeq (sSet 2 (eUn fList (eVar 1))) (sSeq (sSet 3 (eK (.bool true))) (sSeq (sWhile (tB (eVar 3)) w_given_days_1) (sFrz 2 (sRet (eUn fSorted (eVar 2)))))))
def φ_given_days : Fn := runBody b_given_days 5
theorem ok_given_days {f : Addr} {fd : FuncData} (F : Fun K "given_days" "given_days" s_given_days f fd) (T : Txt mg)  : FOk P w K mg base 1 f fd ["copies", "sealed"] φ_given_days :=
  fok_of (N := ["copies", "sealed", "reached", "grows", "copy"]) F sc_given_days fun cdv A outer s H E hr => (bok_cons (st 2 sc_given_days.nd (eok_list T.b_list (ev 1))) (bok_cons (st 3 sc_given_days.nd eok_bool) (bok_cons (sok_while (b := w_given_days_1) pass_def (tok_val (ev 3)) (bok_cons (st 3 sc_given_days.nd eok_bool) (bok_one (sok_for (b := w_given_days_0) pass_def rfl (iok_row (i := 4) (ev 0)) (tn 4 sc_given_days.nd) (bok_one (sok_if (tok_w (wok_and (tok_cmp op_notIn_seq op2_notIn (eok_ix (ev 4) eok_int) (ev 2) (by with_unfolding_all rfl)) (wok_and1 (tok_w (wok_or (tok_cmp (op_eqD hr.units) op2_eq (eok_ix (ev 4) eok_int) eok_int (nomark _)) (wok_or1 (tok_cmp op_in_seq op2_in (eok_ix (ev 4) eok_int) (ev 2) (by with_unfolding_all rfl)))))))) (bok_cons (sok_app (ev 2) (eok_ix (ev 4) eok_int)) (bok_one (st 3 sc_given_days.nd eok_bool))) bok_nil)))))) (bok_one (sok_frz (i := 2) (sok_ret (eok_sorted T.b_sorted (ev 2))))))))
/-! days_of -/
abbrev s_days_of : Stmt := top 33
theorem sc_days_of : FnScope ["copies", "kept", "at"] ["copies", "kept"] (defScope s_days_of) := ⟨rfl, rfl, rfl, by decide +kernel, rfl, by decide +kernel, by decide +kernel⟩
def b_days_of : SC := (sRet (eCall φ_given_days [(eComp [2] (iRow (eVar 1)) tYes (eBin fIx (eVar 0) (eVar 2))), (eLst [])]))
def φ_days_of : Fn := runBody b_days_of 3
theorem ok_days_of {f : Addr} {fd : FuncData} (F : Fun K "days_of" "days_of" s_days_of f fd) (T : Txt mg) {f_given_days : Addr} {fd_given_days : FuncData} (D_given_days : Df P w K mg base 1 f_given_days fd_given_days "given_days" ["copies", "sealed"] φ_given_days) : FOk P w K mg base 2 f fd ["copies", "kept"] φ_days_of :=
  fok_of (N := ["copies", "kept", "at"]) F sc_days_of fun cdv A outer s H E hr => (bok_one (sok_ret (D_given_days.call hr (aok_cons (eok_comp rfl sc_days_of.nd (iok_row (i := 2) (ev 1)) (blkOk_by (own := [("at", 2)]) (show blkC ["copies", "kept", "at"] (defScope s_days_of) _ _ = true by decide +kernel)) rfl (fun _ _ _ _ _ => ⟨(tn 2 sc_days_of.nd), pts_nilV, (eok_ix (ev 0) (ev 2))⟩)) (aok_cons (eok_lst aok_nil) aok_nil)))))
/-! check_frame -/
abbrev s_check_frame : Stmt := top 28
theorem sc_check_frame : FnScope ["house", "days", "copies"] ["house"] (defScope s_check_frame) := ⟨rfl, rfl, rfl, by decide +kernel, rfl, by decide +kernel, by decide +kernel⟩
def b_check_frame : SC := (sSeq (sIf (tOr (tNot (tB (eCall φ_is_row [(eVar 0)]))) (tB (eBin fNe (eUn fLen (eVar 0)) (eK (.int 2))))) sStuck sPass) (sSeq (sUnp [1, 2] (eVar 0)) (sSeq (sFrz 2 (sFrz 1 (sIf (tOr (tNot (tB (eCall φ_is_number [(eVar 1), (eK (.int 1)), (eK (.int 10))]))) (tNot (tB (eCall φ_is_row [(eVar 2)])))) sStuck sPass))) (sSeq (sIf (tB (eBin fGt (eUn fLen (eVar 2)) (eK (.int 30)))) sStuck sPass) (sFrz 2 (sFrz 1 (sRet (eTup [(eVar 1), (eVar 2)]))))))))
def φ_check_frame : Fn := runBody b_check_frame 3
theorem ok_check_frame {f : Addr} {fd : FuncData} (F : Fun K "check_frame" "check_frame" s_check_frame f fd) (T : Txt mg) {f_is_row : Addr} {fd_is_row : FuncData} (D_is_row : Df P w K mg base 1 f_is_row fd_is_row "is_row" ["value"] φ_is_row) {f_is_number : Addr} {fd_is_number : FuncData} (D_is_number : Df P w K mg base 1 f_is_number fd_is_number "is_number" ["value", "low", "high"] φ_is_number) : FOk P w K mg base 2 f fd ["house"] φ_check_frame :=
  fok_of (N := ["house", "days", "copies"]) F sc_check_frame fun cdv A outer s H E hr => (bok_cons (sok_if (tok_w (wok_or (tok_not (tok_val (D_is_row.call hr (aok_cons (ev 0) aok_nil)))) (wok_or1 (tok_cmp (op_neD hr.units) op2_ne (eok_len T.b_len (ev 0)) eok_int (nomark _))))) (bok_one sok_stuck) bok_nil) (bok_cons (sok_unp (tg := [1, 2]) rfl (ev 0) (pgs_cons (tn 1 sc_check_frame.nd) (pgs_cons (tn 2 sc_check_frame.nd) pgs_nil))) (bok_cons (sok_frz (i := 2) (sok_frz (i := 1) (sok_if (tok_w (wok_or (tok_not (tok_val (D_is_number.call hr (aok_cons (ev 1) (aok_cons eok_int (aok_cons (eg (.int 10) T.c_DAYS_LIMIT.choose_spec ⟨_, rfl⟩) aok_nil)))))) (wok_or1 (tok_not (tok_val (D_is_row.call hr (aok_cons (ev 2) aok_nil))))))) (bok_one sok_stuck) bok_nil))) (bok_cons (sok_if (tok_cmp op_gt op2_gt (eok_len T.b_len (ev 2)) (eg (.int 30) T.c_COPIES_LIMIT.choose_spec ⟨_, rfl⟩) (nomark _)) (bok_one sok_stuck) bok_nil) (bok_one (sok_frz (i := 2) (sok_frz (i := 1) (sok_ret (eok_tup (aok_cons (ev 1) (aok_cons (ev 2) aok_nil)))))))))))
/-! is_link -/
abbrev s_is_link : Stmt := top 27
theorem sc_is_link : FnScope ["days", "base", "day"] ["days", "base", "day"] (defScope s_is_link) := ⟨rfl, rfl, rfl, by decide +kernel, rfl, by decide +kernel, by decide +kernel⟩
def b_is_link : SC := (sRet (eAnd (eCall φ_is_number [(eVar 2), (eK (.int 1)), (eVar 0)]) (eAnd (eCall φ_is_number [(eVar 1), (eK (.int 0)), (eVar 0)]) (eBin fNe (eVar 1) (eVar 2)))))
def φ_is_link : Fn := runBody b_is_link 3
theorem ok_is_link {f : Addr} {fd : FuncData} (F : Fun K "is_link" "is_link" s_is_link f fd) (T : Txt mg) {f_is_number : Addr} {fd_is_number : FuncData} (D_is_number : Df P w K mg base 1 f_is_number fd_is_number "is_number" ["value", "low", "high"] φ_is_number) : FOk P w K mg base 2 f fd ["days", "base", "day"] φ_is_link :=
  fok_of (N := ["days", "base", "day"]) F sc_is_link fun cdv A outer s H E hr => (bok_one (sok_ret (eok_and (D_is_number.call hr (aok_cons (ev 2) (aok_cons eok_int (aok_cons (ev 0) aok_nil)))) (eok_and (D_is_number.call hr (aok_cons (ev 1) (aok_cons eok_int (aok_cons (ev 0) aok_nil)))) (eok_one (eok_cmp (op_neD hr.units) op2_ne (ev 1) (ev 2) (nomark _)))))))
/-! check_house -/
abbrev s_check_house : Stmt := top 29
theorem sc_check_house : FnScope ["house", "days", "copies", "checked", "at", "copy", "base", "day", "size"] ["house"] (defScope s_check_house) := ⟨rfl, rfl, rfl, by decide +kernel, rfl, by decide +kernel, by decide +kernel⟩
def w_check_house_0 : SC := (sSeq (sIf (tOr (tNot (tB (eCall φ_is_row [(eVar 5)]))) (tB (eBin fNe (eUn fLen (eVar 5)) (eK (.int 3))))) sStuck sPass) (sSeq (sUnp [6, 7, 8] (eVar 5)) (sSeq (sFrz 8 (sFrz 7 (sFrz 6 (sFrz 1 (sIf (tOr (tNot (tB (eCall φ_is_link [(eVar 1), (eVar 6), (eVar 7)]))) (tNot (tB (eCall φ_is_number [(eVar 8), (eK (.int 0)), (eK (.int 999))])))) sStuck sPass))))) (sFrz 8 (sFrz 7 (sFrz 6 (sApp (eVar 3) (eTup [(eVar 6), (eVar 7), (eVar 8)]))))))))
def b_check_house : SC := (sSeq (sUnp [1, 2] (eCall φ_check_frame [(eVar 0)])) (sSeq (sSet 3 (eLst [])) (sSeq (sFrz 2 (sFor [4, 5] (iEnum (eVar 2)) w_check_house_0)) (sFrz 3 (sFrz 1 (sRet (eTup [(eVar 1), (eVar 3)])))))))
def φ_check_house : Fn := runBody b_check_house 9
theorem ok_check_house {f : Addr} {fd : FuncData} (F : Fun K "check_house" "check_house" s_check_house f fd) (T : Txt mg) {f_check_frame : Addr} {fd_check_frame : FuncData} (D_check_frame : Df P w K mg base 2 f_check_frame fd_check_frame "check_frame" ["house"] φ_check_frame) {f_is_row : Addr} {fd_is_row : FuncData} (D_is_row : Df P w K mg base 1 f_is_row fd_is_row "is_row" ["value"] φ_is_row) {f_is_link : Addr} {fd_is_link : FuncData} (D_is_link : Df P w K mg base 2 f_is_link fd_is_link "is_link" ["days", "base", "day"] φ_is_link) {f_is_number : Addr} {fd_is_number : FuncData} (D_is_number : Df P w K mg base 1 f_is_number fd_is_number "is_number" ["value", "low", "high"] φ_is_number) : FOk P w K mg base 3 f fd ["house"] φ_check_house :=
  fok_of (N := ["house", "days", "copies", "checked", "at", "copy", "base", "day", "size"]) F sc_check_house fun cdv A outer s H E hr => (bok_cons (sok_unp (tg := [1, 2]) rfl (D_check_frame.call hr (aok_cons (ev 0) aok_nil)) (pgs_cons (tn 1 sc_check_house.nd) (pgs_cons (tn 2 sc_check_house.nd) pgs_nil))) (bok_cons (st 3 sc_check_house.nd (eok_lst aok_nil)) (bok_cons (sok_frz (i := 2) (sok_for (b := w_check_house_0) pass_def rfl (iok_enum (i := 4) (j := 5) T.b_enumerate (ev 2)) (pg_row rfl (pgs_cons (tn 4 sc_check_house.nd) (pgs_cons (tn 5 sc_check_house.nd) pgs_nil))) (bok_cons (sok_if (tok_w (wok_or (tok_not (tok_val (D_is_row.call hr (aok_cons (ev 5) aok_nil)))) (wok_or1 (tok_cmp (op_neD hr.units) op2_ne (eok_len T.b_len (ev 5)) eok_int (nomark _))))) (bok_one sok_stuck) bok_nil) (bok_cons (sok_unp (tg := [6, 7, 8]) rfl (ev 5) (pgs_cons (tn 6 sc_check_house.nd) (pgs_cons (tn 7 sc_check_house.nd) (pgs_cons (tn 8 sc_check_house.nd) pgs_nil)))) (bok_cons (sok_frz (i := 8) (sok_frz (i := 7) (sok_frz (i := 6) (sok_frz (i := 1) (sok_if (tok_w (wok_or (tok_not (tok_val (D_is_link.call hr (aok_cons (ev 1) (aok_cons (ev 6) (aok_cons (ev 7) aok_nil)))))) (wok_or1 (tok_not (tok_val (D_is_number.call hr (aok_cons (ev 8) (aok_cons eok_int (aok_cons (eg (.int 999) T.c_SIZE_LIMIT.choose_spec ⟨_, rfl⟩) aok_nil))))))))) (bok_one sok_stuck) bok_nil))))) (bok_one (sok_frz (i := 8) (sok_frz (i := 7) (sok_frz (i := 6) (sok_app (ev 3) (eok_tup (aok_cons (ev 6) (aok_cons (ev 7) (aok_cons (ev 8) aok_nil)))))))))))))) (bok_one (sok_frz (i := 3) (sok_frz (i := 1) (sok_ret (eok_tup (aok_cons (ev 1) (aok_cons (ev 3) aok_nil))))))))))
/-! first_fault -/
abbrev s_first_fault : Stmt := top 11
theorem sc_first_fault : FnScope ["row", "low", "high", "at", "member"] ["row", "low", "high"] (defScope s_first_fault) := ⟨rfl, rfl, rfl, by decide +kernel, rfl, by decide +kernel, by decide +kernel⟩
def w_first_fault_0 : SC := (sSeq (sIf (tNot (tB (eCall φ_is_number [(eVar 4), (eVar 1), (eVar 2)]))) (sRet (eVar 3)) sPass) (sIf (tAnd (tB (eBin fGt (eVar 3) (eK (.int 0)))) (tB (eBin fLe (eVar 4) (eBin fIx (eVar 0) (eBin fSub (eVar 3) (eK (.int 1))))))) (sRet (eVar 3)) sPass))
def b_first_fault : SC := (sSeq (sFor [3, 4] (iEnum (eVar 0)) w_first_fault_0) (sRet (eK .none)))
def φ_first_fault : Fn := runBody b_first_fault 5
theorem ok_first_fault {f : Addr} {fd : FuncData} (F : Fun K "first_fault" "first_fault" s_first_fault f fd) (T : Txt mg) {f_is_number : Addr} {fd_is_number : FuncData} (D_is_number : Df P w K mg base 1 f_is_number fd_is_number "is_number" ["value", "low", "high"] φ_is_number) : FOk P w K mg base 2 f fd ["row", "low", "high"] φ_first_fault :=
  fok_of (N := ["row", "low", "high", "at", "member"]) F sc_first_fault fun cdv A outer s H E hr => (bok_cons (sok_for (b := w_first_fault_0) pass_def rfl (iok_enum (i := 3) (j := 4) T.b_enumerate (ev 0)) (pg_row rfl (pgs_cons (tn 3 sc_first_fault.nd) (pgs_cons (tn 4 sc_first_fault.nd) pgs_nil))) (bok_cons (sok_if (tok_not (tok_val (D_is_number.call hr (aok_cons (ev 4) (aok_cons (ev 1) (aok_cons (ev 2) aok_nil)))))) (bok_one (sok_ret (ev 3))) bok_nil) (bok_one (sok_if (tok_w (wok_and (tok_cmp op_gt op2_gt (ev 3) eok_int (nomark _)) (wok_and1 (tok_cmp op_le op2_le (ev 4) (eok_ix (ev 0) (eok_sub (ev 3) eok_int)) (nomark _))))) (bok_one (sok_ret (ev 3))) bok_nil)))) (bok_one (sok_ret eok_none)))
/-! check_choice -/
abbrev s_check_choice : Stmt := top 13
theorem sc_check_choice : FnScope ["value", "low", "high", "at"] ["value", "low", "high"] (defScope s_check_choice) := ⟨rfl, rfl, rfl, by decide +kernel, rfl, by decide +kernel, by decide +kernel⟩
def b_check_choice : SC := (sSeq (sIf (tNot (tB (eCall φ_is_row [(eVar 0)]))) sStuck sPass) (sSeq (sSet 3 (eCall φ_first_fault [(eVar 0), (eVar 1), (eVar 2)])) (sSeq (sIf (tB (eUn fNotN (eVar 3))) (sFrz 3 sStuck) sPass) (sRet (eUn fList (eVar 0))))))
def φ_check_choice : Fn := runBody b_check_choice 4
theorem ok_check_choice {f : Addr} {fd : FuncData} (F : Fun K "check_choice" "check_choice" s_check_choice f fd) (T : Txt mg) {f_first_fault : Addr} {fd_first_fault : FuncData} (D_first_fault : Df P w K mg base 2 f_first_fault fd_first_fault "first_fault" ["row", "low", "high"] φ_first_fault) {f_is_row : Addr} {fd_is_row : FuncData} (D_is_row : Df P w K mg base 1 f_is_row fd_is_row "is_row" ["value"] φ_is_row) : FOk P w K mg base 3 f fd ["value", "low", "high"] φ_check_choice :=
  fok_of (N := ["value", "low", "high", "at"]) F sc_check_choice fun cdv A outer s H E hr => (bok_cons (sok_if (tok_not (tok_val (D_is_row.call hr (aok_cons (ev 0) aok_nil)))) (bok_one sok_stuck) bok_nil) (bok_cons (st 3 sc_check_choice.nd (D_first_fault.call hr (aok_cons (ev 0) (aok_cons (ev 1) (aok_cons (ev 2) aok_nil))))) (bok_cons (sok_if (tok_notN (ev 3)) (bok_one (sok_frz (i := 3) sok_stuck)) bok_nil) (bok_one (sok_ret (eok_list T.b_list (ev 0)))))))
/-! check_kept -/
abbrev s_check_kept : Stmt := top 30
theorem sc_check_kept : FnScope ["kept", "count"] ["kept", "count"] (defScope s_check_kept) := ⟨rfl, rfl, rfl, by decide +kernel, rfl, by decide +kernel, by decide +kernel⟩
def b_check_kept : SC := (sSeq (sIf (tB (eUn fIsN (eVar 0))) (sRet (eUn fLRng1 (eVar 1))) sPass) (sRet (eCall φ_check_choice [(eVar 0), (eK (.int 0)), (eBin fSub (eVar 1) (eK (.int 1)))])))
def φ_check_kept : Fn := runBody b_check_kept 2
theorem ok_check_kept {f : Addr} {fd : FuncData} (F : Fun K "check_kept" "check_kept" s_check_kept f fd) (T : Txt mg) {f_check_choice : Addr} {fd_check_choice : FuncData} (D_check_choice : Df P w K mg base 3 f_check_choice fd_check_choice "check_choice" ["value", "low", "high"] φ_check_choice) : FOk P w K mg base 4 f fd ["kept", "count"] φ_check_kept :=
  fok_of (N := ["kept", "count"]) F sc_check_kept fun cdv A outer s H E hr => (bok_cons (sok_if (tok_isN (ev 0)) (bok_one (sok_ret (eok_lrng1 T.b_list T.b_range (ev 1)))) bok_nil) (bok_one (sok_ret (D_check_choice.call hr (aok_cons (ev 0) (aok_cons eok_int (aok_cons (eok_sub (ev 1) eok_int) aok_nil)))))))
/-! restorable -/
abbrev s_restorable : Stmt := top 34
theorem sc_restorable : FnScope ["house", "kept", "copies"] ["house", "kept"] (defScope s_restorable) := ⟨rfl, rfl, rfl, by decide +kernel, rfl, by decide +kernel, by decide +kernel⟩
def b_restorable : SC := (sSeq (sSet 2 (eBin fIx (eCall φ_check_house [(eVar 0)]) (eK (.int 1)))) (sFrz 2 (sRet (eCall φ_days_of [(eVar 2), (eCall φ_check_kept [(eVar 1), (eUn fLen (eVar 2))])]))))
def φ_restorable : Fn := runBody b_restorable 3
theorem ok_restorable {f : Addr} {fd : FuncData} (F : Fun K "restorable" "restorable" s_restorable f fd) (T : Txt mg) {f_days_of : Addr} {fd_days_of : FuncData} (D_days_of : Df P w K mg base 2 f_days_of fd_days_of "days_of" ["copies", "kept"] φ_days_of) {f_check_house : Addr} {fd_check_house : FuncData} (D_check_house : Df P w K mg base 3 f_check_house fd_check_house "check_house" ["house"] φ_check_house) {f_check_kept : Addr} {fd_check_kept : FuncData} (D_check_kept : Df P w K mg base 4 f_check_kept fd_check_kept "check_kept" ["kept", "count"] φ_check_kept) : FOk P w K mg base 5 f fd ["house", "kept"] φ_restorable :=
  fok_of (N := ["house", "kept", "copies"]) F sc_restorable fun cdv A outer s H E hr => (bok_cons (st 2 sc_restorable.nd (eok_ix (D_check_house.call hr (aok_cons (ev 0) aok_nil)) eok_int)) (bok_one (sok_frz (i := 2) (sok_ret (D_days_of.call hr (aok_cons (ev 2) (aok_cons (D_check_kept.call hr (aok_cons (ev 1) (aok_cons (eok_len T.b_len (ev 2)) aok_nil))) aok_nil)))))))
/-! _law_is_house -/
abbrev s__law_is_house : Stmt := top 51
theorem sc__law_is_house : FnScope ["told", "due", "k", "copy"] ["told", "due"] (defScope s__law_is_house) := ⟨rfl, rfl, rfl, by decide +kernel, rfl, by decide +kernel, by decide +kernel⟩
def w__law_is_house_0 : SC := (sSeq (sSet 3 (eBin fIx (eBin fIx (eVar 0) (eK (.int 1))) (eVar 2))) (sFrz 3 (sIf (tOr (tNot (tB (eUn (fIsI .tuple) (eVar 3)))) (tNot (tB (eCall φ__law_are_numbers [(eUn fList (eVar 3)), (eUn fList (eBin fIx (eBin fIx (eVar 1) (eK (.int 1))) (eVar 2)))])))) (sRet (eK (.bool false))) sPass)))
def b__law_is_house : SC := (sSeq (sIf (tOr (tNot (tB (eUn (fIsI .tuple) (eVar 0)))) (tOr (tB (eBin fNe (eUn fLen (eVar 0)) (eK (.int 2)))) (tNot (tB (eUn (fIsI .list) (eBin fIx (eVar 0) (eK (.int 1)))))))) (sRet (eK (.bool false))) sPass) (sSeq (sIf (tOr (tNot (tB (eCall φ__law_is_number [(eBin fIx (eVar 0) (eK (.int 0)))]))) (tOr (tB (eBin fNe (eBin fIx (eVar 0) (eK (.int 0))) (eBin fIx (eVar 1) (eK (.int 0))))) (tB (eBin fNe (eUn fLen (eBin fIx (eVar 0) (eK (.int 1)))) (eUn fLen (eBin fIx (eVar 1) (eK (.int 1)))))))) (sRet (eK (.bool false))) sPass) (sSeq (sFor [2] (iRng1 (eUn fLen (eBin fIx (eVar 1) (eK (.int 1))))) w__law_is_house_0) (sRet (eK (.bool true))))))
def φ__law_is_house : Fn := runBody b__law_is_house 4
theorem ok__law_is_house {f : Addr} {fd : FuncData} (F : Fun K "_law_is_house" "_law_is_house" s__law_is_house f fd) (T : Txt mg) {f__law_is_number : Addr} {fd__law_is_number : FuncData} (D__law_is_number : Df P w K mg base 1 f__law_is_number fd__law_is_number "_law_is_number" ["told"] φ__law_is_number) {f__law_are_numbers : Addr} {fd__law_are_numbers : FuncData} (D__law_are_numbers : Df P w K mg base 2 f__law_are_numbers fd__law_are_numbers "_law_are_numbers" ["told", "due"] φ__law_are_numbers) : FOk P w K mg base 3 f fd ["told", "due"] φ__law_is_house :=
  fok_of (N := ["told", "due", "k", "copy"]) F sc__law_is_house fun cdv A outer s H E hr => (bok_cons (sok_if (tok_w (wok_or (tok_not (tok_val (eok_isI T.b_isinstance (ev 0) (ty_name (c := .tuple) T.b_tuple (by rfl))))) (wok_or (tok_cmp (op_neD hr.units) op2_ne (eok_len T.b_len (ev 0)) eok_int (nomark _)) (wok_or1 (tok_not (tok_val (eok_isI T.b_isinstance (eok_ix (ev 0) eok_int) (ty_name (c := .list) T.b_list (by rfl))))))))) (bok_one (sok_ret eok_bool)) bok_nil) (bok_cons (sok_if (tok_w (wok_or (tok_not (tok_val (D__law_is_number.call hr (aok_cons (eok_ix (ev 0) eok_int) aok_nil)))) (wok_or (tok_cmp (op_neD hr.units) op2_ne (eok_ix (ev 0) eok_int) (eok_ix (ev 1) eok_int) (nomark _)) (wok_or1 (tok_cmp (op_neD hr.units) op2_ne (eok_len T.b_len (eok_ix (ev 0) eok_int)) (eok_len T.b_len (eok_ix (ev 1) eok_int)) (nomark _)))))) (bok_one (sok_ret eok_bool)) bok_nil) (bok_cons (sok_for (b := w__law_is_house_0) pass_def rfl (iok_rng1 (i := 2) T.b_range (eok_len T.b_len (eok_ix (ev 1) eok_int))) (tn 2 sc__law_is_house.nd) (bok_cons (st 3 sc__law_is_house.nd (eok_ix (eok_ix (ev 0) eok_int) (ev 2))) (bok_one (sok_frz (i := 3) (sok_if (tok_w (wok_or (tok_not (tok_val (eok_isI T.b_isinstance (ev 3) (ty_name (c := .tuple) T.b_tuple (by rfl))))) (wok_or1 (tok_not (tok_val (D__law_are_numbers.call hr (aok_cons (eok_list T.b_list (ev 3)) (aok_cons (eok_list T.b_list (eok_ix (eok_ix (ev 1) eok_int) (ev 2))) aok_nil)))))))) (bok_one (sok_ret eok_bool)) bok_nil))))) (bok_one (sok_ret eok_bool)))))
/-! _law_restored -/
abbrev s__law_restored : Stmt := top 52
theorem sc__law_restored : FnScope ["plan", "kept", "found", "day", "missing", "read"] ["plan", "kept"] (defScope s__law_restored) := ⟨rfl, rfl, rfl, by decide +kernel, rfl, by decide +kernel, by decide +kernel⟩
def w__law_restored_0 : SC := (sSeq (sSet 4 (eComp [5] (iRow (eCall φ__law_chain [(eVar 0), (eVar 3)])) (tB (eBin fNotIn (eBin fSub (eVar 5) (eK (.int 1))) (eVar 1))) (eVar 5))) (sIf (tB (eBin fEq (eUn fLen (eVar 4)) (eK (.int 0)))) (sApp (eVar 2) (eVar 3)) sPass))
def b__law_restored : SC := (sSeq (sSet 2 (eLst [])) (sSeq (sFor [3] (iRng2 (eK (.int 1)) (eBin fAdd (eUn fLen (eVar 0)) (eK (.int 1)))) w__law_restored_0) (sRet (eVar 2))))
def φ__law_restored : Fn := runBody b__law_restored 6
theorem ok__law_restored {f : Addr} {fd : FuncData} (F : Fun K "_law_restored" "_law_restored" s__law_restored f fd) (T : Txt mg) {f__law_chain : Addr} {fd__law_chain : FuncData} (D__law_chain : Df P w K mg base 2 f__law_chain fd__law_chain "_law_chain" ["plan", "day"] φ__law_chain) : FOk P w K mg base 3 f fd ["plan", "kept"] φ__law_restored :=
  fok_of (N := ["plan", "kept", "found", "day", "missing", "read"]) F sc__law_restored fun cdv A outer s H E hr => (bok_cons (st 2 sc__law_restored.nd (eok_lst aok_nil)) (bok_cons (sok_for (b := w__law_restored_0) pass_def rfl (iok_rng2 (i := 3) T.b_range eok_int (eok_add (eok_len T.b_len (ev 0)) eok_int)) (tn 3 sc__law_restored.nd) (bok_cons (sok_setLc rfl sc__law_restored.nd rfl rfl (by rfl) (iok_row (i := 5) (D__law_chain.call hr (aok_cons (ev 0) (aok_cons (ev 3) aok_nil)))) (blkOk_by (own := [("read", 5)]) (show blkC ["plan", "kept", "found", "day", "missing", "read"] (defScope s__law_restored) _ _ = true by decide +kernel)) rfl (fun _ _ _ _ _ => ⟨(tn 5 sc__law_restored.nd), (pts_oneV (tok_cmp op_notIn_seq op2_notIn (eok_sub (ev 5) eok_int) (ev 1) (by with_unfolding_all rfl))), (ev 5)⟩)) (bok_one (sok_if (tok_cmp (op_eqD hr.units) op2_eq (eok_len T.b_len (ev 4)) eok_int (nomark _)) (bok_one (sok_app (ev 2) (ev 3))) bok_nil)))) (bok_one (sok_ret (ev 2)))))
/-! _law_house_holds -/
abbrev s__law_house_holds : Stmt := top 53
theorem sc__law_house_holds : FnScope ["plan", "coming", "table", "future", "whole", "house", "told", "kept", "day"] ["plan", "coming", "table", "future"] (defScope s__law_house_holds) := ⟨rfl, rfl, rfl, by decide +kernel, rfl, by decide +kernel, by decide +kernel⟩
def w__law_house_holds_0 : SC := (sFrz 7 (sFrz 4 (sIf (tB (eBin fNotIn (eVar 8) (eCall φ__law_restored [(eVar 4), (eVar 7)]))) (sRet (eK (.bool false))) sPass)))
def b__law_house_holds : SC := (sSeq (sSet 4 (eBin fAdd (eVar 0) (eVar 1))) (sSeq (sFrz 4 (sSet 5 (eCall φ__law_house [(eVar 4), (eVar 2)]))) (sSeq (sFrz 4 (sSet 6 (eCall φ_level_house [(eVar 2), (eVar 4)]))) (sSeq (sFrz 5 (sIf (tNot (tB (eCall φ__law_is_house [(eVar 6), (eVar 5)]))) (sRet (eK (.bool false))) sPass)) (sSeq (sApp (eBin fIx (eVar 6) (eK (.int 1))) (eTup [(eK (.int 0)), (eK (.int 1)), (eK (.int 0))])) (sSeq (sFrz 4 (sFrz 5 (sIf (tNot (tB (eCall φ__law_is_house [(eCall φ_level_house [(eVar 2), (eVar 4)]), (eVar 5)]))) (sRet (eK (.bool false))) sPass))) (sSeq (sSet 7 (eBin fAdd (eComp [8] (iRow (eVar 3)) tYes (eBin fSub (eVar 8) (eK (.int 1)))) (eBin fLRng2 (eUn fLen (eVar 0)) (eUn fLen (eVar 4))))) (sSeq (sFrz 7 (sFrz 5 (sSet 6 (eCall φ_restorable [(eVar 5), (eUn fList (eVar 7))])))) (sSeq (sFor [8] (iRng2 (eBin fAdd (eUn fLen (eVar 0)) (eK (.int 1))) (eBin fAdd (eUn fLen (eVar 4)) (eK (.int 1)))) w__law_house_holds_0) (sFrz 7 (sFrz 4 (sFrz 6 (sRet (eCall φ__law_are_numbers [(eVar 6), (eCall φ__law_restored [(eVar 4), (eVar 7)])]))))))))))))))
def φ__law_house_holds : Fn := runBody b__law_house_holds 9
theorem ok__law_house_holds {f : Addr} {fd : FuncData} (F : Fun K "_law_house_holds" "_law_house_holds" s__law_house_holds f fd) (T : Txt mg) {f__law_house : Addr} {fd__law_house : FuncData} (D__law_house : Df P w K mg base 2 f__law_house fd__law_house "_law_house" ["plan", "table"] φ__law_house) {f_level_house : Addr} {fd_level_house : FuncData} (D_level_house : Df P w K mg base 5 f_level_house fd_level_house "level_house" ["weights", "levels"] φ_level_house) {f_restorable : Addr} {fd_restorable : FuncData} (D_restorable : Df P w K mg base 5 f_restorable fd_restorable "restorable" ["house", "kept"] φ_restorable) {f__law_are_numbers : Addr} {fd__law_are_numbers : FuncData} (D__law_are_numbers : Df P w K mg base 2 f__law_are_numbers fd__law_are_numbers "_law_are_numbers" ["told", "due"] φ__law_are_numbers) {f__law_is_house : Addr} {fd__law_is_house : FuncData} (D__law_is_house : Df P w K mg base 3 f__law_is_house fd__law_is_house "_law_is_house" ["told", "due"] φ__law_is_house) {f__law_restored : Addr} {fd__law_restored : FuncData} (D__law_restored : Df P w K mg base 3 f__law_restored fd__law_restored "_law_restored" ["plan", "kept"] φ__law_restored) : FOk P w K mg base 6 f fd ["plan", "coming", "table", "future"] φ__law_house_holds :=
  fok_of (N := ["plan", "coming", "table", "future", "whole", "house", "told", "kept", "day"]) F sc__law_house_holds fun cdv A outer s H E hr => (bok_cons (st 4 sc__law_house_holds.nd (eok_add (ev 0) (ev 1))) (bok_cons (sok_frz (i := 4) (st 5 sc__law_house_holds.nd (D__law_house.call hr (aok_cons (ev 4) (aok_cons (ev 2) aok_nil))))) (bok_cons (sok_frz (i := 4) (st 6 sc__law_house_holds.nd (D_level_house.call hr (aok_cons (ev 2) (aok_cons (ev 4) aok_nil))))) (bok_cons (sok_frz (i := 5) (sok_if (tok_not (tok_val (D__law_is_house.call hr (aok_cons (ev 6) (aok_cons (ev 5) aok_nil))))) (bok_one (sok_ret eok_bool)) bok_nil)) (bok_cons (sok_app (eok_ix (ev 6) eok_int) (eok_tup (aok_cons eok_int (aok_cons eok_int (aok_cons eok_int aok_nil))))) (bok_cons (sok_frz (i := 4) (sok_frz (i := 5) (sok_if (tok_not (tok_val (D__law_is_house.call hr (aok_cons (D_level_house.call hr (aok_cons (ev 2) (aok_cons (ev 4) aok_nil))) (aok_cons (ev 5) aok_nil))))) (bok_one (sok_ret eok_bool)) bok_nil))) (bok_cons (st 7 sc__law_house_holds.nd (eok_add (eok_comp rfl sc__law_house_holds.nd (iok_row (i := 8) (ev 3)) (blkOk_by (own := [("day", 8)]) (show blkC ["plan", "coming", "table", "future", "whole", "house", "told", "kept", "day"] (defScope s__law_house_holds) _ _ = true by decide +kernel)) rfl (fun _ _ _ _ _ => ⟨(tn 8 sc__law_house_holds.nd), pts_nilV, (eok_sub (ev 8) eok_int)⟩)) (eok_lrng2 T.b_list T.b_range (eok_len T.b_len (ev 0)) (eok_len T.b_len (ev 4))))) (bok_cons (sok_frz (i := 7) (sok_frz (i := 5) (st 6 sc__law_house_holds.nd (D_restorable.call hr (aok_cons (ev 5) (aok_cons (eok_list T.b_list (ev 7)) aok_nil)))))) (bok_cons (sok_for (b := w__law_house_holds_0) pass_def rfl (iok_rng2 (i := 8) T.b_range (eok_add (eok_len T.b_len (ev 0)) eok_int) (eok_add (eok_len T.b_len (ev 4)) eok_int)) (tn 8 sc__law_house_holds.nd) (bok_one (sok_frz (i := 7) (sok_frz (i := 4) (sok_if (tok_cmp op_notIn_seq op2_notIn (ev 8) (D__law_restored.call hr (aok_cons (ev 4) (aok_cons (ev 7) aok_nil))) (by with_unfolding_all rfl)) (bok_one (sok_ret eok_bool)) bok_nil))))) (bok_one (sok_frz (i := 7) (sok_frz (i := 4) (sok_frz (i := 6) (sok_ret (D__law_are_numbers.call hr (aok_cons (ev 6) (aok_cons (D__law_restored.call hr (aok_cons (ev 4) (aok_cons (ev 7) aok_nil))) aok_nil)))))))))))))))))
/-! _law_all_needed -/
abbrev s__law_all_needed : Stmt := top 54
theorem sc__law_all_needed : FnScope ["plan", "table", "future", "last", "house", "gone", "kept", "told", "day"] ["plan", "table", "future"] (defScope s__law_all_needed) := ⟨rfl, rfl, rfl, by decide +kernel, rfl, by decide +kernel, by decide +kernel⟩
def w__law_all_needed_0 : SC := (sSeq (sSet 6 (eBin fAdd (eComp [8] (iRow (eVar 2)) (tB (eBin fNe (eVar 8) (eVar 5))) (eBin fSub (eVar 8) (eK (.int 1)))) (eLst [(eUn fLen (eVar 0))]))) (sSeq (sFrz 6 (sFrz 4 (sSet 7 (eCall φ_restorable [(eVar 4), (eVar 6)])))) (sFrz 6 (sFrz 3 (sFrz 7 (sIf (tOr (tNot (tB (eCall φ__law_are_numbers [(eVar 7), (eCall φ__law_restored [(eVar 3), (eVar 6)])]))) (tB (eBin fIn (eUn fLen (eVar 3)) (eVar 7)))) (sRet (eK (.bool false))) sPass))))))
def b__law_all_needed : SC := (sSeq (sSet 3 (eBin fAdd (eVar 0) (eLst [(eK (.int 7))]))) (sSeq (sFrz 3 (sSet 4 (eCall φ__law_house [(eVar 3), (eVar 1)]))) (sSeq (sFor [5] (iRow (eVar 2)) w__law_all_needed_0) (sRet (eK (.bool true))))))
def φ__law_all_needed : Fn := runBody b__law_all_needed 9
theorem ok__law_all_needed {f : Addr} {fd : FuncData} (F : Fun K "_law_all_needed" "_law_all_needed" s__law_all_needed f fd) (T : Txt mg) {f__law_house : Addr} {fd__law_house : FuncData} (D__law_house : Df P w K mg base 2 f__law_house fd__law_house "_law_house" ["plan", "table"] φ__law_house) {f_restorable : Addr} {fd_restorable : FuncData} (D_restorable : Df P w K mg base 5 f_restorable fd_restorable "restorable" ["house", "kept"] φ_restorable) {f__law_are_numbers : Addr} {fd__law_are_numbers : FuncData} (D__law_are_numbers : Df P w K mg base 2 f__law_are_numbers fd__law_are_numbers "_law_are_numbers" ["told", "due"] φ__law_are_numbers) {f__law_restored : Addr} {fd__law_restored : FuncData} (D__law_restored : Df P w K mg base 3 f__law_restored fd__law_restored "_law_restored" ["plan", "kept"] φ__law_restored) : FOk P w K mg base 6 f fd ["plan", "table", "future"] φ__law_all_needed :=
  fok_of (N := ["plan", "table", "future", "last", "house", "gone", "kept", "told", "day"]) F sc__law_all_needed fun cdv A outer s H E hr => (bok_cons (st 3 sc__law_all_needed.nd (eok_add (ev 0) (eok_lst (aok_cons eok_int aok_nil)))) (bok_cons (sok_frz (i := 3) (st 4 sc__law_all_needed.nd (D__law_house.call hr (aok_cons (ev 3) (aok_cons (ev 1) aok_nil))))) (bok_cons (sok_for (b := w__law_all_needed_0) pass_def rfl (iok_row (i := 5) (ev 2)) (tn 5 sc__law_all_needed.nd) (bok_cons (st 6 sc__law_all_needed.nd (eok_add (eok_comp rfl sc__law_all_needed.nd (iok_row (i := 8) (ev 2)) (blkOk_by (own := [("day", 8)]) (show blkC ["plan", "table", "future", "last", "house", "gone", "kept", "told", "day"] (defScope s__law_all_needed) _ _ = true by decide +kernel)) rfl (fun _ _ _ _ _ => ⟨(tn 8 sc__law_all_needed.nd), (pts_oneV (tok_cmp (op_neD hr.units) op2_ne (ev 8) (ev 5) (nomark _))), (eok_sub (ev 8) eok_int)⟩)) (eok_lst (aok_cons (eok_len T.b_len (ev 0)) aok_nil)))) (bok_cons (sok_frz (i := 6) (sok_frz (i := 4) (st 7 sc__law_all_needed.nd (D_restorable.call hr (aok_cons (ev 4) (aok_cons (ev 6) aok_nil)))))) (bok_one (sok_frz (i := 6) (sok_frz (i := 3) (sok_frz (i := 7) (sok_if (tok_w (wok_or (tok_not (tok_val (D__law_are_numbers.call hr (aok_cons (ev 7) (aok_cons (D__law_restored.call hr (aok_cons (ev 3) (aok_cons (ev 6) aok_nil))) aok_nil))))) (wok_or1 (tok_cmp op_in_seq op2_in (eok_len T.b_len (ev 3)) (ev 7) (by with_unfolding_all rfl))))) (bok_one (sok_ret eok_bool)) bok_nil)))))))) (bok_one (sok_ret eok_bool)))))
/-! law -/
abbrev s_law : Stmt := top 55
theorem sc_law : FnScope ["script", "count", "pick", "size", "shift", "plan", "many", "coming", "due", "given", "told", "day", "table", "level", "read"] ["script"] (defScope s_law) := ⟨rfl, rfl, rfl, by decide +kernel, rfl, by decide +kernel, by decide +kernel⟩
def w_law_0 : SC := (sSeq (sFrz 7 (sFrz 5 (sSet 10 (eCall φ_chain [(eBin fAdd (eVar 5) (eVar 7)), (eVar 11)])))) (sSeq (sFrz 7 (sFrz 5 (sFrz 10 (sIf (tNot (tB (eCall φ__law_are_numbers [(eVar 10), (eCall φ__law_chain [(eBin fAdd (eVar 5) (eVar 7)), (eVar 11)])]))) (sRet (eK (.bool false))) sPass)))) (sFrz 10 (sIf (tB (eBin fGt (eUn fLen (eComp [14] (iRow (eVar 10)) (tAnd (tB (eBin fLe (eVar 14) (eVar 1))) (tB (eBin fNotIn (eVar 14) (eVar 8)))) (eVar 14))) (eK (.int 0)))) (sRet (eK (.bool false))) sPass))))
def b_law : SC := (sSeq (sSet 1 (eBin fAdd (eK (.int 1)) (eBin fMod (eUn fInt (eCall φ__law_cell [(eVar 0), (eK (.int 0))])) (eK (.int 11))))) (sSeq (sSet 2 (eUn fInt (eCall φ__law_cell [(eVar 0), (eK (.int 1))]))) (sSeq (sSet 3 (eBin fIx (eLst [(eK (.int 8)), (eK (.int 2)), (eK (.int 3)), (eK (.int 8))]) (eBin fMod (eVar 2) (eK (.int 4))))) (sSeq (sSet 4 (eBin fMul (eBin fSub (eK (.int 8)) (eVar 3)) (eBin fMod (eBin fDiv (eVar 2) (eK (.int 4))) (eK (.int 2))))) (sSeq (sFrz 3 (sSet 5 (eComp [13] (iRow (eCall φ__law_row [(eCall φ__law_cell [(eVar 0), (eK (.int 2))]), (eVar 1), (eVar 3)])) tYes (eBin fAdd (eVar 13) (eVar 4))))) (sSeq (sSet 6 (eBin fAdd (eK (.int 1)) (eBin fMod (eUn fInt (eCall φ__law_cell [(eVar 0), (eK (.int 3))])) (eBin fMin (eK (.int 3)) (eBin fSub (eK (.int 12)) (eVar 1)))))) (sSeq (sSet 7 (eCall φ__law_row [(eCall φ__law_cell [(eVar 0), (eK (.int 4))]), (eVar 6), (eK (.int 8))])) (sSeq (sFrz 5 (sSet 8 (eCall φ__law_future [(eVar 5)]))) (sSeq (sFrz 5 (sSet 9 (eUn fList (eVar 5)))) (sSeq (sFrz 9 (sSet 10 (eCall φ_future_days [(eVar 9)]))) (sSeq (sFrz 8 (sIf (tOr (tB (eBin fNe (eVar 9) (eVar 5))) (tNot (tB (eCall φ__law_are_numbers [(eVar 10), (eVar 8)])))) (sRet (eK (.bool false))) sPass)) (sSeq (sApp (eVar 10) (eBin fAdd (eVar 1) (eK (.int 1)))) (sSeq (sFrz 5 (sFrz 8 (sIf (tNot (tB (eCall φ__law_are_numbers [(eCall φ_future_days [(eUn fTuple (eVar 5))]), (eVar 8)]))) (sRet (eK (.bool false))) sPass))) (sSeq (sFor [11] (iRng2 (eBin fAdd (eVar 1) (eK (.int 1))) (eBin fAdd (eBin fAdd (eVar 1) (eVar 6)) (eK (.int 1)))) w_law_0) (sSeq (sFrz 8 (sFrz 5 (sIf (tNot (tB (eCall φ__law_are_numbers [(eCall φ_chain [(eBin fAdd (eVar 5) (eLst [(eK (.int 7))])), (eBin fAdd (eVar 1) (eK (.int 1)))]), (eBin fAdd (eVar 8) (eLst [(eBin fAdd (eVar 1) (eK (.int 1)))]))]))) (sRet (eK (.bool false))) sPass))) (sSeq (sIf (tB (eBin fGt (eVar 1) (eK (.int 9)))) (sRet (eK (.bool true))) sPass) (sSeq (sFrz 7 (sSet 7 (eSlice (eVar 7) none (some (eBin fSub (eK (.int 10)) (eVar 1)))))) (sSeq (sSet 12 (eCall φ__law_table [(eVar 0), (eBin fAdd (eVar 1) (eUn fLen (eVar 7)))])) (sFrz 8 (sFrz 12 (sFrz 7 (sFrz 5 (sRet (eAnd (eCall φ__law_house_holds [(eVar 5), (eVar 7), (eVar 12), (eVar 8)]) (eCall φ__law_all_needed [(eVar 5), (eSlice (eVar 12) none (some (eBin fAdd (eVar 1) (eK (.int 1))))), (eVar 8)])))))))))))))))))))))))))
def φ_law : Fn := runBody b_law 15
theorem ok_law {f : Addr} {fd : FuncData} (F : Fun K "law" "law" s_law f fd) (T : Txt mg) {f__law_row : Addr} {fd__law_row : FuncData} (D__law_row : Df P w K mg base 1 f__law_row fd__law_row "_law_row" ["cell", "count", "size"] φ__law_row) {f__law_future : Addr} {fd__law_future : FuncData} (D__law_future : Df P w K mg base 3 f__law_future fd__law_future "_law_future" ["plan"] φ__law_future) {f_future_days : Addr} {fd_future_days : FuncData} (D_future_days : Df P w K mg base 4 f_future_days fd_future_days "future_days" ["levels"] φ_future_days) {f__law_table : Addr} {fd__law_table : FuncData} (D__law_table : Df P w K mg base 2 f__law_table fd__law_table "_law_table" ["script", "count"] φ__law_table) {f__law_cell : Addr} {fd__law_cell : FuncData} (D__law_cell : Df P w K mg base 1 f__law_cell fd__law_cell "_law_cell" ["script", "k"] φ__law_cell) {f__law_are_numbers : Addr} {fd__law_are_numbers : FuncData} (D__law_are_numbers : Df P w K mg base 2 f__law_are_numbers fd__law_are_numbers "_law_are_numbers" ["told", "due"] φ__law_are_numbers) {f_chain : Addr} {fd_chain : FuncData} (D_chain : Df P w K mg base 4 f_chain fd_chain "chain" ["levels", "day"] φ_chain) {f__law_house_holds : Addr} {fd__law_house_holds : FuncData} (D__law_house_holds : Df P w K mg base 6 f__law_house_holds fd__law_house_holds "_law_house_holds" ["plan", "coming", "table", "future"] φ__law_house_holds) {f__law_all_needed : Addr} {fd__law_all_needed : FuncData} (D__law_all_needed : Df P w K mg base 6 f__law_all_needed fd__law_all_needed "_law_all_needed" ["plan", "table", "future"] φ__law_all_needed) {f__law_chain : Addr} {fd__law_chain : FuncData} (D__law_chain : Df P w K mg base 2 f__law_chain fd__law_chain "_law_chain" ["plan", "day"] φ__law_chain) : FOk P w K mg base 7 f fd ["script"] φ_law :=
  fok_of (N := ["script", "count", "pick", "size", "shift", "plan", "many", "coming", "due", "given", "told", "day", "table", "level", "read"]) F sc_law fun cdv A outer s H E hr => (bok_cons (st 1 sc_law.nd (eok_add eok_int (eok_mod (eok_intc T.b_int (D__law_cell.call hr (aok_cons (ev 0) (aok_cons eok_int aok_nil)))) eok_int))) (bok_cons (st 2 sc_law.nd (eok_intc T.b_int (D__law_cell.call hr (aok_cons (ev 0) (aok_cons eok_int aok_nil))))) (bok_cons (st 3 sc_law.nd (eok_ix (eok_lst (aok_cons eok_int (aok_cons eok_int (aok_cons eok_int (aok_cons eok_int aok_nil))))) (eok_mod (ev 2) eok_int))) (bok_cons (st 4 sc_law.nd (eok_mul (eok_sub eok_int (ev 3)) (eok_mod (eok_div (ev 2) eok_int) eok_int))) (bok_cons (sok_frz (i := 3) (sok_setLc rfl sc_law.nd rfl rfl (by rfl) (iok_row (i := 13) (D__law_row.call hr (aok_cons (D__law_cell.call hr (aok_cons (ev 0) (aok_cons eok_int aok_nil))) (aok_cons (ev 1) (aok_cons (ev 3) aok_nil))))) (blkOk_by (own := [("level", 13)]) (show blkC ["script", "count", "pick", "size", "shift", "plan", "many", "coming", "due", "given", "told", "day", "table", "level", "read"] (defScope s_law) _ _ = true by decide +kernel)) rfl (fun _ _ _ _ _ => ⟨(tn 13 sc_law.nd), pts_nilV, (eok_add (ev 13) (ev 4))⟩))) (bok_cons (st 6 sc_law.nd (eok_add eok_int (eok_mod (eok_intc T.b_int (D__law_cell.call hr (aok_cons (ev 0) (aok_cons eok_int aok_nil)))) (eok_min T.b_min eok_int (eok_sub eok_int (ev 1)))))) (bok_cons (st 7 sc_law.nd (D__law_row.call hr (aok_cons (D__law_cell.call hr (aok_cons (ev 0) (aok_cons eok_int aok_nil))) (aok_cons (ev 6) (aok_cons eok_int aok_nil))))) (bok_cons (sok_frz (i := 5) (st 8 sc_law.nd (D__law_future.call hr (aok_cons (ev 5) aok_nil)))) (bok_cons (sok_frz (i := 5) (st 9 sc_law.nd (eok_list T.b_list (ev 5)))) (bok_cons (sok_frz (i := 9) (st 10 sc_law.nd (D_future_days.call hr (aok_cons (ev 9) aok_nil)))) (bok_cons (sok_frz (i := 8) (sok_if (tok_w (wok_or (tok_cmp (op_neD hr.units) op2_ne (ev 9) (ev 5) (nomark _)) (wok_or1 (tok_not (tok_val (D__law_are_numbers.call hr (aok_cons (ev 10) (aok_cons (ev 8) aok_nil)))))))) (bok_one (sok_ret eok_bool)) bok_nil)) (bok_cons (sok_app (ev 10) (eok_add (ev 1) eok_int)) (bok_cons (sok_frz (i := 5) (sok_frz (i := 8) (sok_if (tok_not (tok_val (D__law_are_numbers.call hr (aok_cons (D_future_days.call hr (aok_cons (eok_tuple T.b_tuple (ev 5)) aok_nil)) (aok_cons (ev 8) aok_nil))))) (bok_one (sok_ret eok_bool)) bok_nil))) (bok_cons (sok_for (b := w_law_0) pass_def rfl (iok_rng2 (i := 11) T.b_range (eok_add (ev 1) eok_int) (eok_add (eok_add (ev 1) (ev 6)) eok_int)) (tn 11 sc_law.nd) (bok_cons (sok_frz (i := 7) (sok_frz (i := 5) (st 10 sc_law.nd (D_chain.call hr (aok_cons (eok_add (ev 5) (ev 7)) (aok_cons (ev 11) aok_nil)))))) (bok_cons (sok_frz (i := 7) (sok_frz (i := 5) (sok_frz (i := 10) (sok_if (tok_not (tok_val (D__law_are_numbers.call hr (aok_cons (ev 10) (aok_cons (D__law_chain.call hr (aok_cons (eok_add (ev 5) (ev 7)) (aok_cons (ev 11) aok_nil))) aok_nil))))) (bok_one (sok_ret eok_bool)) bok_nil)))) (bok_one (sok_frz (i := 10) (sok_if (tok_cmp op_gt op2_gt (eok_len T.b_len (eok_comp rfl sc_law.nd (iok_row (i := 14) (ev 10)) (blkOk_by (own := [("read", 14)]) (show blkC ["script", "count", "pick", "size", "shift", "plan", "many", "coming", "due", "given", "told", "day", "table", "level", "read"] (defScope s_law) _ _ = true by decide +kernel)) rfl (fun _ _ _ _ _ => ⟨(tn 14 sc_law.nd), (pts_oneV (tok_w (wok_and (tok_cmp op_le op2_le (ev 14) (ev 1) (nomark _)) (wok_and1 (tok_cmp op_notIn_seq op2_notIn (ev 14) (ev 8) (by with_unfolding_all rfl)))))), (ev 14)⟩))) eok_int (nomark _)) (bok_one (sok_ret eok_bool)) bok_nil)))))) (bok_cons (sok_frz (i := 8) (sok_frz (i := 5) (sok_if (tok_not (tok_val (D__law_are_numbers.call hr (aok_cons (D_chain.call hr (aok_cons (eok_add (ev 5) (eok_lst (aok_cons eok_int aok_nil))) (aok_cons (eok_add (ev 1) eok_int) aok_nil))) (aok_cons (eok_add (ev 8) (eok_lst (aok_cons (eok_add (ev 1) eok_int) aok_nil))) aok_nil))))) (bok_one (sok_ret eok_bool)) bok_nil))) (bok_cons (sok_if (tok_cmp op_gt op2_gt (ev 1) eok_int (nomark _)) (bok_one (sok_ret eok_bool)) bok_nil) (bok_cons (sok_frz (i := 7) (st 7 sc_law.nd (eok_slice (ev 7) pok_none (pok_some (eok_sub eok_int (ev 1)))))) (bok_cons (st 12 sc_law.nd (D__law_table.call hr (aok_cons (ev 0) (aok_cons (eok_add (ev 1) (eok_len T.b_len (ev 7))) aok_nil)))) (bok_one (sok_frz (i := 8) (sok_frz (i := 12) (sok_frz (i := 7) (sok_frz (i := 5) (sok_ret (eok_and (D__law_house_holds.call hr (aok_cons (ev 5) (aok_cons (ev 7) (aok_cons (ev 12) (aok_cons (ev 8) aok_nil))))) (eok_one (D__law_all_needed.call hr (aok_cons (ev 5) (aok_cons (eok_slice (ev 12) pok_none (pok_some (eok_add (ev 1) eok_int))) (aok_cons (ev 8) aok_nil))))))))))))))))))))))))))))))
end
end K41

set_option Elab.async false
set_option linter.all false
set_option maxRecDepth 100000
set_option maxHeartbeats 4000000
namespace K41
open PySem VL
theorem is_number_s (v lo hi : Int) : φ_is_number [.own (.fz (.int v)), .own (.fz (.int lo)), .own (.fz (.int hi))] = .ok (.fz (.bool (decide (lo ≤ v) && decide (v ≤ hi)))) := by
  by_cases h : lo ≤ v <;> simp [φ_is_number, b_is_number, VL.runBody, VL.sSeq, VL.sIf, VL.sRet, VL.sSet, VL.sFrz, VL.frzSl, VL.sUnp, VL.RV.parts, VL.sFor, VL.sApp, VL.sPass, VL.putAt, VL.Ow.put, VL.eVar, VL.Sl.rv, VL.eK, VL.rD, VL.eUn, VL.eBin, VL.eCall, VL.evalAll, VL.RV.arg, VL.Res.bind, VL.RV.d, VL.Ow.toD, VL.tB, VL.tAnd, VL.tOr, VL.tNot, VL.tYes, VL.eAnd, VL.eOr, VL.fNot, VL.eIf, VL.eChain, VL.fAdd, VL.fSub, VL.fMul, VL.fDiv, VL.fMod, VL.fPow, VL.fNeg, VL.fLt, VL.fLe, VL.fGt, VL.fGe, VL.fIsN, VL.fNotN, VL.isN, VL.fIsI, VL.fIsIs, VL.inst, VL.fInt, VL.setAll, VL.RV.ow, VL.owsOf, VL.eLst, VL.eTup, VL.iRow, VL.iRng1, VL.iRng2, VL.iEnum, VL.RV.iter, VL.slOf, h]
theorem is_row_s {d : D} {ds : List D} (h : rowOf d = some ds) : φ_is_row [.own (.fz d)] = .ok (.fz (.bool true)) := by
  cases d with
  | list _ => simp [φ_is_row, b_is_row, VL.runBody, VL.sSeq, VL.sIf, VL.sRet, VL.sSet, VL.sFrz, VL.frzSl, VL.sUnp, VL.RV.parts, VL.sFor, VL.sApp, VL.sPass, VL.putAt, VL.Ow.put, VL.eVar, VL.Sl.rv, VL.eK, VL.rD, VL.eUn, VL.eBin, VL.eCall, VL.evalAll, VL.RV.arg, VL.Res.bind, VL.RV.d, VL.Ow.toD, VL.tB, VL.tAnd, VL.tOr, VL.tNot, VL.tYes, VL.eAnd, VL.eOr, VL.fNot, VL.eIf, VL.eChain, VL.fAdd, VL.fSub, VL.fMul, VL.fDiv, VL.fMod, VL.fPow, VL.fNeg, VL.fLt, VL.fLe, VL.fGt, VL.fGe, VL.fIsN, VL.fNotN, VL.isN, VL.fIsI, VL.fIsIs, VL.inst, VL.fInt, VL.setAll, VL.RV.ow, VL.owsOf, VL.eLst, VL.eTup, VL.iRow, VL.iRng1, VL.iRng2, VL.iEnum, VL.RV.iter, VL.slOf]
  | tuple _ => simp [φ_is_row, b_is_row, VL.runBody, VL.sSeq, VL.sIf, VL.sRet, VL.sSet, VL.sFrz, VL.frzSl, VL.sUnp, VL.RV.parts, VL.sFor, VL.sApp, VL.sPass, VL.putAt, VL.Ow.put, VL.eVar, VL.Sl.rv, VL.eK, VL.rD, VL.eUn, VL.eBin, VL.eCall, VL.evalAll, VL.RV.arg, VL.Res.bind, VL.RV.d, VL.Ow.toD, VL.tB, VL.tAnd, VL.tOr, VL.tNot, VL.tYes, VL.eAnd, VL.eOr, VL.fNot, VL.eIf, VL.eChain, VL.fAdd, VL.fSub, VL.fMul, VL.fDiv, VL.fMod, VL.fPow, VL.fNeg, VL.fLt, VL.fLe, VL.fGt, VL.fGe, VL.fIsN, VL.fNotN, VL.isN, VL.fIsI, VL.fIsIs, VL.inst, VL.fInt, VL.setAll, VL.RV.ow, VL.owsOf, VL.eLst, VL.eTup, VL.iRow, VL.iRng1, VL.iRng2, VL.iEnum, VL.RV.iter, VL.slOf]
  | _ => cases h
theorem first_fault_s {d : D} {ns : List Int} {lo hi : Int} (h : rowOf d = some (dI ns)) (a : Asc lo hi ns) : φ_first_fault [.own (.fz d), .own (.fz (.int lo)), .own (.fz (.int hi))] = .ok (.fz .none) := by
  obtain ⟨ρ', e, a', b', rfl⟩ := forL_n (tg := [3, 4]) (b := w_first_fault_0) (vs := enumS 0 ((dI ns).map slOf)) (fun _ ρ => ∃ a' b', ρ = [some (.own (.fz d)), some (.own (.fz (.int lo))), some (.own (.fz (.int hi))), a', b']) ⟨none, none, rfl⟩ (by
    rintro k v ρ hv ⟨a', b', rfl⟩
    obtain ⟨x, hx, rfl⟩ := enum_get hv
    rw [dI_get] at hx
    cases ex : ns[k]? with
    | none => rw [ex] at hx; cases hx
    | some n =>
      rw [ex] at hx; cases hx
      have hn := a.2 n (List.mem_of_getElem? ex)
      refine ⟨_, .inl ?_, some (.own (.fz (.int k))), some (.own (.fz (.int n))), rfl⟩
      simp only [VL.setAll, List.set_cons_succ, List.set_cons_zero]
      unfold w_first_fault_0
      refine seq_n (if_f (by simp [VL.runBody, VL.sSeq, VL.sIf, VL.sRet, VL.sSet, VL.sFrz, VL.frzSl, VL.sUnp, VL.RV.parts, VL.sFor, VL.sApp, VL.sPass, VL.putAt, VL.Ow.put, VL.eVar, VL.Sl.rv, VL.eK, VL.rD, VL.eUn, VL.eBin, VL.eCall, VL.evalAll, VL.RV.arg, VL.Res.bind, VL.RV.d, VL.Ow.toD, VL.tB, VL.tAnd, VL.tOr, VL.tNot, VL.tYes, VL.eAnd, VL.eOr, VL.fNot, VL.eIf, VL.eChain, VL.fAdd, VL.fSub, VL.fMul, VL.fDiv, VL.fMod, VL.fPow, VL.fNeg, VL.fLt, VL.fLe, VL.fGt, VL.fGe, VL.fIsN, VL.fNotN, VL.isN, VL.fIsI, VL.fIsIs, VL.inst, VL.fInt, VL.setAll, VL.RV.ow, VL.owsOf, VL.eLst, VL.eTup, VL.iRow, VL.iRng1, VL.iRng2, VL.iEnum, VL.RV.iter, VL.slOf, is_number_s, hn]) rfl) ?_
      by_cases hk : k = 0
      · subst hk
        exact if_f (by simp [VL.runBody, VL.sSeq, VL.sIf, VL.sRet, VL.sSet, VL.sFrz, VL.frzSl, VL.sUnp, VL.RV.parts, VL.sFor, VL.sApp, VL.sPass, VL.putAt, VL.Ow.put, VL.eVar, VL.Sl.rv, VL.eK, VL.rD, VL.eUn, VL.eBin, VL.eCall, VL.evalAll, VL.RV.arg, VL.Res.bind, VL.RV.d, VL.Ow.toD, VL.tB, VL.tAnd, VL.tOr, VL.tNot, VL.tYes, VL.eAnd, VL.eOr, VL.fNot, VL.eIf, VL.eChain, VL.fAdd, VL.fSub, VL.fMul, VL.fDiv, VL.fMod, VL.fPow, VL.fNeg, VL.fLt, VL.fLe, VL.fGt, VL.fGe, VL.fIsN, VL.fNotN, VL.isN, VL.fIsI, VL.fIsIs, VL.inst, VL.fInt, VL.setAll, VL.RV.ow, VL.owsOf, VL.eLst, VL.eTup, VL.iRow, VL.iRng1, VL.iRng2, VL.iEnum, VL.RV.iter, VL.slOf]) rfl
      · cases ey : ns[k - 1]? with
        | none =>
          have := List.getElem?_eq_none_iff.mp ey
          have := (List.getElem?_eq_some_iff.mp ex).1
          omega
        | some m =>
          have hlt := a.step (by omega) ey ex
          have hi1 : fIx (.val (.fz d)) (.val (.fz (.int ((k : Int) - 1)))) = .ok (.val (.fz (.int m))) := fIx_row h (by omega) (by rw [dI_get, show ((k : Int) - 1).toNat = k - 1 by omega, ey]; rfl)
          have h1 : (0 : Int) < k := by omega
          have h2 : ¬ n ≤ m := by omega
          exact if_f (by simp [VL.runBody, VL.sSeq, VL.sIf, VL.sRet, VL.sSet, VL.sFrz, VL.frzSl, VL.sUnp, VL.RV.parts, VL.sFor, VL.sApp, VL.sPass, VL.putAt, VL.Ow.put, VL.eVar, VL.Sl.rv, VL.eK, VL.rD, VL.eUn, VL.eBin, VL.eCall, VL.evalAll, VL.RV.arg, VL.Res.bind, VL.RV.d, VL.Ow.toD, VL.tB, VL.tAnd, VL.tOr, VL.tNot, VL.tYes, VL.eAnd, VL.eOr, VL.fNot, VL.eIf, VL.eChain, VL.fAdd, VL.fSub, VL.fMul, VL.fDiv, VL.fMod, VL.fPow, VL.fNeg, VL.fLt, VL.fLe, VL.fGt, VL.fGe, VL.fIsN, VL.fNotN, VL.isN, VL.fIsI, VL.fIsIs, VL.inst, VL.fInt, VL.setAll, VL.RV.ow, VL.owsOf, VL.eLst, VL.eTup, VL.iRow, VL.iRng1, VL.iRng2, VL.iEnum, VL.RV.iter, VL.slOf, hi1, h1, h2]) rfl)
  exact run_ret _ (seq_n (for_n (enum_s rfl h) e) (ret_v rfl))
theorem check_choice_s {d : D} {ns : List Int} {lo hi : Int} (h : rowOf d = some (dI ns)) (a : Asc lo hi ns) : φ_check_choice [.own (.fz d), .own (.fz (.int lo)), .own (.fz (.int hi))] = .ok (.ls (oI ns)) := by
  refine run_ret _ ?_
  unfold b_check_choice
  refine seq_n (if_f (by simp [VL.runBody, VL.sSeq, VL.sIf, VL.sRet, VL.sSet, VL.sFrz, VL.frzSl, VL.sUnp, VL.RV.parts, VL.sFor, VL.sApp, VL.sPass, VL.putAt, VL.Ow.put, VL.eVar, VL.Sl.rv, VL.eK, VL.rD, VL.eUn, VL.eBin, VL.eCall, VL.evalAll, VL.RV.arg, VL.Res.bind, VL.RV.d, VL.Ow.toD, VL.tB, VL.tAnd, VL.tOr, VL.tNot, VL.tYes, VL.eAnd, VL.eOr, VL.fNot, VL.eIf, VL.eChain, VL.fAdd, VL.fSub, VL.fMul, VL.fDiv, VL.fMod, VL.fPow, VL.fNeg, VL.fLt, VL.fLe, VL.fGt, VL.fGe, VL.fIsN, VL.fNotN, VL.isN, VL.fIsI, VL.fIsIs, VL.inst, VL.fInt, VL.setAll, VL.RV.ow, VL.owsOf, VL.eLst, VL.eTup, VL.iRow, VL.iRng1, VL.iRng2, VL.iEnum, VL.RV.iter, VL.slOf, is_row_s h]) rfl) (seq_n (ρ' := [some (.own (.fz d)), some (.own (.fz (.int lo))), some (.own (.fz (.int hi))), some (.own (.fz .none))]) (by simp [VL.runBody, VL.sSeq, VL.sIf, VL.sRet, VL.sSet, VL.sFrz, VL.frzSl, VL.sUnp, VL.RV.parts, VL.sFor, VL.sApp, VL.sPass, VL.putAt, VL.Ow.put, VL.eVar, VL.Sl.rv, VL.eK, VL.rD, VL.eUn, VL.eBin, VL.eCall, VL.evalAll, VL.RV.arg, VL.Res.bind, VL.RV.d, VL.Ow.toD, VL.tB, VL.tAnd, VL.tOr, VL.tNot, VL.tYes, VL.eAnd, VL.eOr, VL.fNot, VL.eIf, VL.eChain, VL.fAdd, VL.fSub, VL.fMul, VL.fDiv, VL.fMod, VL.fPow, VL.fNeg, VL.fLt, VL.fLe, VL.fGt, VL.fGe, VL.fIsN, VL.fNotN, VL.isN, VL.fIsI, VL.fIsIs, VL.inst, VL.fInt, VL.setAll, VL.RV.ow, VL.owsOf, VL.eLst, VL.eTup, VL.iRow, VL.iRng1, VL.iRng2, VL.iEnum, VL.RV.iter, VL.slOf, first_fault_s h a]) (seq_n (if_f (by simp [VL.runBody, VL.sSeq, VL.sIf, VL.sRet, VL.sSet, VL.sFrz, VL.frzSl, VL.sUnp, VL.RV.parts, VL.sFor, VL.sApp, VL.sPass, VL.putAt, VL.Ow.put, VL.eVar, VL.Sl.rv, VL.eK, VL.rD, VL.eUn, VL.eBin, VL.eCall, VL.evalAll, VL.RV.arg, VL.Res.bind, VL.RV.d, VL.Ow.toD, VL.tB, VL.tAnd, VL.tOr, VL.tNot, VL.tYes, VL.eAnd, VL.eOr, VL.fNot, VL.eIf, VL.eChain, VL.fAdd, VL.fSub, VL.fMul, VL.fDiv, VL.fMod, VL.fPow, VL.fNeg, VL.fLt, VL.fLe, VL.fGt, VL.fGe, VL.fIsN, VL.fNotN, VL.isN, VL.fIsI, VL.fIsIs, VL.inst, VL.fInt, VL.setAll, VL.RV.ow, VL.owsOf, VL.eLst, VL.eTup, VL.iRow, VL.iRng1, VL.iRng2, VL.iEnum, VL.RV.iter, VL.slOf]) rfl) (ret_v ?_)))
  rw [← oI_fz, ← list_s h]
  rfl
theorem check_kept_row {d : D} {ns : List Int} {n : Int} (h : rowOf d = some (dI ns)) (a : Asc 0 (n - 1) ns) : φ_check_kept [.own (.fz d), .own (.fz (.int n))] = .ok (.ls (oI ns)) := by
  refine run_ret _ ?_
  unfold b_check_kept
  refine seq_n (if_f ?_ rfl) (ret_v (call_ok rfl (check_choice_s h a)))
  cases d with
  | list _ => rfl
  | tuple _ => rfl
  | _ => cases h
theorem check_frame_s {days : Int} {hd cd : D} {cds : List D} (h : rowOf hd = some [.int days, cd]) (hc : rowOf cd = some cds) (h1 : 1 ≤ days) (h2 : days ≤ 10) (hl : cds.length ≤ 30) : φ_check_frame [.own (.fz hd)] = .ok (.fz (.tuple [.int days, cd])) := by
  refine run_ret _ ?_
  unfold b_check_frame
  have l30 : ¬ (30 : Int) < cds.length := by omega
  refine seq_n (if_f (by simp [VL.runBody, VL.sSeq, VL.sIf, VL.sRet, VL.sSet, VL.sFrz, VL.frzSl, VL.sUnp, VL.RV.parts, VL.sFor, VL.sApp, VL.sPass, VL.putAt, VL.Ow.put, VL.eVar, VL.Sl.rv, VL.eK, VL.rD, VL.eUn, VL.eBin, VL.eCall, VL.evalAll, VL.RV.arg, VL.Res.bind, VL.RV.d, VL.Ow.toD, VL.tB, VL.tAnd, VL.tOr, VL.tNot, VL.tYes, VL.eAnd, VL.eOr, VL.fNot, VL.eIf, VL.eChain, VL.fAdd, VL.fSub, VL.fMul, VL.fDiv, VL.fMod, VL.fPow, VL.fNeg, VL.fLt, VL.fLe, VL.fGt, VL.fGe, VL.fIsN, VL.fNotN, VL.isN, VL.fIsI, VL.fIsIs, VL.inst, VL.fInt, VL.setAll, VL.RV.ow, VL.owsOf, VL.eLst, VL.eTup, VL.iRow, VL.iRng1, VL.iRng2, VL.iEnum, VL.RV.iter, VL.slOf, is_row_s h, len_s h, fNe_int]) rfl) (seq_n (unp_s rfl h rfl) ?_)
  refine seq_n (frz_n (frz_n (if_f (by simp [VL.runBody, VL.sSeq, VL.sIf, VL.sRet, VL.sSet, VL.sFrz, VL.frzSl, VL.sUnp, VL.RV.parts, VL.sFor, VL.sApp, VL.sPass, VL.putAt, VL.Ow.put, VL.eVar, VL.Sl.rv, VL.eK, VL.rD, VL.eUn, VL.eBin, VL.eCall, VL.evalAll, VL.RV.arg, VL.Res.bind, VL.RV.d, VL.Ow.toD, VL.tB, VL.tAnd, VL.tOr, VL.tNot, VL.tYes, VL.eAnd, VL.eOr, VL.fNot, VL.eIf, VL.eChain, VL.fAdd, VL.fSub, VL.fMul, VL.fDiv, VL.fMod, VL.fPow, VL.fNeg, VL.fLt, VL.fLe, VL.fGt, VL.fGe, VL.fIsN, VL.fNotN, VL.isN, VL.fIsI, VL.fIsIs, VL.inst, VL.fInt, VL.setAll, VL.RV.ow, VL.owsOf, VL.eLst, VL.eTup, VL.iRow, VL.iRng1, VL.iRng2, VL.iEnum, VL.RV.iter, VL.slOf, is_number_s, is_row_s hc, h1, h2]) rfl))) (seq_n (if_f (by simp [VL.runBody, VL.sSeq, VL.sIf, VL.sRet, VL.sSet, VL.sFrz, VL.frzSl, VL.sUnp, VL.RV.parts, VL.sFor, VL.sApp, VL.sPass, VL.putAt, VL.Ow.put, VL.eVar, VL.Sl.rv, VL.eK, VL.rD, VL.eUn, VL.eBin, VL.eCall, VL.evalAll, VL.RV.arg, VL.Res.bind, VL.RV.d, VL.Ow.toD, VL.tB, VL.tAnd, VL.tOr, VL.tNot, VL.tYes, VL.eAnd, VL.eOr, VL.fNot, VL.eIf, VL.eChain, VL.fAdd, VL.fSub, VL.fMul, VL.fDiv, VL.fMod, VL.fPow, VL.fNeg, VL.fLt, VL.fLe, VL.fGt, VL.fGe, VL.fIsN, VL.fNotN, VL.isN, VL.fIsI, VL.fIsIs, VL.inst, VL.fInt, VL.setAll, VL.RV.ow, VL.owsOf, VL.eLst, VL.eTup, VL.iRow, VL.iRng1, VL.iRng2, VL.iEnum, VL.RV.iter, VL.slOf, len_s hc, l30]) rfl) (frz_n (frz_n (ret_v (by simp [VL.runBody, VL.sSeq, VL.sIf, VL.sRet, VL.sSet, VL.sFrz, VL.frzSl, VL.sUnp, VL.RV.parts, VL.sFor, VL.sApp, VL.sPass, VL.putAt, VL.Ow.put, VL.eVar, VL.Sl.rv, VL.eK, VL.rD, VL.eUn, VL.eBin, VL.eCall, VL.evalAll, VL.RV.arg, VL.Res.bind, VL.RV.d, VL.Ow.toD, VL.tB, VL.tAnd, VL.tOr, VL.tNot, VL.tYes, VL.eAnd, VL.eOr, VL.fNot, VL.eIf, VL.eChain, VL.fAdd, VL.fSub, VL.fMul, VL.fDiv, VL.fMod, VL.fPow, VL.fNeg, VL.fLt, VL.fLe, VL.fGt, VL.fGe, VL.fIsN, VL.fNotN, VL.isN, VL.fIsI, VL.fIsIs, VL.inst, VL.fInt, VL.setAll, VL.RV.ow, VL.owsOf, VL.eLst, VL.eTup, VL.iRow, VL.iRng1, VL.iRng2, VL.iEnum, VL.RV.iter, VL.slOf, mkTup, isFz, toDs])))))
theorem is_link_s {days b d : Int} (h1 : 1 ≤ d) (h2 : d ≤ days) (h3 : 0 ≤ b) (h4 : b ≤ days) (h5 : b ≠ d) : φ_is_link [.own (.fz (.int days)), .own (.fz (.int b)), .own (.fz (.int d))] = .ok (.fz (.bool true)) := by
  simp [φ_is_link, b_is_link, VL.runBody, VL.sSeq, VL.sIf, VL.sRet, VL.sSet, VL.sFrz, VL.frzSl, VL.sUnp, VL.RV.parts, VL.sFor, VL.sApp, VL.sPass, VL.putAt, VL.Ow.put, VL.eVar, VL.Sl.rv, VL.eK, VL.rD, VL.eUn, VL.eBin, VL.eCall, VL.evalAll, VL.RV.arg, VL.Res.bind, VL.RV.d, VL.Ow.toD, VL.tB, VL.tAnd, VL.tOr, VL.tNot, VL.tYes, VL.eAnd, VL.eOr, VL.fNot, VL.eIf, VL.eChain, VL.fAdd, VL.fSub, VL.fMul, VL.fDiv, VL.fMod, VL.fPow, VL.fNeg, VL.fLt, VL.fLe, VL.fGt, VL.fGe, VL.fIsN, VL.fNotN, VL.isN, VL.fIsI, VL.fIsIs, VL.inst, VL.fInt, VL.setAll, VL.RV.ow, VL.owsOf, VL.eLst, VL.eTup, VL.iRow, VL.iRng1, VL.iRng2, VL.iEnum, VL.RV.iter, VL.slOf, is_number_s, h1, h2, h3, h4, h5, fNe_int]
structure Cp where
  b : Int
  d : Int
  s : Int
def cI (c : Cp) : List D := [.int c.b, .int c.d, .int c.s]
structure CpOk (days : Int) (c : Cp) : Prop where
  h1 : 1 ≤ c.d
  h2 : c.d ≤ days
  h3 : 0 ≤ c.b
  h4 : c.b ≤ days
  h5 : c.b ≠ c.d
  h6 : 0 ≤ c.s
  h7 : c.s ≤ 999
theorem rows_get {α : Type} {f : α → List D} {ds : List D} {S : List α} (hS : Rows ds (S.map f)) {k : Nat} {x : D} (e : ds[k]? = some x) : ∃ s, S[k]? = some s ∧ rowOf x = some (f s) := by
  obtain ⟨t, h1, h2⟩ := hS.get e
  rw [List.getElem?_map] at h1
  cases es : S[k]? with
  | none => rw [es] at h1; cases h1
  | some s => rw [es] at h1; cases h1; exact ⟨s, rfl, h2⟩
theorem check_house_s {days : Int} {hd cd : D} {cds : List D} {cs : List Cp} (h : rowOf hd = some [.int days, cd]) (hc : rowOf cd = some cds) (hR : Rows cds (cs.map cI)) (hk : ∀ c ∈ cs, CpOk days c) (h1 : 1 ≤ days) (h2 : days ≤ 10) (hl : cs.length ≤ 30) :
    φ_check_house [.own (.fz hd)] = .ok (.fz (.tuple [.int days, .list (cs.map fun c => .tuple (cI c))])) := by
  have len : cds.length = cs.length := by rw [hR.len, List.length_map]
  refine run_ret _ ?_
  unfold b_check_house
  refine seq_n (unp_s (ds := [.int days, cd]) (call_ok rfl (check_frame_s h hc h1 h2 (by omega))) rfl rfl) (seq_n (set_v rfl) ?_)
  obtain ⟨ρ', e, a, b, c, d, f, rfl⟩ := forL_n (tg := [4, 5]) (b := w_check_house_0) (vs := enumS 0 (cds.map slOf)) (fun k ρ => ∃ a b c d f, ρ = [some (.own (.fz hd)), some (.own (.fz (.int days))), some (.own (.fz cd)), some (.own (.ls ((cs.take k).map fun c => .fz (.tuple (cI c))))), a, b, c, d, f])
    (ρ := [some (.own (.fz hd)), some (.own (.fz (.int days))), some (.own (.fz cd)), some (.own (.ls [])), none, none, none, none, none]) ⟨none, none, none, none, none, rfl⟩ (by
    rintro k v ρ hv ⟨a, b, c, d, f, rfl⟩
    obtain ⟨x, hx, rfl⟩ := enum_get hv
    obtain ⟨p, g1, g2⟩ := rows_get hR hx
    have ok := hk p (List.mem_of_getElem? g1)
    refine ⟨_, .inl ?_, some (.own (.fz (.int k))), some (.own (.fz x)), some (.own (.fz (.int p.b))), some (.own (.fz (.int p.d))), some (.own (.fz (.int p.s))), rfl⟩
    refine seq_n (if_f (by simp [VL.runBody, VL.sSeq, VL.sIf, VL.sRet, VL.sSet, VL.sFrz, VL.frzSl, VL.sUnp, VL.RV.parts, VL.sFor, VL.sApp, VL.sPass, VL.putAt, VL.Ow.put, VL.eVar, VL.Sl.rv, VL.eK, VL.rD, VL.eUn, VL.eBin, VL.eCall, VL.evalAll, VL.RV.arg, VL.Res.bind, VL.RV.d, VL.Ow.toD, VL.tB, VL.tAnd, VL.tOr, VL.tNot, VL.tYes, VL.eAnd, VL.eOr, VL.fNot, VL.eIf, VL.eChain, VL.fAdd, VL.fSub, VL.fMul, VL.fDiv, VL.fMod, VL.fPow, VL.fNeg, VL.fLt, VL.fLe, VL.fGt, VL.fGe, VL.fIsN, VL.fNotN, VL.isN, VL.fIsI, VL.fIsIs, VL.inst, VL.fInt, VL.setAll, VL.RV.ow, VL.owsOf, VL.eLst, VL.eTup, VL.iRow, VL.iRng1, VL.iRng2, VL.iEnum, VL.RV.iter, VL.slOf, is_row_s g2, len_s g2, fNe_int, cI]) rfl) (seq_n (unp_s rfl g2 rfl) ?_)
    refine seq_n (frz_n (frz_n (frz_n (frz_n (if_f (by simp [VL.runBody, VL.sSeq, VL.sIf, VL.sRet, VL.sSet, VL.sFrz, VL.frzSl, VL.sUnp, VL.RV.parts, VL.sFor, VL.sApp, VL.sPass, VL.putAt, VL.Ow.put, VL.eVar, VL.Sl.rv, VL.eK, VL.rD, VL.eUn, VL.eBin, VL.eCall, VL.evalAll, VL.RV.arg, VL.Res.bind, VL.RV.d, VL.Ow.toD, VL.tB, VL.tAnd, VL.tOr, VL.tNot, VL.tYes, VL.eAnd, VL.eOr, VL.fNot, VL.eIf, VL.eChain, VL.fAdd, VL.fSub, VL.fMul, VL.fDiv, VL.fMod, VL.fPow, VL.fNeg, VL.fLt, VL.fLe, VL.fGt, VL.fGe, VL.fIsN, VL.fNotN, VL.isN, VL.fIsI, VL.fIsIs, VL.inst, VL.fInt, VL.setAll, VL.RV.ow, VL.owsOf, VL.eLst, VL.eTup, VL.iRow, VL.iRng1, VL.iRng2, VL.iEnum, VL.RV.iter, VL.slOf, cI, is_link_s ok.h1 ok.h2 ok.h3 ok.h4 ok.h5, is_number_s, ok.h6, ok.h7]) rfl))))) ?_
    refine frz_n (frz_n (frz_n ((app_s rfl (ow := .fz (.tuple (cI p))) (by simp [VL.runBody, VL.sSeq, VL.sIf, VL.sRet, VL.sSet, VL.sFrz, VL.frzSl, VL.sUnp, VL.RV.parts, VL.sFor, VL.sApp, VL.sPass, VL.putAt, VL.Ow.put, VL.eVar, VL.Sl.rv, VL.eK, VL.rD, VL.eUn, VL.eBin, VL.eCall, VL.evalAll, VL.RV.arg, VL.Res.bind, VL.RV.d, VL.Ow.toD, VL.tB, VL.tAnd, VL.tOr, VL.tNot, VL.tYes, VL.eAnd, VL.eOr, VL.fNot, VL.eIf, VL.eChain, VL.fAdd, VL.fSub, VL.fMul, VL.fDiv, VL.fMod, VL.fPow, VL.fNeg, VL.fLt, VL.fLe, VL.fGt, VL.fGe, VL.fIsN, VL.fNotN, VL.isN, VL.fIsI, VL.fIsIs, VL.inst, VL.fInt, VL.setAll, VL.RV.ow, VL.owsOf, VL.eLst, VL.eTup, VL.iRow, VL.iRng1, VL.iRng2, VL.iEnum, VL.RV.iter, VL.slOf, mkTup, isFz, toDs, cI]) rfl ?_).trans ?_)))
    · rw [List.length_map, List.length_take]; omega
    · have : cs.take (k + 1) = cs.take k ++ [p] := by
        obtain ⟨q1, q2⟩ := List.getElem?_eq_some_iff.mp g1
        rw [List.take_succ_eq_append_getElem q1, q2]
      rw [this, List.map_append]
      rfl)
  refine seq_n (frz_n (for_n (enum_s rfl hc) e)) ?_
  rw [show (enumS 0 (cds.map slOf)).length = cs.length by rw [enumS_len, List.length_map, len], List.take_length]
  refine frz_n (frz_n (ret_v ?_))
  simp only [VL.runBody, VL.sSeq, VL.sIf, VL.sRet, VL.sSet, VL.sFrz, VL.frzSl, VL.sUnp, VL.RV.parts, VL.sFor, VL.sApp, VL.sPass, VL.putAt, VL.Ow.put, VL.eVar, VL.Sl.rv, VL.eK, VL.rD, VL.eUn, VL.eBin, VL.eCall, VL.evalAll, VL.RV.arg, VL.Res.bind, VL.RV.d, VL.Ow.toD, VL.tB, VL.tAnd, VL.tOr, VL.tNot, VL.tYes, VL.eAnd, VL.eOr, VL.fNot, VL.eIf, VL.eChain, VL.fAdd, VL.fSub, VL.fMul, VL.fDiv, VL.fMod, VL.fPow, VL.fNeg, VL.fLt, VL.fLe, VL.fGt, VL.fGe, VL.fIsN, VL.fNotN, VL.isN, VL.fIsI, VL.fIsIs, VL.inst, VL.fInt, VL.setAll, VL.RV.ow, VL.owsOf, VL.eLst, VL.eTup, VL.iRow, VL.iRng1, VL.iRng2, VL.iEnum, VL.RV.iter, VL.slOf, List.getElem?_cons_succ, List.getElem?_cons_zero, List.set_cons_succ, List.set_cons_zero, mkTup, isFz, List.all_cons, List.all_nil, Bool.and_true, if_true, toDs, List.length_cons, List.length_nil]
  have := toDs_fz (cs.map fun c => .tuple (cI c))
  rw [List.map_map] at this
  simp only [Function.comp_def] at this
  simp [this]
def stepG (r : List Int) (c : Cp) : List Int := if c.d ∉ r ∧ (c.b = 0 ∨ c.b ∈ r) then r ++ [c.d] else r
def passG (cs : List Cp) (r : List Int) : List Int := cs.foldl stepG r
def iterG (cs : List Cp) : Nat → List Int → List Int
  | 0, r => r
  | n + 1, r => iterG cs n (passG cs r)
def OkR (days : Nat) (r : List Int) : Prop := r.Nodup ∧ ∀ x ∈ r, 1 ≤ x ∧ x ≤ days
theorem OkR.step {days : Nat} {r : List Int} {c : Cp} (h : OkR days r) (hc : CpOk days c) : OkR days (stepG r c) := by
  unfold stepG
  by_cases e : c.d ∉ r ∧ (c.b = 0 ∨ c.b ∈ r)
  · rw [if_pos e]
    refine ⟨?_, fun x hx => ?_⟩
    · rw [List.nodup_append]
      refine ⟨h.1, by simp, fun a ha b hb => ?_⟩
      simp only [List.mem_singleton] at hb
      subst hb
      rintro rfl
      exact e.1 ha
    · rcases List.mem_append.mp hx with q | q
      · exact h.2 x q
      · simp only [List.mem_singleton] at q
        subst q
        exact ⟨hc.h1, hc.h2⟩
  · rw [if_neg e]; exact h
theorem stepG_le (r : List Int) (c : Cp) : r.length ≤ (stepG r c).length ∧ ((stepG r c).length = r.length → stepG r c = r) := by
  unfold stepG
  by_cases e : c.d ∉ r ∧ (c.b = 0 ∨ c.b ∈ r)
  · rw [if_pos e]; simp
  · rw [if_neg e]; simp
theorem passG_ok {days : Nat} : ∀ {cs : List Cp} {r : List Int}, OkR days r → (∀ c ∈ cs, CpOk days c) → OkR days (passG cs r)
  | [], _, h, _ => h
  | c :: cs, r, h, k => passG_ok (cs := cs) (h.step (k c List.mem_cons_self)) fun d hd => k d (List.mem_cons_of_mem _ hd)
theorem passG_le : ∀ (cs : List Cp) (r : List Int), r.length ≤ (passG cs r).length ∧ ((passG cs r).length = r.length → passG cs r = r)
  | [], r => ⟨Nat.le_refl _, fun _ => rfl⟩
  | c :: cs, r => by
    obtain ⟨a1, a2⟩ := stepG_le r c
    obtain ⟨b1, b2⟩ := passG_le cs (stepG r c)
    refine ⟨Nat.le_trans a1 b1, fun e => ?_⟩
    have e' : (passG cs (stepG r c)).length = r.length := e
    have h1 : (stepG r c).length = r.length := by omega
    have h2 := b2 (by omega)
    show passG cs (stepG r c) = r
    rw [h2, a2 h1]
theorem iterG_fix {cs : List Cp} {r : List Int} (h : passG cs r = r) : ∀ n, iterG cs n r = r
  | 0 => rfl
  | n + 1 => by
    show iterG cs n (passG cs r) = r
    rw [h]; exact iterG_fix h n
theorem iterG_ok {days : Nat} {cs : List Cp} (k : ∀ c ∈ cs, CpOk days c) : ∀ (n : Nat) {r : List Int}, OkR days r → OkR days (iterG cs n r)
  | 0, _, h => h
  | n + 1, _, h => iterG_ok k n (passG_ok h k)
theorem iterG_succ (cs : List Cp) : ∀ (n : Nat) (r : List Int), iterG cs (n + 1) r = passG cs (iterG cs n r)
  | 0, _ => rfl
  | n + 1, r => iterG_succ cs n (passG cs r)
def stG (cd sd : D) (r : List Int) (g : Bool) (a : Option Sl) : Rho := [some (.own (.fz cd)), some (.own (.fz sd)), some (.own (.ls (oI r))), some (.own (.fz (.bool g))), a]
theorem given_pass {days : Nat} {cd sd : D} : ∀ (cs : List Cp) (r r0 : List Int) (g : Bool) (a : Option Sl), OkR days r → (∀ c ∈ cs, CpOk days c) → days ≤ 1000 → r0.length ≤ r.length → (g = true ↔ r0.length < r.length) →
    ∃ g' b, forL [4] w_given_days_0 (((cs.map fun c => .tuple (cI c)).map slOf).map fun s => [s]) (stG cd sd r g a) = .next (stG cd sd (passG cs r) g' b) ∧ (g' = true ↔ r0.length < (passG cs r).length)
  | [], r, r0, g, a, _, _, _, _, hg => ⟨g, a, rfl, hg⟩
  | c :: cs, r, r0, g, a, h, k, hd, hl, hg => by
    have hc := k c List.mem_cons_self
    have kk : ∀ c ∈ cs, CpOk days c := fun d hd => k d (List.mem_cons_of_mem _ hd)
    have len := len_le_days h.1 h.2
    have h' := h.step hc
    have i0 : fIx (.val (.fz (.tuple (cI c)))) (.val (.fz (.int 0))) = .ok (.val (.fz (.int c.b))) := fIx_row rfl (by decide) rfl
    have i1 : fIx (.val (.fz (.tuple (cI c)))) (.val (.fz (.int 1))) = .ok (.val (.fz (.int c.d))) := fIx_row rfl (by decide) rfl
    have n1 : fNotIn (.val (.fz (.int c.d))) (.ref 2 [] (.ls (oI r))) = .ok (.val (.fz (.bool (!decide (c.d ∈ r))))) := fNotIn_dI c.d (by rw [show (RV.ref 2 [] (.ls (oI r))).d = .list (dI r) from oI_toD r]; rfl)
    have n0 : fIn (.val (.fz (.int c.b))) (.ref 2 [] (.ls (oI r))) = .ok (.val (.fz (.bool (decide (c.b ∈ r))))) := fIn_dI c.b (by rw [show (RV.ref 2 [] (.ls (oI r))).d = .list (dI r) from oI_toD r]; rfl)
    have key : ∃ g1, w_given_days_0 (stG cd sd r g (some (.own (.fz (.tuple (cI c)))))) = .next (stG cd sd (stepG r c) g1 (some (.own (.fz (.tuple (cI c)))))) ∧ (g1 = true ↔ r0.length < (stepG r c).length) := by
      by_cases e : c.d ∉ r ∧ (c.b = 0 ∨ c.b ∈ r)
      · refine ⟨true, ?_, ?_⟩
        · unfold stepG
          rw [if_pos e]
          refine if_t ?_ (seq_n (app_s (ow := .fz (.int c.d)) (xs := oI r) rfl (bin_v rfl rfl i1) rfl (by rw [oI_len]; omega)) ?_)
          · have e1 := e.1
            rcases e.2 with e2 | e2 <;> simp [VL.runBody, VL.sSeq, VL.sIf, VL.sRet, VL.sSet, VL.sFrz, VL.frzSl, VL.sUnp, VL.RV.parts, VL.sFor, VL.sApp, VL.sPass, VL.putAt, VL.Ow.put, VL.eVar, VL.Sl.rv, VL.eK, VL.rD, VL.eUn, VL.eBin, VL.eCall, VL.evalAll, VL.RV.arg, VL.Res.bind, VL.RV.d, VL.Ow.toD, VL.tB, VL.tAnd, VL.tOr, VL.tNot, VL.tYes, VL.eAnd, VL.eOr, VL.fNot, VL.eIf, VL.eChain, VL.fAdd, VL.fSub, VL.fMul, VL.fDiv, VL.fMod, VL.fPow, VL.fNeg, VL.fLt, VL.fLe, VL.fGt, VL.fGe, VL.fIsN, VL.fNotN, VL.isN, VL.fIsI, VL.fIsIs, VL.inst, VL.fInt, VL.setAll, VL.RV.ow, VL.owsOf, VL.eLst, VL.eTup, VL.iRow, VL.iRng1, VL.iRng2, VL.iEnum, VL.RV.iter, VL.slOf, stG, i0, i1, n0, n1, e1, e2, fEq_int]
          · rw [oI_app]; rfl
        · unfold stepG
          rw [if_pos e]
          simp; omega
      · refine ⟨g, ?_, ?_⟩
        · unfold stepG
          rw [if_neg e]
          refine if_f ?_ rfl
          by_cases e1 : c.d ∈ r
          · simp [VL.runBody, VL.sSeq, VL.sIf, VL.sRet, VL.sSet, VL.sFrz, VL.frzSl, VL.sUnp, VL.RV.parts, VL.sFor, VL.sApp, VL.sPass, VL.putAt, VL.Ow.put, VL.eVar, VL.Sl.rv, VL.eK, VL.rD, VL.eUn, VL.eBin, VL.eCall, VL.evalAll, VL.RV.arg, VL.Res.bind, VL.RV.d, VL.Ow.toD, VL.tB, VL.tAnd, VL.tOr, VL.tNot, VL.tYes, VL.eAnd, VL.eOr, VL.fNot, VL.eIf, VL.eChain, VL.fAdd, VL.fSub, VL.fMul, VL.fDiv, VL.fMod, VL.fPow, VL.fNeg, VL.fLt, VL.fLe, VL.fGt, VL.fGe, VL.fIsN, VL.fNotN, VL.isN, VL.fIsI, VL.fIsIs, VL.inst, VL.fInt, VL.setAll, VL.RV.ow, VL.owsOf, VL.eLst, VL.eTup, VL.iRow, VL.iRng1, VL.iRng2, VL.iEnum, VL.RV.iter, VL.slOf, stG, i0, i1, n0, n1, e1]
          · have e2 : ¬ c.b = 0 := fun z => e ⟨e1, .inl z⟩
            have e3 : ¬ c.b ∈ r := fun z => e ⟨e1, .inr z⟩
            simp [VL.runBody, VL.sSeq, VL.sIf, VL.sRet, VL.sSet, VL.sFrz, VL.frzSl, VL.sUnp, VL.RV.parts, VL.sFor, VL.sApp, VL.sPass, VL.putAt, VL.Ow.put, VL.eVar, VL.Sl.rv, VL.eK, VL.rD, VL.eUn, VL.eBin, VL.eCall, VL.evalAll, VL.RV.arg, VL.Res.bind, VL.RV.d, VL.Ow.toD, VL.tB, VL.tAnd, VL.tOr, VL.tNot, VL.tYes, VL.eAnd, VL.eOr, VL.fNot, VL.eIf, VL.eChain, VL.fAdd, VL.fSub, VL.fMul, VL.fDiv, VL.fMod, VL.fPow, VL.fNeg, VL.fLt, VL.fLe, VL.fGt, VL.fGe, VL.fIsN, VL.fNotN, VL.isN, VL.fIsI, VL.fIsIs, VL.inst, VL.fInt, VL.setAll, VL.RV.ow, VL.owsOf, VL.eLst, VL.eTup, VL.iRow, VL.iRng1, VL.iRng2, VL.iEnum, VL.RV.iter, VL.slOf, stG, i0, i1, n0, n1, e1, e2, e3, fEq_int]
        · unfold stepG
          rw [if_neg e]; exact hg
    obtain ⟨g1, e1, e2⟩ := key
    have hl' : r0.length ≤ (stepG r c).length := Nat.le_trans hl (stepG_le r c).1
    obtain ⟨g2, b, e3, e4⟩ := given_pass cs (stepG r c) r0 g1 (some (.own (.fz (.tuple (cI c))))) h' kk hd hl' e2
    refine ⟨g2, b, ?_, e4⟩
    show (match w_given_days_0 (stG cd sd r g (some (.own (.fz (.tuple (cI c)))))) with | .next ρ' => _ | .cont ρ' => _ | .brk ρ' => _ | .ret ow => _ | .err x ρ' => _ | .stuck => _) = _
    rw [e1]
    exact e3
theorem fixAt {days : Nat} {cs : List Cp} (k : ∀ c ∈ cs, CpOk days c) : ∀ (m : Nat) (r : List Int), OkR days r → days - r.length ≤ m → passG cs (iterG cs m r) = iterG cs m r
  | 0, r, h, hm => by
    have l2 := len_le_days (passG_ok h k).1 (passG_ok h k).2
    have l1 := passG_le cs r
    exact l1.2 (by omega)
  | m + 1, r, h, hm => by
    by_cases e : passG cs r = r
    · rw [iterG_fix e, e]
    · have l1 := passG_le cs r
      have l3 : r.length < (passG cs r).length := by
        rcases Nat.lt_or_ge r.length (passG cs r).length with q | q
        · exact q
        · exact absurd (l1.2 (by omega)) e
      exact fixAt k m (passG cs r) (passG_ok h k) (by omega)
theorem given_body {days : Nat} {cd sd : D} {cs : List Cp} (k : ∀ c ∈ cs, CpOk days c) (hd : days ≤ 1000) (hcd : rowOf cd = some (cs.map fun c => .tuple (cI c))) (r : List Int) (a : Option Sl) (h : OkR days r) :
    ∃ g b, w_given_days_1 (stG cd sd r true a) = .next (stG cd sd (passG cs r) g b) ∧ (g = true ↔ r.length < (passG cs r).length) := by
  obtain ⟨g, b, e1, e2⟩ := given_pass (cd := cd) (sd := sd) cs r r false a h k hd (Nat.le_refl _) (by simp)
  exact ⟨g, b, seq_n (set_v rfl) (for_n (row_s rfl hcd) e1), e2⟩
theorem while_f {n : Nat} {t : TC} {b : SC} {ρ : Rho} (h : t ρ = .ok false) : whileN t b (n + 1) ρ = .next ρ := by
  unfold whileN; rw [h]
theorem while_t {n : Nat} {t : TC} {b : SC} {ρ ρ' : Rho} {r : SRes} (h : t ρ = .ok true) (hb : b ρ = .next ρ') (k : whileN t b n ρ' = r) : whileN t b (n + 1) ρ = r := by
  unfold whileN; rw [h]
  show (match b ρ with | .next ρ' => _ | .cont ρ' => _ | .brk ρ' => _ | .ret ow => _ | .err x ρ' => _ | .stuck => _) = _
  rw [hb]; exact k
theorem given_while {days : Nat} {cd sd : D} {cs : List Cp} (k : ∀ c ∈ cs, CpOk days c) (hd : days ≤ 1000) (hcd : rowOf cd = some (cs.map fun c => .tuple (cI c))) : ∀ (j : Nat) (r : List Int) (a : Option Sl), OkR days r → days - r.length ≤ j →
    ∃ n b, n ≤ j + 2 ∧ whileN (VL.tB (eVar 3)) w_given_days_1 n (stG cd sd r true a) = .next (stG cd sd (iterG cs days r) false b) := by
  intro j
  induction j with
  | zero =>
    intro r a h hj
    obtain ⟨g, b, e1, e2⟩ := given_body (sd := sd) k hd hcd r a h
    have l2 := len_le_days (passG_ok h k).1 (passG_ok h k).2
    have l1 := passG_le cs r
    have fx : passG cs r = r := l1.2 (by omega)
    have gf : g = false := by
      cases g with
      | false => rfl
      | true => have := e2.mp rfl; omega
    subst gf
    rw [iterG_fix fx]
    rw [fx] at e1
    exact ⟨2, b, by omega, while_t rfl e1 (while_f rfl)⟩
  | succ j ih =>
    intro r a h hj
    obtain ⟨g, b, e1, e2⟩ := given_body (sd := sd) k hd hcd r a h
    have l2 := len_le_days (passG_ok h k).1 (passG_ok h k).2
    have l1 := passG_le cs r
    cases g with
    | false =>
      have fx : passG cs r = r := l1.2 (by
        have : ¬ r.length < (passG cs r).length := fun z => by simpa using e2.mpr z
        omega)
      rw [iterG_fix fx]
      rw [fx] at e1
      exact ⟨2, b, by omega, while_t rfl e1 (while_f rfl)⟩
    | true =>
      have hlt := e2.mp rfl
      obtain ⟨n, b', hn, e3⟩ := ih (passG cs r) b (passG_ok h k) (by omega)
      refine ⟨n + 1, b', by omega, while_t rfl e1 ?_⟩
      rw [e3, show iterG cs days (passG cs r) = iterG cs (days + 1) r from rfl, iterG_succ, fixAt k days r h (by omega)]
theorem given_days_s {days : Nat} {cd sd : D} {cs : List Cp} {s : List Int} (k : ∀ c ∈ cs, CpOk days c) (hd : days ≤ 1000) (hcd : rowOf cd = some (cs.map fun c => .tuple (cI c))) (hsd : rowOf sd = some (dI s)) (ha : Asc 1 days s) :
    φ_given_days [.own (.fz cd), .own (.fz sd)] = .ok (.ls (oI (sortI (iterG cs days s)))) := by
  refine run_ret _ ?_
  unfold b_given_days
  obtain ⟨n, b, hn, e⟩ := given_while (cd := cd) (sd := sd) k hd hcd (days - s.length) s none ⟨ha.nodup, ha.2⟩ (Nat.le_refl _)
  refine seq_n (set_v (ow := .ls (oI s)) ?_) (seq_n (set_v rfl) (seq_n (sWhile_of e (Nat.le_trans hn (by unfold fuel; omega))) (frz_n (ret_v ?_))))
  · rw [← oI_fz, ← list_s hsd]; rfl
  · refine un_v rfl (sorted_ls ?_)
    exact oI_toD _
abbrev scr (ns : List Int) : Sl := .own (.fz (.list (dI ns)))
def In (size : Int) (L : List Int) : Prop := ∀ x ∈ L, 0 ≤ x ∧ x < size
theorem In.app {size : Int} {L : List Int} {x : Int} (h : In size L) (h0 : 0 ≤ x) (h1 : x < size) : In size (L ++ [x]) := fun y hy => by
  rcases List.mem_append.mp hy with q | q
  · exact h y q
  · simp only [List.mem_singleton] at q
    subst q; exact ⟨h0, h1⟩
theorem ixI {ns : List Int} {k : Nat} (h : k < ns.length) : ∃ x, ns[k]? = some x ∧ x ∈ ns := ⟨ns[k], List.getElem?_eq_getElem h, List.getElem_mem h⟩
theorem In.get {size : Int} {L : List Int} (h : In size L) {k : Nat} (hk : k < L.length) : ∃ x, L[k]? = some x ∧ 0 ≤ x ∧ x < size := by
  obtain ⟨x, h1, h2⟩ := ixI hk
  exact ⟨x, h1, h x h2⟩
def cpD (cs : List Cp) : List D := cs.map fun c => .tuple (cI c)
theorem tup_s {d : D} {ds : List D} (h : rowOf d = some ds) : fTuple (.val (.fz d)) = .ok (.val (.fz (.tuple ds))) := by
  have e : mkTup (ds.map Ow.fz) = .fz (.tuple ds) := by
    unfold mkTup
    rw [if_pos (by rw [List.all_map, List.all_eq_true]; intro _ _; rfl), toDs_fz]
  cases d with
  | list es =>
    have h' : es = ds := by cases h; rfl
    rw [h']
    show Res.ok (RV.val (mkTup (ds.map Ow.fz))) = _
    rw [e]
  | tuple _ => cases h; rfl
  | _ => cases h
theorem lit_ix (L : List Int) (c : Int) (m : Nat) (h : L.length = m) (hm : 0 < m) : ∃ x ∈ L, fIx (.val (.ls (oI L))) (.val (.fz (.int (c % m)))) = .ok (.val (.fz (.int x))) := by
  have b1 := Int.emod_nonneg c (show (m : Int) ≠ 0 by omega)
  have b2 := Int.emod_lt_of_pos c (show (0 : Int) < m by omega)
  obtain ⟨j, ej⟩ : ∃ j : Nat, c % m = j := ⟨(c % m).toNat, by omega⟩
  rw [ej] at b2 ⊢
  obtain ⟨x, hx, hx2⟩ := ixI (ns := L) (k := j) (by omega)
  exact ⟨x, hx2, ix_val hx⟩
theorem kcs_ex (cs : List Cp) : ∀ th : List Int, (∀ x ∈ th, 0 ≤ x ∧ x < cs.length) → ∃ kcs : List Cp, th.map (fun i => cs[i.toNat]?) = kcs.map some
  | [], _ => ⟨[], rfl⟩
  | i :: th, h => by
    obtain ⟨kcs, e⟩ := kcs_ex cs th fun x hx => h x (List.mem_cons_of_mem _ hx)
    have hi := h i List.mem_cons_self
    have : cs[i.toNat]? = some (cs[i.toNat]'(by omega)) := List.getElem?_eq_getElem (by omega)
    exact ⟨cs[i.toNat]'(by omega) :: kcs, by rw [List.map_cons, e, this]; rfl⟩
theorem flat_cp (cs : List Cp) : flat 2 (.list (cpD cs)) = true := by
  show (cpD cs).all (flat 1) = true
  unfold cpD
  rw [List.all_map, List.all_eq_true]
  intro s _
  rfl
end K41

set_option Elab.async false
set_option linter.all false
set_option maxRecDepth 100000
set_option maxHeartbeats 4000000
namespace K41
open PySem VL
def lv (P : List Int) (d : Nat) : Int := P.getD (d - 1) 0
def bs (P : List Int) (v : Int) : Nat → Nat
  | 0 => 0
  | k + 1 => if P.getD k 0 < v then k + 1 else bs P v k
theorem bs_le (P : List Int) (v : Int) : ∀ k, bs P v k ≤ k
  | 0 => Nat.le_refl _
  | k + 1 => by
    unfold bs
    by_cases h : P.getD k 0 < v
    · rw [if_pos h]; exact Nat.le_refl _
    · rw [if_neg h]; have := bs_le P v k; omega
theorem bs_lt (P : List Int) (v : Int) : ∀ k, bs P v k ≠ 0 → lv P (bs P v k) < v
  | 0, h => absurd rfl h
  | k + 1, h => by
    unfold bs at h ⊢
    by_cases e : P.getD k 0 < v
    · rw [if_pos e]; exact e
    · rw [if_neg e] at h ⊢; exact bs_lt P v k h
theorem bs_max (P : List Int) (v : Int) : ∀ k e, bs P v k < e → e ≤ k → v ≤ lv P e
  | 0, e, h, h' => by omega
  | k + 1, e, h, h' => by
    unfold bs at h
    by_cases q : P.getD k 0 < v
    · rw [if_pos q] at h; omega
    · rw [if_neg q] at h
      by_cases r : e = k + 1
      · subst r
        show v ≤ P.getD k 0
        omega
      · exact bs_max P v k e h (by omega)
def base (P : List Int) (d : Nat) : Nat := bs P (lv P d) (d - 1)
theorem base_lt (P : List Int) {d : Nat} (h : 0 < d) : base P d < d := by have := bs_le P (lv P d) (d - 1); unfold base; omega
def ch (P : List Int) : Nat → Nat → List Nat
  | 0, _ => []
  | f + 1, d => if d = 0 then [] else ch P f (base P d) ++ [d]
def chn (P : List Int) (d : Nat) : List Nat := ch P d d
theorem ch_stable (P : List Int) : ∀ f d, d ≤ f → ch P f d = chn P d := by
  intro f
  induction f using Nat.strongRecOn with
  | ind f ih =>
    intro d hd
    cases f with
    | zero =>
      have : d = 0 := by omega
      subst this
      rfl
    | succ f =>
      cases d with
      | zero => rfl
      | succ d =>
        have hb := base_lt P (d := d + 1) (by omega)
        show (if d + 1 = 0 then [] else ch P f (base P (d + 1)) ++ [d + 1]) = (if d + 1 = 0 then [] else ch P d (base P (d + 1)) ++ [d + 1])
        rw [if_neg (by omega), if_neg (by omega), ih f (by omega) _ (by omega), ih d (by omega) _ (by omega)]
theorem chn_eq (P : List Int) {d : Nat} (h : 0 < d) : chn P d = chn P (base P d) ++ [d] := by
  cases d with
  | zero => omega
  | succ d =>
    have hb := base_lt P (d := d + 1) (by omega)
    show (if d + 1 = 0 then [] else ch P d (base P (d + 1)) ++ [d + 1]) = _
    rw [if_neg (by omega), ch_stable P d _ (by omega)]
theorem mem_chn (P : List Int) : ∀ m d, d ∈ chn P m ↔ 1 ≤ d ∧ d ≤ m ∧ ∀ e, d < e → e ≤ m → lv P d < lv P e := by
  intro m
  induction m using Nat.strongRecOn with
  | ind m ih =>
    intro d
    by_cases hm : m = 0
    · subst hm
      constructor
      · intro h; cases h
      · intro h; omega
    · have hb := base_lt P (d := m) (by omega)
      rw [chn_eq P (by omega), List.mem_append, List.mem_singleton, ih _ hb]
      constructor
      · rintro (⟨h1, h2, h3⟩ | rfl)
        · have hbn : base P m ≠ 0 := by omega
          have lt := bs_lt P (lv P m) (m - 1) hbn
          have hbm : lv P d ≤ lv P (base P m) := by
            by_cases e : d = base P m
            · rw [e]; exact Int.le_refl _
            · exact Int.le_of_lt (h3 _ (by omega) (Nat.le_refl _))
          refine ⟨h1, by omega, fun e he1 he2 => ?_⟩
          by_cases q : e ≤ base P m
          · exact h3 e he1 q
          · have lt' : lv P (base P m) < lv P m := lt
            by_cases r : e = m
            · subst r; omega
            · have := bs_max P (lv P m) (m - 1) e (by unfold base at q; omega) (by omega)
              omega
        · exact ⟨by omega, Nat.le_refl _, fun e h1 h2 => by omega⟩
      · rintro ⟨h1, h2, h3⟩
        by_cases e : d = m
        · exact .inr e
        · left
          have hlt := h3 m (by omega) (Nat.le_refl _)
          have hdb : d ≤ base P m := by
            rcases Nat.lt_or_ge (base P m) d with q | q
            · have := bs_max P (lv P m) (m - 1) d (by unfold base at q; omega) (by omega)
              omega
            · exact q
          exact ⟨h1, hdb, fun e he1 he2 => h3 e he1 (by omega)⟩
theorem chn_lt (P : List Int) : ∀ m, (chn P m).Pairwise (· < ·) := by
  intro m
  induction m using Nat.strongRecOn with
  | ind m ih =>
    by_cases hm : m = 0
    · subst hm; exact .nil
    · have hb := base_lt P (d := m) (by omega)
      rw [chn_eq P (by omega), List.pairwise_append]
      refine ⟨ih _ hb, List.pairwise_singleton _ _, fun a ha b hb' => ?_⟩
      simp only [List.mem_singleton] at hb'
      subst hb'
      have := ((mem_chn P _ a).mp ha).2.1
      omega
def chI (P : List Int) (m : Nat) : List Int := (chn P m).map fun (d : Nat) => (d : Int)
theorem mem_chI (P : List Int) (m : Nat) (x : Int) : x ∈ chI P m ↔ ∃ d : Nat, x = d ∧ d ∈ chn P m := by
  unfold chI
  rw [List.mem_map]
  exact ⟨fun ⟨d, h1, h2⟩ => ⟨d, h2.symm, h1⟩, fun ⟨d, h1, h2⟩ => ⟨d, h2, h1.symm⟩⟩
theorem chI_asc (P : List Int) (m : Nat) : Asc 1 m (chI P m) := by
  refine ⟨?_, fun x hx => ?_⟩
  · unfold chI
    rw [List.pairwise_map]
    exact (chn_lt P m).imp fun h => by omega
  · obtain ⟨d, rfl, hd⟩ := (mem_chI P m x).mp hx
    have := (mem_chn P m d).mp hd
    omega
theorem chI_len (P : List Int) (m : Nat) : (chI P m).length ≤ m := len_le_days (chI_asc P m).nodup (chI_asc P m).2
theorem chI_eq (P : List Int) {d : Nat} (h : 0 < d) : chI P d = chI P (base P d) ++ [(d : Int)] := by
  unfold chI
  rw [chn_eq P h, List.map_append]; rfl
/-! ### the program's bases and chains -/
abbrev Lx (L : List Int) : Sl := .own (.fz (.list (dI L)))
theorem getD_ix {L : List Int} {k : Nat} (h : k < L.length) : L[k]? = some (L.getD k 0) := by
  rw [List.getD_eq_getElem?_getD, List.getElem?_eq_getElem h]; rfl
theorem ixP {P : List Int} {k : Int} {j : Nat} (hj : j < P.length) (e : k = j) : fIx (.val (.fz (.list (dI P)))) (.val (.fz (.int k))) = .ok (.val (.fz (.int (P.getD j 0)))) := by
  subst e
  exact ix_I (by omega) (by rw [Int.toNat_natCast]; exact getD_ix hj)
theorem law_base_s {P : List Int} {d : Nat} (h1 : 1 ≤ d) (h2 : d ≤ P.length) (hl : P.length ≤ 100) : φ__law_base [Lx P, .own (.fz (.int d))] = .ok (.fz (.int (base P d))) := by
  have i2 := ixP (P := P) (k := (d : Int) - 1) (j := d - 1) (by omega) (by omega)
  obtain ⟨ρ', e, a, rfl⟩ := forL_n (tg := [3]) (b := w__law_base_0) (vs := rangeS 1 d) (fun k ρ => ∃ a, ρ = [some (Lx P), some (.own (.fz (.int d))), some (.own (.fz (.int (bs P (lv P d) k)))), a]) (ρ := [some (Lx P), some (.own (.fz (.int d))), some (.own (.fz (.int 0))), none]) ⟨none, rfl⟩ (by
    rintro k v ρ hv ⟨a, rfl⟩
    obtain ⟨rfl, hk⟩ := rangeS_get hv
    have i1 := ixP (P := P) (k := 1 + (k : Int) - 1) (j := k) (by omega) (by omega)
    have bse : bs P (lv P d) (k + 1) = if P.getD k 0 < lv P d then k + 1 else bs P (lv P d) k := rfl
    by_cases q : P.getD k 0 < lv P d
    · rw [bse, if_pos q]
      refine ⟨_, .inl (if_t ?_ (set_v rfl)), some (.own (.fz (.int (1 + (k : Nat))))), ?_⟩
      · have q' : P.getD k 0 < P.getD (d - 1) 0 := q
        simp [VL.runBody, VL.sSeq, VL.sIf, VL.sRet, VL.sSet, VL.sFrz, VL.frzSl, VL.sUnp, VL.RV.parts, VL.sFor, VL.sApp, VL.sPass, VL.putAt, VL.Ow.put, VL.eVar, VL.Sl.rv, VL.eK, VL.rD, VL.eUn, VL.eBin, VL.eCall, VL.evalAll, VL.RV.arg, VL.Res.bind, VL.RV.d, VL.Ow.toD, VL.tB, VL.tAnd, VL.tOr, VL.tNot, VL.tYes, VL.eAnd, VL.eOr, VL.fNot, VL.eIf, VL.eChain, VL.fNeg, VL.fIsN, VL.fNotN, VL.isN, VL.fIsI, VL.fIsIs, VL.inst, VL.setAll, VL.RV.ow, VL.owsOf, VL.eLst, VL.eTup, VL.iRow, VL.iRng1, VL.iRng2, VL.iEnum, VL.RV.iter, VL.slOf, VL.mul_r, VL.mul_l, VL.mod_s, VL.div_s, VL.add_s, VL.sub_s, VL.int_s, VL.lt_s, VL.le_s, VL.gt_s, VL.ge_s, VL.fEq_int, VL.fNe_int, i1, i2]
        simpa using q'
      · show [_, _, some (Sl.own (.fz (.int (1 + (k : Nat))))), _] = _
        rw [show (1 + (k : Nat) : Int) = ((k + 1 : Nat) : Int) by omega]; rfl
    · rw [bse, if_neg q]
      refine ⟨_, .inl (if_f ?_ rfl), some (.own (.fz (.int (1 + (k : Nat))))), rfl⟩
      have q' : ¬ P.getD k 0 < P.getD (d - 1) 0 := q
      simp [VL.runBody, VL.sSeq, VL.sIf, VL.sRet, VL.sSet, VL.sFrz, VL.frzSl, VL.sUnp, VL.RV.parts, VL.sFor, VL.sApp, VL.sPass, VL.putAt, VL.Ow.put, VL.eVar, VL.Sl.rv, VL.eK, VL.rD, VL.eUn, VL.eBin, VL.eCall, VL.evalAll, VL.RV.arg, VL.Res.bind, VL.RV.d, VL.Ow.toD, VL.tB, VL.tAnd, VL.tOr, VL.tNot, VL.tYes, VL.eAnd, VL.eOr, VL.fNot, VL.eIf, VL.eChain, VL.fNeg, VL.fIsN, VL.fNotN, VL.isN, VL.fIsI, VL.fIsIs, VL.inst, VL.setAll, VL.RV.ow, VL.owsOf, VL.eLst, VL.eTup, VL.iRow, VL.iRng1, VL.iRng2, VL.iEnum, VL.RV.iter, VL.slOf, VL.mul_r, VL.mul_l, VL.mod_s, VL.div_s, VL.add_s, VL.sub_s, VL.int_s, VL.lt_s, VL.le_s, VL.gt_s, VL.ge_s, VL.fEq_int, VL.fNe_int, i1, i2]
      simpa using q')
  rw [rangeS_len] at e
  refine run_ret _ ?_
  refine seq_n (set_v rfl) (seq_n (for_n (rng2_s rfl rfl (by omega) (by omega) (by omega) (by omega)) e) (ret_v ?_))
  rw [show ((d : Int) - 1).toNat = d - 1 by omega]
  rfl
def bsL (P : List Int) (n : Nat) : List Int := (List.range n).map fun k => (base P (k + 1) : Int)
theorem bsL_get {P : List Int} {n k : Nat} (h : k < n) : (bsL P n)[k]? = some (base P (k + 1) : Int) := by unfold bsL; rw [List.getElem?_map, List.getElem?_range h]; rfl
theorem bsL_len (P : List Int) (n : Nat) : (bsL P n).length = n := by unfold bsL; simp
theorem base_list_s {P : List Int} (hl : P.length ≤ 100) : φ_base_list [Lx P] = .ok (.ls (oI (bsL P P.length))) := by
  obtain ⟨ρ', e, a, b, c, rfl⟩ := forL_n (tg := [2]) (b := w_base_list_1) (vs := rangeS 1 (P.length + 1)) (fun k ρ => ∃ a b c, ρ = [some (Lx P), some (.own (.ls (oI (bsL P k)))), a, b, c]) (ρ := [some (Lx P), some (.own (.ls [])), none, none, none]) ⟨none, none, none, rfl⟩ (by
    rintro k v ρ hv ⟨a, b, c, rfl⟩
    obtain ⟨rfl, hk⟩ := rangeS_get hv
    have hk' : k < P.length := by omega
    have i2 := ixP (P := P) (k := 1 + (k : Int) - 1) (j := k) (by omega) (by omega)
    obtain ⟨ρ1, e1, c', rfl⟩ := forL_n (tg := [4]) (b := w_base_list_0) (vs := rangeS 1 (1 + k)) (fun j ρ => ∃ c, ρ = [some (Lx P), some (.own (.ls (oI (bsL P k)))), some (.own (.fz (.int (1 + (k : Nat))))), some (.own (.fz (.int (bs P (lv P (k + 1)) j)))), c])
      (ρ := [some (Lx P), some (.own (.ls (oI (bsL P k)))), some (.own (.fz (.int (1 + (k : Nat))))), some (.own (.fz (.int 0))), c]) ⟨c, rfl⟩ (by
      rintro j v ρ hv ⟨c, rfl⟩
      obtain ⟨rfl, hj⟩ := rangeS_get hv
      have i1 := ixP (P := P) (k := 1 + (j : Int) - 1) (j := j) (by omega) (by omega)
      have bse : bs P (lv P (k + 1)) (j + 1) = if P.getD j 0 < lv P (k + 1) then j + 1 else bs P (lv P (k + 1)) j := rfl
      by_cases q : P.getD j 0 < lv P (k + 1)
      · rw [bse, if_pos q]
        refine ⟨_, .inl (if_t ?_ (set_v rfl)), some (.own (.fz (.int (1 + (j : Nat))))), ?_⟩
        · have q' : P.getD j 0 < P.getD k 0 := q
          simp [VL.runBody, VL.sSeq, VL.sIf, VL.sRet, VL.sSet, VL.sFrz, VL.frzSl, VL.sUnp, VL.RV.parts, VL.sFor, VL.sApp, VL.sPass, VL.putAt, VL.Ow.put, VL.eVar, VL.Sl.rv, VL.eK, VL.rD, VL.eUn, VL.eBin, VL.eCall, VL.evalAll, VL.RV.arg, VL.Res.bind, VL.RV.d, VL.Ow.toD, VL.tB, VL.tAnd, VL.tOr, VL.tNot, VL.tYes, VL.eAnd, VL.eOr, VL.fNot, VL.eIf, VL.eChain, VL.fNeg, VL.fIsN, VL.fNotN, VL.isN, VL.fIsI, VL.fIsIs, VL.inst, VL.setAll, VL.RV.ow, VL.owsOf, VL.eLst, VL.eTup, VL.iRow, VL.iRng1, VL.iRng2, VL.iEnum, VL.RV.iter, VL.slOf, VL.mul_r, VL.mul_l, VL.mod_s, VL.div_s, VL.add_s, VL.sub_s, VL.int_s, VL.lt_s, VL.le_s, VL.gt_s, VL.ge_s, VL.fEq_int, VL.fNe_int, i1, i2]
          simpa using q'
        · show [_, _, _, some (Sl.own (.fz (.int (1 + (j : Nat))))), _] = _
          rw [show (1 + (j : Nat) : Int) = ((j + 1 : Nat) : Int) by omega]; rfl
      · rw [bse, if_neg q]
        refine ⟨_, .inl (if_f ?_ rfl), some (.own (.fz (.int (1 + (j : Nat))))), rfl⟩
        have q' : ¬ P.getD j 0 < P.getD k 0 := q
        simp [VL.runBody, VL.sSeq, VL.sIf, VL.sRet, VL.sSet, VL.sFrz, VL.frzSl, VL.sUnp, VL.RV.parts, VL.sFor, VL.sApp, VL.sPass, VL.putAt, VL.Ow.put, VL.eVar, VL.Sl.rv, VL.eK, VL.rD, VL.eUn, VL.eBin, VL.eCall, VL.evalAll, VL.RV.arg, VL.Res.bind, VL.RV.d, VL.Ow.toD, VL.tB, VL.tAnd, VL.tOr, VL.tNot, VL.tYes, VL.eAnd, VL.eOr, VL.fNot, VL.eIf, VL.eChain, VL.fNeg, VL.fIsN, VL.fNotN, VL.isN, VL.fIsI, VL.fIsIs, VL.inst, VL.setAll, VL.RV.ow, VL.owsOf, VL.eLst, VL.eTup, VL.iRow, VL.iRng1, VL.iRng2, VL.iEnum, VL.RV.iter, VL.slOf, VL.mul_r, VL.mul_l, VL.mod_s, VL.div_s, VL.add_s, VL.sub_s, VL.int_s, VL.lt_s, VL.le_s, VL.gt_s, VL.ge_s, VL.fEq_int, VL.fNe_int, i1, i2]
        simpa using q')
    rw [rangeS_len] at e1
    rw [show ((1 + (k : Int)) - 1).toNat = k by omega] at e1
    refine ⟨_, .inl (seq_n (set_v rfl) (seq_n (for_n (rng2_s (n := 1 + k) rfl rfl (by omega) (by omega) (by omega) (by omega)) e1) (frz_n (app_s (xs := oI (bsL P k)) (ow := .fz (.int (base P (k + 1)))) rfl rfl rfl (by rw [oI_len, bsL_len]; omega))))), some (.own (.fz (.int (1 + (k : Nat))))), some (.own (.fz (.int (base P (k + 1))))), c', ?_⟩
    rw [oI_app]
    have : bsL P (k + 1) = bsL P k ++ [(base P (k + 1) : Int)] := by unfold bsL; rw [List.range_succ, List.map_append]; rfl
    rw [this]
    rfl)
  rw [rangeS_len] at e
  refine run_ret _ ?_
  refine seq_n (set_v rfl) (seq_n (for_n (rng2_s (n := P.length + 1) rfl (bin_v (un_v rfl (len_I (isI_fz P))) rfl (add_s _ _)) (by omega) (by omega) (by omega) (by omega)) e) ?_)
  rw [show ((P.length : Int) + 1 - 1).toNat = P.length by omega]
  rfl
theorem chain_of_s {P : List Int} {m : Nat} (hm : m ≤ P.length) (hl : P.length ≤ 100) : φ_chain_of [Lx (bsL P P.length), .own (.fz (.int m))] = .ok (.ls (oI (chI P m))) := by
  have key : ∀ (d : Nat), d ≤ m → ∀ (acc : List Int), acc.length ≤ m - d → ∃ n, n ≤ d + 1 ∧ ∃ o3, whileN (VL.tB (eBin fGt (eVar 3) (eK (.int 0)))) w_chain_of_0 n [some (Lx (bsL P P.length)), some (.own (.fz (.int m))), some (.own (.ls (oI acc))), some (.own (.fz (.int d)))] = .next [some (Lx (bsL P P.length)), some (.own (.fz (.int m))), some (.own (.ls (oI (acc ++ (chI P d).reverse)))), o3] := by
    intro d
    induction d using Nat.strongRecOn with
    | ind d ih =>
      intro hd acc ha
      by_cases h0 : d = 0
      · subst h0
        refine ⟨1, by omega, some (.own (.fz (.int (0 : Nat)))), (while_f rfl).trans ?_⟩
        show SRes.next [_, _, some (Sl.own (.ls (oI acc))), _] = SRes.next [_, _, some (Sl.own (.ls (oI (acc ++ [])))), _]
        rw [List.append_nil]
      · have hb := base_lt P (d := d) (by omega)
        obtain ⟨n, hn, o3, e⟩ := ih (base P d) hb (by omega) (acc ++ [(d : Int)]) (by simp; omega)
        refine ⟨n + 1, by omega, o3, while_t (ρ' := [some (Lx (bsL P P.length)), some (.own (.fz (.int m))), some (.own (.ls (oI (acc ++ [(d : Int)])))), some (.own (.fz (.int (base P d))))]) ?_ ?_ ?_⟩
        · have : (0 : Int) < d := by omega
          simp [VL.runBody, VL.sSeq, VL.sIf, VL.sRet, VL.sSet, VL.sFrz, VL.frzSl, VL.sUnp, VL.RV.parts, VL.sFor, VL.sApp, VL.sPass, VL.putAt, VL.Ow.put, VL.eVar, VL.Sl.rv, VL.eK, VL.rD, VL.eUn, VL.eBin, VL.eCall, VL.evalAll, VL.RV.arg, VL.Res.bind, VL.RV.d, VL.Ow.toD, VL.tB, VL.tAnd, VL.tOr, VL.tNot, VL.tYes, VL.eAnd, VL.eOr, VL.fNot, VL.eIf, VL.eChain, VL.fNeg, VL.fIsN, VL.fNotN, VL.isN, VL.fIsI, VL.fIsIs, VL.inst, VL.setAll, VL.RV.ow, VL.owsOf, VL.eLst, VL.eTup, VL.iRow, VL.iRng1, VL.iRng2, VL.iEnum, VL.RV.iter, VL.slOf, VL.mul_r, VL.mul_l, VL.mod_s, VL.div_s, VL.add_s, VL.sub_s, VL.int_s, VL.lt_s, VL.le_s, VL.gt_s, VL.ge_s, VL.fEq_int, VL.fNe_int, this]
          omega
        · refine seq_n (frz_n (app_s (xs := oI acc) (ow := .fz (.int d)) rfl rfl rfl (by rw [oI_len]; omega))) ?_
          have ib : fIx (.val (.fz (.list (dI (bsL P P.length))))) (.val (.fz (.int ((d : Int) - 1)))) = .ok (.val (.fz (.int (base P d)))) := ix_I (by omega) (by
            rw [show ((d : Int) - 1).toNat = d - 1 by omega, bsL_get (by omega), show d - 1 + 1 = d by omega])
          rw [oI_app]
          exact set_v (bin_v rfl (bin_v rfl rfl (sub_s _ _)) ib)
        · rw [e, chI_eq P (d := d) (by omega), List.reverse_append]
          simp [List.append_assoc]
  obtain ⟨n, hn, o3, e⟩ := key m (Nat.le_refl _) [] (by simp)
  refine run_ret _ ?_
  refine seq_n (set_v rfl) (seq_n (set_v rfl) (seq_n (sWhile_of e (Nat.le_trans hn (by unfold fuel; omega))) (frz_n (ret_v (un_v (x := .val (.fz (.list (dI (chI P m).reverse)))) ?_ ((rev_I (isI_fz _)).trans ?_))))))
  · simp [VL.eVar, VL.frzSl, VL.Sl.rv, oI_toD]
  · rw [List.reverse_reverse]
end K41

set_option Elab.async false
set_option linter.all false
set_option maxRecDepth 100000
set_option maxHeartbeats 4000000
namespace K41
open PySem VL
theorem frz_I {i : Nat} {a : SC} {ρ : Rho} {r : SRes} {P : List Int} (h : ρ[i]? = some (some (.own (.ls (oI P))))) (k : a (ρ.set i (some (Lx P))) = r) : sFrz i a ρ = r := by
  unfold sFrz
  rw [h]
  show a (ρ.set i (some (.own (.fz (Ow.ls (oI P)).toD)))) = r
  rw [oI_toD]; exact k
theorem frz_d {i : Nat} {a : SC} {ρ : Rho} {r : SRes} {d : D} (h : ρ[i]? = some (some (.own (.fz d)))) (k : a ρ = r) : sFrz i a ρ = r := by
  unfold sFrz
  rw [h]
  show a (ρ.set i (some (.own (.fz d)))) = r
  have : ρ.set i (some (.own (.fz d))) = ρ := by
    obtain ⟨hi, e⟩ := List.getElem?_eq_some_iff.mp h
    rw [← e]; exact List.set_getElem_self hi
  rw [this]; exact k
theorem run_next {b : SC} {n : Nat} {as : List Sl} {ρ' : Rho} (ρ : Rho) (h : b ρ = .next ρ') (hρ : as.map some ++ List.replicate (n - as.length) none = ρ := by rfl) : runBody b n as = .ok (.fz .none) := by
  unfold runBody
  rw [hρ, h]
structure LevOk (P : List Int) : Prop where
  h1 : 1 ≤ P.length
  h2 : P.length ≤ 12
  hr : ∀ x ∈ P, 0 ≤ x ∧ x ≤ 7
theorem check_levels_s {P : List Int} {d : D} (h : rowOf d = some (dI P)) (H : LevOk P) : φ_check_levels [.own (.fz d)] = .ok (.ls (oI P)) := by
  have sm : φ_check_small_row [.own (.fz d), .own (.fz (.int 12))] = .ok (.ls (oI P)) := by
    obtain ⟨ρ', e, a', b', rfl⟩ := forL_n (tg := [2, 3]) (b := w_check_small_row_0) (vs := enumS 0 ((dI P).map slOf)) (fun _ ρ => ∃ a' b', ρ = [some (.own (.fz d)), some (.own (.fz (.int 12))), a', b']) (ρ := [some (.own (.fz d)), some (.own (.fz (.int 12))), none, none]) ⟨none, none, rfl⟩ (by
      rintro k v ρ hv ⟨a', b', rfl⟩
      obtain ⟨x, hx, rfl⟩ := enum_get hv
      rw [dI_get] at hx
      cases en : P[k]? with
      | none => rw [en] at hx; cases hx
      | some n =>
        rw [en] at hx; cases hx
        have hn := H.hr n (List.mem_of_getElem? en)
        refine ⟨_, .inl (if_f ?_ rfl), some (.own (.fz (.int k))), some (.own (.fz (.int n))), rfl⟩
        simp [VL.runBody, VL.sSeq, VL.sIf, VL.sRet, VL.sSet, VL.sFrz, VL.frzSl, VL.sUnp, VL.RV.parts, VL.sFor, VL.sApp, VL.sPass, VL.putAt, VL.Ow.put, VL.eVar, VL.Sl.rv, VL.eK, VL.rD, VL.eUn, VL.eBin, VL.eCall, VL.evalAll, VL.RV.arg, VL.Res.bind, VL.RV.d, VL.Ow.toD, VL.tB, VL.tAnd, VL.tOr, VL.tNot, VL.tYes, VL.eAnd, VL.eOr, VL.fNot, VL.eIf, VL.eChain, VL.fNeg, VL.fIsN, VL.fNotN, VL.isN, VL.fIsI, VL.fIsIs, VL.inst, VL.setAll, VL.RV.ow, VL.owsOf, VL.eLst, VL.eTup, VL.iRow, VL.iRng1, VL.iRng2, VL.iEnum, VL.RV.iter, VL.slOf, VL.mul_r, VL.mul_l, VL.mod_s, VL.div_s, VL.add_s, VL.sub_s, VL.int_s, VL.lt_s, VL.le_s, VL.gt_s, VL.ge_s, VL.fEq_int, VL.fNe_int, is_number_s, hn])
    have e1 := len_s h
    rw [dI_len] at e1
    have n0 : ¬ (P.length : Int) = 0 := by have := H.h1; omega
    have n1 : ¬ (12 : Int) < P.length := by have := H.h2; omega
    refine run_ret _ ?_
    refine seq_n (if_f ?_ rfl) (seq_n (if_f ?_ rfl) (seq_n (for_n (enum_s rfl h) e) (ret_v (un_v rfl ?_))))
    · have n0' : P ≠ [] := by intro z; rw [z] at n0; exact n0 rfl
      simp [VL.runBody, VL.sSeq, VL.sIf, VL.sRet, VL.sSet, VL.sFrz, VL.frzSl, VL.sUnp, VL.RV.parts, VL.sFor, VL.sApp, VL.sPass, VL.putAt, VL.Ow.put, VL.eVar, VL.Sl.rv, VL.eK, VL.rD, VL.eUn, VL.eBin, VL.eCall, VL.evalAll, VL.RV.arg, VL.Res.bind, VL.RV.d, VL.Ow.toD, VL.tB, VL.tAnd, VL.tOr, VL.tNot, VL.tYes, VL.eAnd, VL.eOr, VL.fNot, VL.eIf, VL.eChain, VL.fNeg, VL.fIsN, VL.fNotN, VL.isN, VL.fIsI, VL.fIsIs, VL.inst, VL.setAll, VL.RV.ow, VL.owsOf, VL.eLst, VL.eTup, VL.iRow, VL.iRng1, VL.iRng2, VL.iEnum, VL.RV.iter, VL.slOf, VL.mul_r, VL.mul_l, VL.mod_s, VL.div_s, VL.add_s, VL.sub_s, VL.int_s, VL.lt_s, VL.le_s, VL.gt_s, VL.ge_s, VL.fEq_int, VL.fNe_int, is_row_s h, e1, n0']
    · simp [VL.runBody, VL.sSeq, VL.sIf, VL.sRet, VL.sSet, VL.sFrz, VL.frzSl, VL.sUnp, VL.RV.parts, VL.sFor, VL.sApp, VL.sPass, VL.putAt, VL.Ow.put, VL.eVar, VL.Sl.rv, VL.eK, VL.rD, VL.eUn, VL.eBin, VL.eCall, VL.evalAll, VL.RV.arg, VL.Res.bind, VL.RV.d, VL.Ow.toD, VL.tB, VL.tAnd, VL.tOr, VL.tNot, VL.tYes, VL.eAnd, VL.eOr, VL.fNot, VL.eIf, VL.eChain, VL.fNeg, VL.fIsN, VL.fNotN, VL.isN, VL.fIsI, VL.fIsIs, VL.inst, VL.setAll, VL.RV.ow, VL.owsOf, VL.eLst, VL.eTup, VL.iRow, VL.iRng1, VL.iRng2, VL.iEnum, VL.RV.iter, VL.slOf, VL.mul_r, VL.mul_l, VL.mod_s, VL.div_s, VL.add_s, VL.sub_s, VL.int_s, VL.lt_s, VL.le_s, VL.gt_s, VL.ge_s, VL.fEq_int, VL.fNe_int, e1, n1]
    · exact (list_s h).trans (by rw [oI_fz])
  refine run_ret _ ?_
  exact ret_v (call_ok rfl sm)
def fut (P : List Int) : List Int := (chI P P.length).filter fun x => decide (P.getD (x - 1).toNat 0 < 7)
theorem future_days_s {P : List Int} {d : D} (h : rowOf d = some (dI P)) (H : LevOk P) : φ_future_days [.own (.fz d)] = .ok (.ls (oI (fut P))) := by
  have l12 := H.h2
  refine run_ret _ ?_
  have fr : ∀ a : SC, ∀ r : SRes, a [some (.own (.fz d)), none, none] = r → sFrz 0 a [some (.own (.fz d)), none, none] = r := fun a r k => frz_d rfl k
  refine seq_n (fr _ _ (set_v (call_ok rfl (check_levels_s h H)))) (seq_n (frz_I (P := P) rfl (set_v (call_ok (xs := [.val (.ls (oI (bsL P P.length))), .val (.fz (.int P.length))]) ?_ ?_))) (frz_I (P := chI P P.length) rfl (ret_v ?_)))
  · exact ev_cons (call_ok rfl (base_list_s (by omega))) (ev_cons (un_v rfl (len_I (isI_fz P))) rfl)
  · show φ_chain_of [.own (.fz (Ow.ls (oI (bsL P P.length))).toD), _] = _
    rw [oI_toD]
    exact chain_of_s (Nat.le_refl _) (by omega)
  · have cl := chI_len P P.length
    refine (comp_I (L := chI P P.length) (fun x => decide (P.getD (x - 1).toNat 0 < 7)) (fun x => x) (row_I rfl (.inl rfl)) (by omega) fun x hx => ?_).trans ?_
    · have hb := (chI_asc P P.length).2 x hx
      have ix := ixP (P := P) (k := x - 1) (j := (x - 1).toNat) (by omega) (by omega)
      exact ⟨by simp [VL.runBody, VL.sSeq, VL.sIf, VL.sRet, VL.sSet, VL.sFrz, VL.frzSl, VL.sUnp, VL.RV.parts, VL.sFor, VL.sApp, VL.sPass, VL.putAt, VL.Ow.put, VL.eVar, VL.Sl.rv, VL.eK, VL.rD, VL.eUn, VL.eBin, VL.eCall, VL.evalAll, VL.RV.arg, VL.Res.bind, VL.RV.d, VL.Ow.toD, VL.tB, VL.tAnd, VL.tOr, VL.tNot, VL.tYes, VL.eAnd, VL.eOr, VL.fNot, VL.eIf, VL.eChain, VL.fNeg, VL.fIsN, VL.fNotN, VL.isN, VL.fIsI, VL.fIsIs, VL.inst, VL.setAll, VL.RV.ow, VL.owsOf, VL.eLst, VL.eTup, VL.iRow, VL.iRng1, VL.iRng2, VL.iEnum, VL.RV.iter, VL.slOf, VL.mul_r, VL.mul_l, VL.mod_s, VL.div_s, VL.add_s, VL.sub_s, VL.int_s, VL.lt_s, VL.le_s, VL.gt_s, VL.ge_s, VL.fEq_int, VL.fNe_int, ix], fun _ => rfl⟩
    · rw [List.map_id']; rfl
theorem chain_s {P : List Int} {d : D} {m : Nat} (h : rowOf d = some (dI P)) (H : LevOk P) (h1 : 1 ≤ m) (h2 : m ≤ P.length) : φ_chain [.own (.fz d), .own (.fz (.int m))] = .ok (.ls (oI (chI P m))) := by
  have l12 := H.h2
  have cn : φ_check_number [.own (.fz (.int m)), .own (.fz (.int 1)), .own (.fz (.int P.length)), .own (.fz (.str "day"))] = .ok (.fz .none) := by
    refine run_next _ (if_f ?_ rfl)
    have a1 : (1 : Int) ≤ m := by omega
    have a2 : (m : Int) ≤ P.length := by omega
    simp only [VL.tNot, VL.tB, eCall, VL.evalAll, eVar, VL.Res.bind, List.map_cons, List.map_nil, List.length_cons, List.length_nil, List.getElem?_cons_zero, List.getElem?_cons_succ, List.cons_append, VL.Sl.rv, VL.RV.arg, VL.Ow.toD, VL.RV.d, is_number_s, decide_eq_true a1, decide_eq_true a2, Bool.and_true, Bool.not_true]
  refine run_ret _ ?_
  refine seq_n (frz_d rfl (set_v (call_ok rfl (check_levels_s h H)))) (seq_n (ρ' := [some (.own (.ls (oI P))), some (.own (.fz (.int m)))]) ?_ (frz_I (P := P) rfl (ret_v (call_ok (xs := [.val (.ls (oI (bsL P P.length))), .val (.fz (.int m))]) ?_ ?_))))
  · unfold sEx
    rw [call_ok (xs := [.val (.fz (.int m)), .val (.fz (.int 1)), .val (.fz (.int P.length)), .val (.fz (.str "day"))]) (ev_cons rfl (ev_cons rfl (ev_cons (un_v rfl (len_I (isI_ref 0 [] P))) rfl))) cn]
    rfl
  · exact ev_cons (call_ok rfl (base_list_s (by omega))) rfl
  · show φ_chain_of [.own (.fz (Ow.ls (oI (bsL P P.length))).toD), _] = _
    rw [oI_toD]
    exact chain_of_s h2 (by omega)
theorem law_chain_s {P : List Int} {m : Nat} (hm : m ≤ P.length) (hl : P.length ≤ 100) : φ__law_chain [Lx P, .own (.fz (.int m))] = .ok (.ls (oI (chI P m))) := by
  obtain ⟨ρ', e, D, p, a, rfl, h1, h2, h3⟩ := forL_n (tg := [4]) (b := w__law_chain_0) (vs := rangeS 0 P.length) (fun k ρ => ∃ (D : List Int) (p : Nat) (a : Option Sl), ρ = [some (Lx P), some (.own (.fz (.int m))), some (.own (.ls (oI D))), some (.own (.fz (.int p))), a] ∧ chI P m = chI P p ++ D ∧ p ≤ m ∧ (p = 0 ∨ p + k ≤ m))
    (ρ := [some (Lx P), some (.own (.fz (.int m))), some (.own (.ls (oI []))), some (.own (.fz (.int m))), none]) ⟨[], m, none, rfl, by simp, Nat.le_refl _, .inr (Nat.le_refl _)⟩ (by
    rintro k v ρ hv ⟨D, p, a, rfl, h1, h2, h3⟩
    obtain ⟨rfl, hk⟩ := rangeS_get hv
    by_cases q : p = 0
    · subst q
      exact ⟨_, .inl (if_f rfl rfl), D, 0, some (.own (.fz (.int (0 + (k : Nat))))), rfl, h1, h2, .inl rfl⟩
    · have dl : D.length ≤ 100 := by
        have := congrArg List.length h1
        rw [List.length_append] at this
        have := chI_len P m
        omega
      have hb := base_lt P (d := p) (by omega)
      have gt : VL.tB (eBin fGt (eVar 3) (eK (.int 0))) (VL.setAll [4] [slOf (.int (0 + (k : Nat)))] [some (Lx P), some (.own (.fz (.int m))), some (.own (.ls (oI D))), some (.own (.fz (.int p))), a]) = .ok true := by
        have : (0 : Int) < p := by omega
        simp [VL.runBody, VL.sSeq, VL.sIf, VL.sRet, VL.sSet, VL.sFrz, VL.frzSl, VL.sUnp, VL.RV.parts, VL.sFor, VL.sApp, VL.sPass, VL.putAt, VL.Ow.put, VL.eVar, VL.Sl.rv, VL.eK, VL.rD, VL.eUn, VL.eBin, VL.eCall, VL.evalAll, VL.RV.arg, VL.Res.bind, VL.RV.d, VL.Ow.toD, VL.tB, VL.tAnd, VL.tOr, VL.tNot, VL.tYes, VL.eAnd, VL.eOr, VL.fNot, VL.eIf, VL.eChain, VL.fNeg, VL.fIsN, VL.fNotN, VL.isN, VL.fIsI, VL.fIsIs, VL.inst, VL.setAll, VL.RV.ow, VL.owsOf, VL.eLst, VL.eTup, VL.iRow, VL.iRng1, VL.iRng2, VL.iEnum, VL.RV.iter, VL.slOf, VL.mul_r, VL.mul_l, VL.mod_s, VL.div_s, VL.add_s, VL.sub_s, VL.int_s, VL.lt_s, VL.le_s, VL.gt_s, VL.ge_s, VL.fEq_int, VL.fNe_int, this]
        omega
      refine ⟨_, .inl (if_t gt (seq_n (frz_d rfl (frz_I (P := D) rfl (set_v (bin_v (x := .val (.ls (oI [(p : Int)]))) rfl rfl (cat_I (isI_ls _) (isI_fz _) (by simp; omega)))))) (frz_d rfl (set_v (call_ok rfl (law_base_s (P := P) (d := p) (by omega) (by omega) hl)))))), [(p : Int)] ++ D, base P p, some (.own (.fz (.int (0 + (k : Nat))))), rfl, ?_, by omega, ?_⟩
      · rw [h1, chI_eq P (d := p) (by omega), List.append_assoc]
      · omega)
  rw [rangeS_len] at h3
  have p0 : p = 0 := by omega
  subst p0
  have : chI P m = D := by rw [h1]; rfl
  subst this
  refine run_ret _ ?_
  exact seq_n (set_v rfl) (seq_n (set_v rfl) (seq_n (for_n (rng1_s (n := P.length) (un_v rfl (len_I (isI_fz P))) (by omega) (by omega)) e) rfl))
/-! ### a next day reads -/
theorem lv_app (P : List Int) (L : Int) {d : Nat} (h1 : 1 ≤ d) (h : d ≤ P.length) : lv (P ++ [L]) d = lv P d := by
  unfold lv
  rw [List.getD_eq_getElem?_getD, List.getD_eq_getElem?_getD, List.getElem?_append_left (by omega)]
theorem lv_last (P : List Int) (L : Int) : lv (P ++ [L]) (P.length + 1) = L := by
  unfold lv
  rw [List.getD_eq_getElem?_getD, List.getElem?_append_right (by omega)]
  simp
theorem lv_appC (P C : List Int) {d : Nat} (h1 : 1 ≤ d) (h : d ≤ P.length) : lv (P ++ C) d = lv P d := by
  unfold lv
  rw [List.getD_eq_getElem?_getD, List.getD_eq_getElem?_getD, List.getElem?_append_left (by omega)]
/-- the future days -/
theorem mem_fut {P : List Int} (d : Nat) : (d : Int) ∈ fut P ↔ d ∈ chn P P.length ∧ lv P d < 7 := by
  unfold fut
  rw [List.mem_filter, mem_chI]
  constructor
  · rintro ⟨⟨e, h1, h2⟩, h3⟩
    obtain rfl : d = e := by omega
    refine ⟨h2, ?_⟩
    have := of_decide_eq_true h3
    rw [show ((d : Int) - 1).toNat = d - 1 by omega] at this
    exact this
  · rintro ⟨h1, h2⟩
    refine ⟨⟨d, rfl, h1⟩, decide_eq_true ?_⟩
    rw [show ((d : Int) - 1).toNat = d - 1 by omega]
    exact h2
theorem mem_next {P : List Int} {L : Int} {d : Nat} (hd : d ≤ P.length) : d ∈ chn (P ++ [L]) (P.length + 1) ↔ d ∈ chn P P.length ∧ lv P d < L := by
  rw [mem_chn, mem_chn]
  constructor
  · rintro ⟨h1, _, h3⟩
    have := h3 (P.length + 1) (by omega) (Nat.le_refl _)
    rw [lv_app P L h1 hd, lv_last] at this
    refine ⟨⟨h1, hd, fun e he1 he2 => ?_⟩, this⟩
    have := h3 e he1 (by omega)
    rw [lv_app P L h1 hd, lv_app P L (by omega) he2] at this
    exact this
  · rintro ⟨⟨h1, _, h3⟩, h4⟩
    refine ⟨h1, by omega, fun e he1 he2 => ?_⟩
    rw [lv_app P L h1 hd]
    by_cases q : e = P.length + 1
    · subst q; rw [lv_last]; exact h4
    · rw [lv_app P L (by omega) (by omega)]
      exact h3 e he1 (by omega)
theorem fut_asc (P : List Int) : Asc 1 P.length (fut P) := asc_filter (chI_asc P P.length) _
theorem law_future_s {P : List Int} (H : LevOk P) : φ__law_future [Lx P] = .ok (.ls (oI (fut P))) := by
  have l12 := H.h2
  obtain ⟨ρ', e, R, a, rfl, hR, hl⟩ := forL_n (tg := [2]) (b := w__law_future_0) (vs := rangeS 0 8) (fun k ρ => ∃ (R : List Int) (a : Option Sl), ρ = [some (Lx P), some (.own (.ls (oI R))), a, none] ∧ (∀ d : Nat, d ≤ P.length → ((d : Int) ∈ R ↔ ∃ L : Nat, L < k ∧ d ∈ chn (P ++ [(L : Int)]) (P.length + 1))) ∧ R.length ≤ 13 * k)
    (ρ := [some (Lx P), some (.own (.ls (oI []))), none, none]) ⟨[], none, rfl, fun d _ => ⟨fun h => (by cases h), fun ⟨_, h, _⟩ => (by omega)⟩, Nat.le_refl _⟩ (by
    rintro k v ρ hv ⟨R, a, rfl, hR, hl⟩
    obtain ⟨rfl, hk⟩ := rangeS_get hv
    have hk' : k < 8 := by omega
    rw [Int.zero_add]
    have e1 := law_chain_s (P := P ++ [(k : Int)]) (m := P.length + 1) (by simp) (by simp; omega)
    have cl := chI_len (P ++ [(k : Int)]) (P.length + 1)
    refine ⟨_, .inl (frz_I (P := R) rfl (set_v (bin_v rfl (call_ok (xs := [.val (.ls (oI (P ++ [(k : Int)]))), .val (.fz (.int ((P.length + 1 : Nat) : Int)))]) ?_ (φ := φ__law_chain) (ow := .ls (oI (chI (P ++ [(k : Int)]) (P.length + 1)))) ?_) (cat_I (isI_fz R) (isI_ls _) (by omega))))), R ++ chI (P ++ [(k : Int)]) (P.length + 1), some (.own (.fz (.int k))), rfl, ?_, ?_⟩
    · exact ev_cons (bin_v rfl rfl (cat_I (isI_fz P) (isI_ls [(k : Int)]) (by simp; omega))) (ev_cons (bin_v (un_v rfl (len_I (isI_fz P))) rfl (add_s _ _)) rfl)
    · show φ__law_chain [.own (.fz (Ow.ls (oI (P ++ [(k : Int)]))).toD), _] = _
      rw [oI_toD]; exact e1
    · intro d hd
      rw [List.mem_append, hR d hd, mem_chI]
      constructor
      · rintro (⟨L, h1, h2⟩ | ⟨d', h1, h2⟩)
        · exact ⟨L, by omega, h2⟩
        · obtain rfl : d = d' := by omega
          exact ⟨k, by omega, h2⟩
      · rintro ⟨L, h1, h2⟩
        by_cases q : L = k
        · subst q; exact .inr ⟨d, rfl, h2⟩
        · exact .inl ⟨L, by omega, h2⟩
    · rw [List.length_append]; omega)
  rw [rangeS_len] at hR hl
  have fin : (rgI 1 (P.length + 1)).filter (fun x => decide (x ∈ R)) = fut P := by
    refine asc_ext (asc_filter (asc_rgI _ _) _).1 (fut_asc P).1 fun x => ?_
    rw [List.mem_filter, mem_rgI]
    constructor
    · rintro ⟨hx, h⟩
      obtain ⟨d, rfl⟩ : ∃ d : Nat, x = d := ⟨x.toNat, by omega⟩
      obtain ⟨L, h1, h2⟩ := (hR d (by omega)).mp (of_decide_eq_true h)
      obtain ⟨h3, h4⟩ := (mem_next (by omega)).mp h2
      exact (mem_fut d).mpr ⟨h3, by omega⟩
    · intro h
      have hb := (fut_asc P).2 x h
      obtain ⟨d, rfl⟩ : ∃ d : Nat, x = d := ⟨x.toNat, by omega⟩
      obtain ⟨h1, h2⟩ := (mem_fut d).mp h
      exact ⟨by omega, decide_eq_true ((hR d (by omega)).mpr ⟨7, by decide, (mem_next (by omega)).mpr ⟨h1, h2⟩⟩)⟩
  refine run_ret _ ?_
  refine seq_n (set_v rfl) (seq_n (for_n (rng1_s (n := 8) rfl (by decide) (by decide)) e) (ret_v ?_))
  refine (comp_I (L := rgI 1 (P.length + 1)) (fun x => decide (x ∈ R)) (fun x => x) ((rng2_s (n := P.length + 1) rfl (bin_v (un_v rfl (len_I (isI_fz P))) rfl (add_s _ _)) (by decide) (by decide) (by omega) (by omega)).trans (by rw [rangeS_row])) (by rw [rgI_len]; omega) fun x hx => ⟨?_, fun _ => rfl⟩).trans ?_
  · have := in_I x (isI_ref 1 [] R)
    simp [VL.runBody, VL.sSeq, VL.sIf, VL.sRet, VL.sSet, VL.sFrz, VL.frzSl, VL.sUnp, VL.RV.parts, VL.sFor, VL.sApp, VL.sPass, VL.putAt, VL.Ow.put, VL.eVar, VL.Sl.rv, VL.eK, VL.rD, VL.eUn, VL.eBin, VL.eCall, VL.evalAll, VL.RV.arg, VL.Res.bind, VL.RV.d, VL.Ow.toD, VL.tB, VL.tAnd, VL.tOr, VL.tNot, VL.tYes, VL.eAnd, VL.eOr, VL.fNot, VL.eIf, VL.eChain, VL.fNeg, VL.fIsN, VL.fNotN, VL.isN, VL.fIsI, VL.fIsIs, VL.inst, VL.setAll, VL.RV.ow, VL.owsOf, VL.eLst, VL.eTup, VL.iRow, VL.iRng1, VL.iRng2, VL.iEnum, VL.RV.iter, VL.slOf, VL.mul_r, VL.mul_l, VL.mod_s, VL.div_s, VL.add_s, VL.sub_s, VL.int_s, VL.lt_s, VL.le_s, VL.gt_s, VL.ge_s, VL.fEq_int, VL.fNe_int, this]
  · rw [List.map_id', fin]
theorem are_numbers_s {s : Sl} {L : List Int} (hs : s = .bor (.list (dI L)) ∨ s = Lx L) (hl : L.length ≤ 1000) : φ__law_are_numbers [s, Lx L] = .ok (.fz (.bool true)) := by
  have e1 := len_I (isI_fz L)
  have num : ∀ x : Int, φ__law_is_number [.own (.fz (.int x))] = .ok (.fz (.bool true)) := fun x => by simp [φ__law_is_number, b__law_is_number, VL.runBody, VL.sSeq, VL.sIf, VL.sRet, VL.sSet, VL.sFrz, VL.frzSl, VL.sUnp, VL.RV.parts, VL.sFor, VL.sApp, VL.sPass, VL.putAt, VL.Ow.put, VL.eVar, VL.Sl.rv, VL.eK, VL.rD, VL.eUn, VL.eBin, VL.eCall, VL.evalAll, VL.RV.arg, VL.Res.bind, VL.RV.d, VL.Ow.toD, VL.tB, VL.tAnd, VL.tOr, VL.tNot, VL.tYes, VL.eAnd, VL.eOr, VL.fNot, VL.eIf, VL.eChain, VL.fNeg, VL.fIsN, VL.fNotN, VL.isN, VL.fIsI, VL.fIsIs, VL.inst, VL.setAll, VL.RV.ow, VL.owsOf, VL.eLst, VL.eTup, VL.iRow, VL.iRng1, VL.iRng2, VL.iEnum, VL.RV.iter, VL.slOf, VL.mul_r, VL.mul_l, VL.mod_s, VL.div_s, VL.add_s, VL.sub_s, VL.int_s, VL.lt_s, VL.le_s, VL.gt_s, VL.ge_s, VL.fEq_int, VL.fNe_int]
  obtain ⟨x0, ex, f0, f1⟩ : ∃ x0 : RV, (∀ ρ : Rho, ρ[0]? = some (some s) → eVar 0 ρ = .ok x0) ∧ x0.d = .list (dI L) ∧ ∀ (j : Nat) (x : Int), L[j]? = some x → fIx x0 (.val (.fz (.int j))) = .ok (.val (.fz (.int x))) := by
    rcases hs with rfl | rfl
    · refine ⟨.bor (.list (dI L)), fun ρ h => by simp [VL.runBody, VL.sSeq, VL.sIf, VL.sRet, VL.sSet, VL.sFrz, VL.frzSl, VL.sUnp, VL.RV.parts, VL.sFor, VL.sApp, VL.sPass, VL.putAt, VL.Ow.put, VL.eVar, VL.Sl.rv, VL.eK, VL.rD, VL.eUn, VL.eBin, VL.eCall, VL.evalAll, VL.RV.arg, VL.Res.bind, VL.RV.d, VL.Ow.toD, VL.tB, VL.tAnd, VL.tOr, VL.tNot, VL.tYes, VL.eAnd, VL.eOr, VL.fNot, VL.eIf, VL.eChain, VL.fNeg, VL.fIsN, VL.fNotN, VL.isN, VL.fIsI, VL.fIsIs, VL.inst, VL.setAll, VL.RV.ow, VL.owsOf, VL.eLst, VL.eTup, VL.iRow, VL.iRng1, VL.iRng2, VL.iEnum, VL.RV.iter, VL.slOf, VL.mul_r, VL.mul_l, VL.mod_s, VL.div_s, VL.add_s, VL.sub_s, VL.int_s, VL.lt_s, VL.le_s, VL.gt_s, VL.ge_s, VL.fEq_int, VL.fNe_int, VL.scal, h], rfl, fun j x hx => ?_⟩
      have hj := (List.getElem?_eq_some_iff.mp hx).1
      unfold fIx
      simp only [RV.d, Ow.toD, atI_nat (dI L) (Int.natCast_nonneg j) (by rw [dI_len]; omega), Int.toNat_natCast, dI_get, hx, Option.map_some]
      rfl
    · exact ⟨.val (.fz (.list (dI L))), fun ρ h => by simp [VL.runBody, VL.sSeq, VL.sIf, VL.sRet, VL.sSet, VL.sFrz, VL.frzSl, VL.sUnp, VL.RV.parts, VL.sFor, VL.sApp, VL.sPass, VL.putAt, VL.Ow.put, VL.eVar, VL.Sl.rv, VL.eK, VL.rD, VL.eUn, VL.eBin, VL.eCall, VL.evalAll, VL.RV.arg, VL.Res.bind, VL.RV.d, VL.Ow.toD, VL.tB, VL.tAnd, VL.tOr, VL.tNot, VL.tYes, VL.eAnd, VL.eOr, VL.fNot, VL.eIf, VL.eChain, VL.fNeg, VL.fIsN, VL.fNotN, VL.isN, VL.fIsI, VL.fIsIs, VL.inst, VL.setAll, VL.RV.ow, VL.owsOf, VL.eLst, VL.eTup, VL.iRow, VL.iRng1, VL.iRng2, VL.iEnum, VL.RV.iter, VL.slOf, VL.mul_r, VL.mul_l, VL.mod_s, VL.div_s, VL.add_s, VL.sub_s, VL.int_s, VL.lt_s, VL.le_s, VL.gt_s, VL.ge_s, VL.fEq_int, VL.fNe_int, h], rfl, fun j x hx => ix_I (by omega) (by rw [Int.toNat_natCast]; exact hx)⟩
  have e2 : fLen x0 = .ok (.val (.fz (.int L.length))) := by rw [len_ls f0, dI_len]
  obtain ⟨ρ', e, a, rfl⟩ := forL_n (tg := [2]) (b := w__law_are_numbers_0) (vs := rangeS 0 L.length) (fun _ ρ => ∃ a, ρ = [some s, some (Lx L), a]) (ρ := [some s, some (Lx L), none]) ⟨none, rfl⟩ (by
    rintro j v ρ hv ⟨a, rfl⟩
    obtain ⟨rfl, hj⟩ := rangeS_get hv
    rw [Int.zero_add]
    obtain ⟨x, hx, _⟩ := ixI (ns := L) (k := j) (by omega)
    have g1 := f1 j x hx
    have g2 : fIx (.val (.fz (.list (dI L)))) (.val (.fz (.int j))) = .ok (.val (.fz (.int x))) := ix_I (by omega) (by rw [Int.toNat_natCast]; exact hx)
    refine ⟨_, .inl (if_f (or_f ?_ ?_) rfl), some (.own (.fz (.int j))), rfl⟩
    · have : eCall φ__law_is_number [eBin fIx (eVar 0) (eVar 2)] (VL.setAll [2] [slOf (.int j)] [some s, some (Lx L), a]) = .ok (.val (.fz (.bool true))) := call_ok (ev_cons (bin_v (ex _ rfl) rfl g1) rfl) (num x)
      unfold VL.tNot VL.tB
      rw [this]; rfl
    · unfold VL.tB
      rw [bin_v (bin_v (ex _ rfl) rfl g1) (bin_v rfl rfl g2) (fNe_int x x)]
      simp [VL.Res.bind, RV.d, Ow.toD])
  refine run_ret _ ?_
  refine seq_n (if_f (or_f ?_ ?_) rfl) (seq_n (for_n (rng1_s (n := L.length) (un_v rfl e1) (by omega) (by omega)) e) rfl)
  · unfold VL.tNot VL.tB
    rw [un_v (ex _ rfl) (show fIsI .list x0 = .ok (.val (.fz (.bool true))) by unfold fIsI; rw [f0]; rfl)]
    rfl
  · unfold VL.tB
    rw [bin_v (un_v (ex _ rfl) e2) (un_v rfl e1) (fNe_int _ _)]
    simp [VL.Res.bind, RV.d, Ow.toD]
end K41

set_option Elab.async false
set_option linter.all false
set_option maxRecDepth 100000
set_option maxHeartbeats 4000000
namespace K41
open PySem VL
def szOf (T : List (List Int)) (k b : Nat) : Int := (T.getD k []).getD b 0
def cps (P : List Int) (T : List (List Int)) : List Cp := (List.range P.length).map fun k => ⟨base P (k + 1), (k : Int) + 1, szOf T k (base P (k + 1))⟩
theorem cps_len (P : List Int) (T : List (List Int)) : (cps P T).length = P.length := by unfold cps; simp
theorem cps_get {P : List Int} {T : List (List Int)} {k : Nat} (h : k < P.length) : (cps P T)[k]? = some ⟨base P (k + 1), (k : Int) + 1, szOf T k (base P (k + 1))⟩ := by unfold cps; rw [List.getElem?_map, List.getElem?_range h]; rfl
/-- a table of sizes for at least n days -/
structure TabOk (T : List (List Int)) : Prop where
  h1 : 1 ≤ T.length
  h2 : T.length ≤ 12
  hl : ∀ (k : Nat) Z, T[k]? = some Z → Z.length = k + 1
  hr : ∀ Z ∈ T, ∀ x ∈ Z, 0 ≤ x ∧ x ≤ 999
theorem TabOk.get {T : List (List Int)} (H : TabOk T) {k : Nat} (h : k < T.length) : ∃ Z, T[k]? = some Z ∧ Z.length = k + 1 ∧ (∀ x ∈ Z, 0 ≤ x ∧ x ≤ 999) ∧ ∀ b, szOf T k b = Z.getD b 0 := by
  have e : T[k]? = some T[k] := List.getElem?_eq_getElem h
  exact ⟨T[k], e, H.hl k _ e, H.hr _ (List.getElem_mem h), fun b => by
    have : T.getD k [] = T[k] := by rw [List.getD_eq_getElem?_getD, e]; rfl
    unfold szOf
    rw [this]⟩
theorem cps_ok {P : List Int} {T : List (List Int)} (H : TabOk T) (hT : P.length ≤ T.length) : ∀ c ∈ cps P T, CpOk P.length c := by
  intro c hc
  unfold cps at hc
  obtain ⟨k, hk, rfl⟩ := List.mem_map.mp hc
  have hk' := List.mem_range.mp hk
  have hb := base_lt P (d := k + 1) (by omega)
  obtain ⟨Z, z1, z2, z3, z4⟩ := H.get (k := k) (by omega)
  have zr : 0 ≤ szOf T k (base P (k + 1)) ∧ szOf T k (base P (k + 1)) ≤ 999 := by
    rw [z4]
    have := getD_ix (L := Z) (k := base P (k + 1)) (by omega)
    exact z3 _ (List.mem_of_getElem? this)
  exact ⟨by show (1 : Int) ≤ (k : Int) + 1; omega, by show (k : Int) + 1 ≤ P.length; omega, by show (0 : Int) ≤ (base P (k + 1) : Int); omega, by show (base P (k + 1) : Int) ≤ P.length; omega, by show (base P (k + 1) : Int) ≠ (k : Int) + 1; omega, zr.1, zr.2⟩
/-! ### the table, the house -/
theorem is_sizes_s {d : D} {Z : List Int} {n : Int} (h : rowOf d = some (dI Z)) (hn : (Z.length : Int) = n) (hr : ∀ x ∈ Z, 0 ≤ x ∧ x ≤ 999) : φ_is_sizes [.own (.fz d), .own (.fz (.int n))] = .ok (.fz (.bool true)) := by
  subst hn
  obtain ⟨ρ', e, a, rfl⟩ := forL_n (tg := [2]) (b := w_is_sizes_0) (vs := ((dI Z).map slOf).map fun s => [s]) (fun _ ρ => ∃ a, ρ = [some (.own (.fz d)), some (.own (.fz (.int Z.length))), a]) (ρ := [some (.own (.fz d)), some (.own (.fz (.int Z.length))), none]) ⟨none, rfl⟩ (by
    rintro k v ρ hv ⟨a, rfl⟩
    obtain ⟨x, hx, rfl⟩ := row_get hv
    rw [dI_get] at hx
    cases en : Z[k]? with
    | none => rw [en] at hx; cases hx
    | some n =>
      rw [en] at hx; cases hx
      have hn := hr n (List.mem_of_getElem? en)
      refine ⟨_, .inl (if_f ?_ rfl), some (.own (.fz (.int n))), rfl⟩
      simp [VL.runBody, VL.sSeq, VL.sIf, VL.sRet, VL.sSet, VL.sFrz, VL.frzSl, VL.sUnp, VL.RV.parts, VL.sFor, VL.sApp, VL.sPass, VL.putAt, VL.Ow.put, VL.eVar, VL.Sl.rv, VL.eK, VL.rD, VL.eUn, VL.eBin, VL.eCall, VL.evalAll, VL.RV.arg, VL.Res.bind, VL.RV.d, VL.Ow.toD, VL.tB, VL.tAnd, VL.tOr, VL.tNot, VL.tYes, VL.eAnd, VL.eOr, VL.fNot, VL.eIf, VL.eChain, VL.fNeg, VL.fIsN, VL.fNotN, VL.isN, VL.fIsI, VL.fIsIs, VL.inst, VL.setAll, VL.RV.ow, VL.owsOf, VL.eLst, VL.eTup, VL.iRow, VL.iRng1, VL.iRng2, VL.iEnum, VL.RV.iter, VL.slOf, VL.mul_r, VL.mul_l, VL.mod_s, VL.div_s, VL.add_s, VL.sub_s, VL.int_s, VL.lt_s, VL.le_s, VL.gt_s, VL.ge_s, VL.fEq_int, VL.fNe_int, is_number_s, hn])
  have e1 := len_s h
  rw [dI_len] at e1
  refine run_ret _ ?_
  refine seq_n (if_f ?_ rfl) (seq_n (for_n (row_s rfl h) e) rfl)
  simp [VL.runBody, VL.sSeq, VL.sIf, VL.sRet, VL.sSet, VL.sFrz, VL.frzSl, VL.sUnp, VL.RV.parts, VL.sFor, VL.sApp, VL.sPass, VL.putAt, VL.Ow.put, VL.eVar, VL.Sl.rv, VL.eK, VL.rD, VL.eUn, VL.eBin, VL.eCall, VL.evalAll, VL.RV.arg, VL.Res.bind, VL.RV.d, VL.Ow.toD, VL.tB, VL.tAnd, VL.tOr, VL.tNot, VL.tYes, VL.eAnd, VL.eOr, VL.fNot, VL.eIf, VL.eChain, VL.fNeg, VL.fIsN, VL.fNotN, VL.isN, VL.fIsI, VL.fIsIs, VL.inst, VL.setAll, VL.RV.ow, VL.owsOf, VL.eLst, VL.eTup, VL.iRow, VL.iRng1, VL.iRng2, VL.iEnum, VL.RV.iter, VL.slOf, VL.mul_r, VL.mul_l, VL.mod_s, VL.div_s, VL.add_s, VL.sub_s, VL.int_s, VL.lt_s, VL.le_s, VL.gt_s, VL.ge_s, VL.fEq_int, VL.fNe_int, is_row_s h, e1]
def lD (T : List (List Int)) : D := .list (T.map fun Z => .list (dI Z))
theorem lsO_D (T : List (List Int)) : (lsO (T.map dI)).toD = lD T := by rw [lsO_toD, List.map_map]; rfl
theorem check_weights_s {T : List (List Int)} (H : TabOk T) : φ_check_weights [.own (.fz (lD T))] = .ok (lsO (T.map dI)) := by
  obtain ⟨ρ', e, a, b, rfl⟩ := forL_n (tg := [1, 2]) (b := w_check_weights_0) (vs := enumS 0 ((T.map fun Z => .list (dI Z)).map slOf)) (fun _ ρ => ∃ a b, ρ = [some (.own (.fz (lD T))), a, b]) (ρ := [some (.own (.fz (lD T))), none, none]) ⟨none, none, rfl⟩ (by
    rintro k v ρ hv ⟨a, b, rfl⟩
    obtain ⟨x, hx, rfl⟩ := enum_get hv
    rw [List.getElem?_map] at hx
    cases en : T[k]? with
    | none => rw [en] at hx; cases hx
    | some Z =>
      rw [en] at hx; cases hx
      refine ⟨_, .inl (if_f ?_ rfl), some (.own (.fz (.int k))), some (.own (.fz (.list (dI Z)))), rfl⟩
      have := is_sizes_s (d := .list (dI Z)) (n := (k : Int) + 1) rfl (by rw [H.hl k Z en]; omega) (H.hr Z (List.mem_of_getElem? en))
      simp [VL.runBody, VL.sSeq, VL.sIf, VL.sRet, VL.sSet, VL.sFrz, VL.frzSl, VL.sUnp, VL.RV.parts, VL.sFor, VL.sApp, VL.sPass, VL.putAt, VL.Ow.put, VL.eVar, VL.Sl.rv, VL.eK, VL.rD, VL.eUn, VL.eBin, VL.eCall, VL.evalAll, VL.RV.arg, VL.Res.bind, VL.RV.d, VL.Ow.toD, VL.tB, VL.tAnd, VL.tOr, VL.tNot, VL.tYes, VL.eAnd, VL.eOr, VL.fNot, VL.eIf, VL.eChain, VL.fNeg, VL.fIsN, VL.fNotN, VL.isN, VL.fIsI, VL.fIsIs, VL.inst, VL.setAll, VL.RV.ow, VL.owsOf, VL.eLst, VL.eTup, VL.iRow, VL.iRng1, VL.iRng2, VL.iEnum, VL.RV.iter, VL.slOf, VL.mul_r, VL.mul_l, VL.mod_s, VL.div_s, VL.add_s, VL.sub_s, VL.int_s, VL.lt_s, VL.le_s, VL.gt_s, VL.ge_s, VL.fEq_int, VL.fNe_int, this])
  have e1 : fLen (.val (.fz (lD T))) = .ok (.val (.fz (.int T.length))) := by
    have := len_s (d := lD T) rfl
    rw [List.length_map] at this
    exact this
  have rw0 : φ_is_row [.own (.fz (lD T))] = .ok (.fz (.bool true)) := is_row_s (d := lD T) rfl
  have n0 : T ≠ [] := by intro z; have := H.h1; rw [z] at this; simp at this
  have n1 : ¬ (12 : Int) < T.length := by have := H.h2; omega
  refine run_ret _ ?_
  refine seq_n (if_f ?_ rfl) (seq_n (if_f ?_ rfl) (seq_n (for_n (enum_s rfl rfl) e) (ret_v (comp_v (row_s (ds := T.map fun Z => .list (dI Z)) rfl rfl) (by have := H.h2; simp; omega) (compL_pt _ _ (by simp) ?_)))))
  · simp [VL.runBody, VL.sSeq, VL.sIf, VL.sRet, VL.sSet, VL.sFrz, VL.frzSl, VL.sUnp, VL.RV.parts, VL.sFor, VL.sApp, VL.sPass, VL.putAt, VL.Ow.put, VL.eVar, VL.Sl.rv, VL.eK, VL.rD, VL.eUn, VL.eBin, VL.eCall, VL.evalAll, VL.RV.arg, VL.Res.bind, VL.RV.d, VL.Ow.toD, VL.tB, VL.tAnd, VL.tOr, VL.tNot, VL.tYes, VL.eAnd, VL.eOr, VL.fNot, VL.eIf, VL.eChain, VL.fNeg, VL.fIsN, VL.fNotN, VL.isN, VL.fIsI, VL.fIsIs, VL.inst, VL.setAll, VL.RV.ow, VL.owsOf, VL.eLst, VL.eTup, VL.iRow, VL.iRng1, VL.iRng2, VL.iEnum, VL.RV.iter, VL.slOf, VL.mul_r, VL.mul_l, VL.mod_s, VL.div_s, VL.add_s, VL.sub_s, VL.int_s, VL.lt_s, VL.le_s, VL.gt_s, VL.ge_s, VL.fEq_int, VL.fNe_int, rw0, e1, n0]
  · simp [VL.runBody, VL.sSeq, VL.sIf, VL.sRet, VL.sSet, VL.sFrz, VL.frzSl, VL.sUnp, VL.RV.parts, VL.sFor, VL.sApp, VL.sPass, VL.putAt, VL.Ow.put, VL.eVar, VL.Sl.rv, VL.eK, VL.rD, VL.eUn, VL.eBin, VL.eCall, VL.evalAll, VL.RV.arg, VL.Res.bind, VL.RV.d, VL.Ow.toD, VL.tB, VL.tAnd, VL.tOr, VL.tNot, VL.tYes, VL.eAnd, VL.eOr, VL.fNot, VL.eIf, VL.eChain, VL.fNeg, VL.fIsN, VL.fNotN, VL.isN, VL.fIsI, VL.fIsIs, VL.inst, VL.setAll, VL.RV.ow, VL.owsOf, VL.eLst, VL.eTup, VL.iRow, VL.iRng1, VL.iRng2, VL.iEnum, VL.RV.iter, VL.slOf, VL.mul_r, VL.mul_l, VL.mod_s, VL.div_s, VL.add_s, VL.sub_s, VL.int_s, VL.lt_s, VL.le_s, VL.gt_s, VL.ge_s, VL.fEq_int, VL.fNe_int, e1, n1]
  · intro k v o hv ho
    obtain ⟨x, hx, rfl⟩ := row_get hv
    rw [List.getElem?_map] at hx
    rw [List.getElem?_map, List.getElem?_map] at ho
    cases es : T[k]? with
    | none => rw [es] at hx; cases hx
    | some s =>
      rw [es] at hx ho
      cases hx; cases ho
      exact ⟨rfl, un_v rfl (list_s rfl)⟩
theorem check_plan_s {P : List Int} {T : List (List Int)} (H : TabOk T) (HP : LevOk P) (e : P.length = T.length) : φ_check_plan [.own (.fz (lD T)), Lx P] = .ok (.fz (.tuple [lD T, .list (dI P)])) := by
  refine run_ret _ ?_
  have l1 : fLen (.ref 1 [] (.ls (oI P))) = .ok (.val (.fz (.int P.length))) := len_I (isI_ref 1 [] P)
  have l0 : ∀ x : RV, x.d = lD T → fLen x = .ok (.val (.fz (.int P.length))) := fun x hx => by rw [len_ls (xs := T.map fun Z => .list (dI Z)) hx, List.length_map, e]
  refine seq_n (frz_d rfl (set_v (call_ok rfl (check_weights_s H)))) (seq_n (frz_d rfl (set_v (call_ok rfl (check_levels_s (d := .list (dI P)) rfl HP)))) (seq_n (if_f ?_ rfl) (frz_I (P := P) rfl ?_)))
  · unfold VL.tB
    rw [bin_v (un_v rfl l1) (un_v rfl (l0 (.ref 0 [] (lsO (T.map dI))) (lsO_D T))) (fNe_int _ _)]
    simp [VL.Res.bind, RV.d, Ow.toD]
  · refine frz_n ?_
    show sRet _ [some (.own (.fz (lsO (T.map dI)).toD)), some (Lx P)] = _
    rw [lsO_D]
    rfl
def cpO (cs : List Cp) : List Ow := cs.map fun c => .fz (.tuple (cI c))
theorem cpO_is (cs : List Cp) : cpO cs = (cpD cs).map Ow.fz := by unfold cpO cpD; rw [List.map_map]; rfl
theorem cpO_toD (cs : List Cp) : toDs (cpO cs) = cpD cs := by rw [cpO_is, toDs_fz]
theorem ixT {T : List (List Int)} {k : Nat} {Z : List Int} (h : T[k]? = some Z) : fIx (.val (.fz (lD T))) (.val (.fz (.int k))) = .ok (.val (.fz (.list (dI Z)))) := fIx_row' rfl (by rw [List.getElem?_map, h]; rfl)
theorem level_house_s {P : List Int} {T : List (List Int)} (H : TabOk T) (HP : LevOk P) (e : P.length = T.length) (h10 : P.length ≤ 10) : φ_level_house [.own (.fz (lD T)), Lx P] = .ok (.tp [.fz (.int P.length), .ls (cpO (cps P T))]) := by
  have lb : (bsL P P.length).length = P.length := bsL_len P _
  obtain ⟨ρ', e1, a, b, rfl⟩ := forL_n (tg := [3, 4]) (b := w_level_house_0) (vs := enumS 0 ((dI (bsL P P.length)).map slOf)) (fun k ρ => ∃ a b, ρ = [some (.own (.fz (lD T))), some (Lx P), some (.own (.ls (cpO ((cps P T).take k)))), a, b])
    (ρ := [some (.own (.fz (lD T))), some (Lx P), some (.own (.ls [])), none, none]) ⟨none, none, rfl⟩ (by
    rintro k v ρ hv ⟨a, b, rfl⟩
    obtain ⟨x, hx, rfl⟩ := enum_get hv
    rw [dI_get] at hx
    have hk : k < P.length := by
      rcases Nat.lt_or_ge k P.length with q | q
      · exact q
      · rw [List.getElem?_eq_none (by rw [lb]; exact q)] at hx; cases hx
    rw [bsL_get hk] at hx
    cases hx
    have hb := base_lt P (d := k + 1) (by omega)
    obtain ⟨Z, z1, z2, z3, z4⟩ := H.get (k := k) (by omega)
    have i2 : fIx (.val (.fz (.list (dI Z)))) (.val (.fz (.int (base P (k + 1))))) = .ok (.val (.fz (.int (szOf T k (base P (k + 1)))))) := by
      rw [z4]; exact ix_I (by omega) (by rw [Int.toNat_natCast]; exact getD_ix (by omega))
    refine ⟨_, .inl (app_s (xs := cpO ((cps P T).take k)) (ow := .fz (.tuple (cI ⟨base P (k + 1), (k : Int) + 1, szOf T k (base P (k + 1))⟩))) rfl ?_ rfl ?_), some (.own (.fz (.int k))), some (.own (.fz (.int (base P (k + 1))))), ?_⟩
    · show Res.bind (VL.evalAll _ _) _ = _
      rw [ev_cons (x := .val (.fz (.int (base P (k + 1))))) rfl (ev_cons (bin_v rfl rfl (add_s _ _)) (ev_cons (bin_v (bin_v rfl rfl (ixT z1)) rfl i2) rfl))]
      rfl
    · unfold cpO; rw [List.length_map, List.length_take, cps_len]; omega
    · rw [take_succ (cps_get hk)]
      unfold cpO
      rw [List.map_append]
      rfl)
  refine run_ret _ ?_
  have l1 : fLen (.val (.fz (.list (dI P)))) = .ok (.val (.fz (.int P.length))) := len_I (isI_fz P)
  refine seq_n (frz_d rfl (frz_d rfl (unp_s (ds := [lD T, .list (dI P)]) (call_ok rfl (check_plan_s H HP e)) rfl rfl))) (seq_n (if_f ?_ rfl) (seq_n (set_v rfl) (seq_n (frz_d rfl (for_n ?_ e1)) ?_)))
  · have : ¬ (10 : Int) < P.length := by omega
    simp [VL.runBody, VL.sSeq, VL.sIf, VL.sRet, VL.sSet, VL.sFrz, VL.frzSl, VL.sUnp, VL.RV.parts, VL.sFor, VL.sApp, VL.sPass, VL.putAt, VL.Ow.put, VL.eVar, VL.Sl.rv, VL.eK, VL.rD, VL.eUn, VL.eBin, VL.eCall, VL.evalAll, VL.RV.arg, VL.Res.bind, VL.RV.d, VL.Ow.toD, VL.tB, VL.tAnd, VL.tOr, VL.tNot, VL.tYes, VL.eAnd, VL.eOr, VL.fNot, VL.eIf, VL.eChain, VL.fNeg, VL.fIsN, VL.fNotN, VL.isN, VL.fIsI, VL.fIsIs, VL.inst, VL.setAll, VL.RV.ow, VL.owsOf, VL.eLst, VL.eTup, VL.iRow, VL.iRng1, VL.iRng2, VL.iEnum, VL.RV.iter, VL.slOf, VL.mul_r, VL.mul_l, VL.mod_s, VL.div_s, VL.add_s, VL.sub_s, VL.int_s, VL.lt_s, VL.le_s, VL.gt_s, VL.ge_s, VL.fEq_int, VL.fNe_int, l1, this]
  · unfold iEnum
    rw [call_ok (xs := [.val (.fz (.list (dI P)))]) rfl (base_list_s (P := P) (by omega))]
    show (match (RV.val (.ls (oI (bsL P P.length)))).iter with | some ss => Res.ok (enumS 0 ss) | none => .stuck) = _
    have : (RV.val (.ls (oI (bsL P P.length)))).iter = some ((dI (bsL P P.length)).map slOf) := by
      show (match rowOf (.list (toDs (oI (bsL P P.length)))) with | some ds => some (ds.map slOf) | none => none) = _
      rw [toDs_oI]; rfl
    rw [this]
  · rw [enumS_len, List.length_map, dI_len, lb]
    rw [show (cps P T).take P.length = cps P T by rw [← cps_len P T]; exact List.take_length]
    unfold sRetM
    have : evalM [.ev (eUn fLen (eVar 1)), .mv 2] [some (.own (.fz (lD T))), some (Lx P), some (.own (.ls (cpO (cps P T)))), a, b] = .ok [.fz (.int P.length), .ls (cpO (cps P T))] := by
      unfold evalM
      rw [un_v rfl l1]
      rfl
    rw [this]
    rfl
theorem law_house_s {P : List Int} {T : List (List Int)} (H : TabOk T) (hP : P.length ≤ T.length) : φ__law_house [Lx P, .own (.fz (lD T))] = .ok (.fz (.tuple [.int P.length, .list (cpD (cps P T))])) := by
  have t12 := H.h2
  obtain ⟨ρ', e1, a, b, rfl⟩ := forL_n (tg := [3]) (b := w__law_house_0) (vs := rangeS 1 (P.length + 1)) (fun k ρ => ∃ a b, ρ = [some (Lx P), some (.own (.fz (lD T))), some (.own (.ls (cpO ((cps P T).take k)))), a, b])
    (ρ := [some (Lx P), some (.own (.fz (lD T))), some (.own (.ls [])), none, none]) ⟨none, none, rfl⟩ (by
    rintro k v ρ hv ⟨a, b, rfl⟩
    obtain ⟨rfl, hk'⟩ := rangeS_get hv
    have hk : k < P.length := by omega
    have hb := base_lt P (d := k + 1) (by omega)
    obtain ⟨Z, z1, z2, z3, z4⟩ := H.get (k := k) (by omega)
    have i1 : fIx (.val (.fz (lD T))) (.val (.fz (.int (1 + (k : Int) - 1)))) = .ok (.val (.fz (.list (dI Z)))) := by rw [show (1 + (k : Int) - 1) = k by omega]; exact ixT z1
    have i2 : fIx (.val (.fz (.list (dI Z)))) (.val (.fz (.int (base P (k + 1))))) = .ok (.val (.fz (.int (szOf T k (base P (k + 1)))))) := by
      rw [z4]; exact ix_I (by omega) (by rw [Int.toNat_natCast]; exact getD_ix (by omega))
    have lbs := law_base_s (P := P) (d := k + 1) (by omega) (by omega) (by omega)
    rw [show (((k + 1 : Nat)) : Int) = 1 + (k : Int) by omega] at lbs
    refine ⟨_, .inl (seq_n (set_v (call_ok rfl lbs)) (frz_d rfl (app_s (xs := cpO ((cps P T).take k)) (ow := .fz (.tuple (cI ⟨base P (k + 1), (k : Int) + 1, szOf T k (base P (k + 1))⟩))) rfl ?_ rfl ?_))), some (.own (.fz (.int (1 + (k : Nat))))), some (.own (.fz (.int (base P (k + 1))))), ?_⟩
    · show Res.bind (VL.evalAll _ _) _ = _
      rw [ev_cons (x := .val (.fz (.int (base P (k + 1))))) rfl (ev_cons (x := .val (.fz (.int (1 + (k : Nat))))) rfl (ev_cons (bin_v (bin_v rfl (bin_v rfl rfl (sub_s _ _)) i1) rfl i2) rfl))]
      rw [show (1 + (k : Nat) : Int) = (k : Int) + 1 by omega]
      rfl
    · unfold cpO; rw [List.length_map, List.length_take, cps_len]; omega
    · rw [take_succ (cps_get hk)]
      unfold cpO
      rw [List.map_append]
      rfl)
  rw [rangeS_len, show ((P.length : Int) + 1 - 1).toNat = P.length by omega, show (cps P T).take P.length = cps P T by rw [← cps_len P T]; exact List.take_length] at e1
  refine run_ret _ ?_
  refine seq_n (set_v rfl) (seq_n (for_n (rng2_s (n := P.length + 1) rfl (bin_v (un_v rfl (len_I (isI_fz P))) rfl (add_s _ _)) (by decide) (by decide) (by omega) (by omega)) e1) (frz_n ?_))
  show sRet _ [some (Lx P), some (.own (.fz (lD T))), some (.own (.fz (.list (toDs (cpO (cps P T)))))), a, b] = _
  rw [cpO_toD]
  refine ret_v ?_
  show Res.bind (VL.evalAll _ _) _ = _
  rw [ev_cons (x := .val (.fz (.int P.length))) (un_v rfl (len_I (isI_fz P))) rfl]
  rfl
theorem is_house_s {n : Nat} {cs : List Cp} {s : Sl} (hs : s = .bor (.tuple [.int n, .list (cpD cs)]) ∨ s = .own (.fz (.tuple [.int n, .list (cpD cs)]))) (hl : cs.length ≤ 100) : φ__law_is_house [s, .own (.fz (.tuple [.int n, .list (cpD cs)]))] = .ok (.fz (.bool true)) := by
  have lc : (cpD cs).length = cs.length := by unfold cpD; rw [List.length_map]
  have gc : ∀ (k : Nat) c, cs[k]? = some c → (cpD cs)[k]? = some (.tuple (cI c)) := fun k c h => by unfold cpD; rw [List.getElem?_map, h]; rfl
  have num : ∀ x : Int, φ__law_is_number [.own (.fz (.int x))] = .ok (.fz (.bool true)) := fun x => by simp [φ__law_is_number, b__law_is_number, VL.runBody, VL.sSeq, VL.sIf, VL.sRet, VL.sSet, VL.sFrz, VL.frzSl, VL.sUnp, VL.RV.parts, VL.sFor, VL.sApp, VL.sPass, VL.putAt, VL.Ow.put, VL.eVar, VL.Sl.rv, VL.eK, VL.rD, VL.eUn, VL.eBin, VL.eCall, VL.evalAll, VL.RV.arg, VL.Res.bind, VL.RV.d, VL.Ow.toD, VL.tB, VL.tAnd, VL.tOr, VL.tNot, VL.tYes, VL.eAnd, VL.eOr, VL.fNot, VL.eIf, VL.eChain, VL.fNeg, VL.fIsN, VL.fNotN, VL.isN, VL.fIsI, VL.fIsIs, VL.inst, VL.setAll, VL.RV.ow, VL.owsOf, VL.eLst, VL.eTup, VL.iRow, VL.iRng1, VL.iRng2, VL.iEnum, VL.RV.iter, VL.slOf, VL.mul_r, VL.mul_l, VL.mod_s, VL.div_s, VL.add_s, VL.sub_s, VL.int_s, VL.lt_s, VL.le_s, VL.gt_s, VL.ge_s, VL.fEq_int, VL.fNe_int]
  have u1 : fIx (.val (.fz (.tuple [.int n, .list (cpD cs)]))) (.val (.fz (.int 1))) = .ok (.val (.fz (.list (cpD cs)))) := fIx_row rfl (by decide) rfl
  have u0 : fIx (.val (.fz (.tuple [.int n, .list (cpD cs)]))) (.val (.fz (.int 0))) = .ok (.val (.fz (.int n))) := fIx_row rfl (by decide) rfl
  have uk : ∀ (k : Nat) c, cs[k]? = some c → fIx (.val (.fz (.list (cpD cs)))) (.val (.fz (.int k))) = .ok (.val (.fz (.tuple (cI c)))) := fun k c h => fIx_row' rfl (gc k c h)
  have ul : fLen (.val (.fz (.list (cpD cs)))) = .ok (.val (.fz (.int cs.length))) := by have := len_s (d := .list (cpD cs)) rfl; rw [lc] at this; exact this
  obtain ⟨x0, x1, ex, d0, d1, t1, t0, tk⟩ : ∃ x0 x1 : RV, (∀ ρ : Rho, ρ[0]? = some (some s) → eVar 0 ρ = .ok x0) ∧ x0.d = .tuple [.int n, .list (cpD cs)] ∧ x1.d = .list (cpD cs) ∧ fIx x0 (.val (.fz (.int 1))) = .ok x1 ∧ fIx x0 (.val (.fz (.int 0))) = .ok (.val (.fz (.int n))) ∧
      ∀ (k : Nat) c, cs[k]? = some c → ∃ y : RV, fIx x1 (.val (.fz (.int k))) = .ok y ∧ (y = .bor (.tuple (cI c)) ∨ y = .val (.fz (.tuple (cI c)))) := by
    rcases hs with rfl | rfl
    · refine ⟨.bor (.tuple [.int n, .list (cpD cs)]), .bor (.list (cpD cs)), fun ρ h => by simp [VL.runBody, VL.sSeq, VL.sIf, VL.sRet, VL.sSet, VL.sFrz, VL.frzSl, VL.sUnp, VL.RV.parts, VL.sFor, VL.sApp, VL.sPass, VL.putAt, VL.Ow.put, VL.eVar, VL.Sl.rv, VL.eK, VL.rD, VL.eUn, VL.eBin, VL.eCall, VL.evalAll, VL.RV.arg, VL.Res.bind, VL.RV.d, VL.Ow.toD, VL.tB, VL.tAnd, VL.tOr, VL.tNot, VL.tYes, VL.eAnd, VL.eOr, VL.fNot, VL.eIf, VL.eChain, VL.fNeg, VL.fIsN, VL.fNotN, VL.isN, VL.fIsI, VL.fIsIs, VL.inst, VL.setAll, VL.RV.ow, VL.owsOf, VL.eLst, VL.eTup, VL.iRow, VL.iRng1, VL.iRng2, VL.iEnum, VL.RV.iter, VL.slOf, VL.mul_r, VL.mul_l, VL.mod_s, VL.div_s, VL.add_s, VL.sub_s, VL.int_s, VL.lt_s, VL.le_s, VL.gt_s, VL.ge_s, VL.fEq_int, VL.fNe_int, VL.scal, h], rfl, rfl, rfl, rfl, fun k c h => ⟨.bor (.tuple (cI c)), ?_, .inl rfl⟩⟩
      have hk := (List.getElem?_eq_some_iff.mp h).1
      unfold fIx
      simp only [RV.d, Ow.toD, atI_nat (cpD cs) (Int.natCast_nonneg k) (by rw [lc]; omega), Int.toNat_natCast, gc k c h]
      rfl
    · exact ⟨.val (.fz (.tuple [.int n, .list (cpD cs)])), .val (.fz (.list (cpD cs))), fun ρ h => by simp [VL.runBody, VL.sSeq, VL.sIf, VL.sRet, VL.sSet, VL.sFrz, VL.frzSl, VL.sUnp, VL.RV.parts, VL.sFor, VL.sApp, VL.sPass, VL.putAt, VL.Ow.put, VL.eVar, VL.Sl.rv, VL.eK, VL.rD, VL.eUn, VL.eBin, VL.eCall, VL.evalAll, VL.RV.arg, VL.Res.bind, VL.RV.d, VL.Ow.toD, VL.tB, VL.tAnd, VL.tOr, VL.tNot, VL.tYes, VL.eAnd, VL.eOr, VL.fNot, VL.eIf, VL.eChain, VL.fNeg, VL.fIsN, VL.fNotN, VL.isN, VL.fIsI, VL.fIsIs, VL.inst, VL.setAll, VL.RV.ow, VL.owsOf, VL.eLst, VL.eTup, VL.iRow, VL.iRng1, VL.iRng2, VL.iEnum, VL.RV.iter, VL.slOf, VL.mul_r, VL.mul_l, VL.mod_s, VL.div_s, VL.add_s, VL.sub_s, VL.int_s, VL.lt_s, VL.le_s, VL.gt_s, VL.ge_s, VL.fEq_int, VL.fNe_int, h], rfl, rfl, u1, u0, fun k c h => ⟨_, uk k c h, .inr rfl⟩⟩
  have l0 : fLen x0 = .ok (.val (.fz (.int 2))) := by unfold fLen; rw [d0]; rfl
  have l1 : fLen x1 = .ok (.val (.fz (.int cs.length))) := by rw [len_ls d1, lc]
  obtain ⟨ρ', e, a, b, rfl⟩ := forL_n (tg := [2]) (b := w__law_is_house_0) (vs := rangeS 0 cs.length) (fun _ ρ => ∃ a b, ρ = [some s, some (.own (.fz (.tuple [.int n, .list (cpD cs)]))), a, b]) (ρ := [some s, some (.own (.fz (.tuple [.int n, .list (cpD cs)]))), none, none]) ⟨none, none, rfl⟩ (by
    rintro k v ρ hv ⟨a, b, rfl⟩
    obtain ⟨rfl, hk⟩ := rangeS_get hv
    rw [Int.zero_add]
    have ec : cs[k]? = some (cs[k]'(by omega)) := List.getElem?_eq_getElem (by omega)
    generalize cs[k]'(by omega) = c at ec
    obtain ⟨y, y1, y2⟩ := tk k c ec
    have an : φ__law_are_numbers [.own (.fz (.list (toDs (oI [c.b, c.d, c.s])))), .own (.fz (.list (toDs (oI [c.b, c.d, c.s]))))] = .ok (.fz (.bool true)) := by rw [toDs_oI]; exact are_numbers_s (.inr rfl) (by simp)
    have lu : fList (.val (.fz (.tuple (cI c)))) = .ok (.val (.ls (oI [c.b, c.d, c.s]))) := by rw [list_s (ds := cI c) rfl]; rfl
    rcases y2 with rfl | rfl
    · refine ⟨_, .inl (seq_n (ρ' := [some s, some (.own (.fz (.tuple [.int n, .list (cpD cs)]))), some (.own (.fz (.int k))), some (.bor (.tuple (cI c)))]) ?_ (frz_n (if_f (or_f ?_ ?_) rfl))), some (.own (.fz (.int k))), some (.bor (.tuple (cI c))), rfl⟩
      · unfold sSet
        rw [bin_v (bin_v (ex _ rfl) rfl t1) rfl y1]
        rfl
      · rfl
      · have q : eCall φ__law_are_numbers [eUn fList (eVar 3), eUn fList (eBin fIx (eBin fIx (eVar 1) (eK (.int 1))) (eVar 2))] [some s, some (.own (.fz (.tuple [.int n, .list (cpD cs)]))), some (.own (.fz (.int k))), some (.bor (.tuple (cI c)))] = .ok (.val (.fz (.bool true))) :=
          call_ok (ev_cons (x := .val (.ls (oI [c.b, c.d, c.s]))) rfl (ev_cons (un_v (bin_v (bin_v rfl rfl u1) rfl (uk k c ec)) lu) rfl)) an
        show VL.tNot _ [some s, some (.own (.fz (.tuple [.int n, .list (cpD cs)]))), some (.own (.fz (.int k))), some (.bor (.tuple (cI c)))] = _
        unfold VL.tNot VL.tB
        rw [q]; rfl
    · refine ⟨_, .inl (seq_n (ρ' := [some s, some (.own (.fz (.tuple [.int n, .list (cpD cs)]))), some (.own (.fz (.int k))), some (.own (.fz (.tuple (cI c))))]) ?_ (frz_n (if_f (or_f ?_ ?_) rfl))), some (.own (.fz (.int k))), some (.own (.fz (.tuple (cI c)))), rfl⟩
      · unfold sSet
        rw [bin_v (bin_v (ex _ rfl) rfl t1) rfl y1]
        rfl
      · rfl
      · have q : eCall φ__law_are_numbers [eUn fList (eVar 3), eUn fList (eBin fIx (eBin fIx (eVar 1) (eK (.int 1))) (eVar 2))] [some s, some (.own (.fz (.tuple [.int n, .list (cpD cs)]))), some (.own (.fz (.int k))), some (.own (.fz (.tuple (cI c))))] = .ok (.val (.fz (.bool true))) :=
          call_ok (ev_cons (un_v rfl lu) (ev_cons (un_v (bin_v (bin_v rfl rfl u1) rfl (uk k c ec)) lu) rfl)) an
        show VL.tNot _ [some s, some (.own (.fz (.tuple [.int n, .list (cpD cs)]))), some (.own (.fz (.int k))), some (.own (.fz (.tuple (cI c))))] = _
        unfold VL.tNot VL.tB
        rw [q]; rfl)
  have boolT : ∀ (f : EC) (ρ : Rho), f ρ = .ok (.val (.fz (.bool true))) → VL.tNot (VL.tB f) ρ = .ok false := fun f ρ h => by unfold VL.tNot VL.tB; rw [h]; rfl
  have neF : ∀ (f g : EC) (ρ : Rho) (i : Int), f ρ = .ok (.val (.fz (.int i))) → g ρ = .ok (.val (.fz (.int i))) → VL.tB (eBin fNe f g) ρ = .ok false := fun f g ρ i h h' => by
    unfold VL.tB
    rw [bin_v h h' (fNe_int i i)]
    simp [VL.Res.bind, RV.d, Ow.toD]
  refine run_ret _ ?_
  refine seq_n (if_f (or_f (boolT _ _ (un_v (ex _ rfl) (by unfold fIsI; rw [d0]; rfl))) (or_f (neF _ _ _ 2 (un_v (ex _ rfl) l0) rfl) (boolT _ _ (un_v (bin_v (ex _ rfl) rfl t1) (by unfold fIsI; rw [d1]; rfl))))) rfl) ?_
  refine seq_n (if_f (or_f (boolT _ _ (call_ok (ev_cons (bin_v (ex _ rfl) rfl t0) rfl) (num n))) (or_f (neF _ _ _ n (bin_v (ex _ rfl) rfl t0) (bin_v rfl rfl u0)) (neF _ _ _ cs.length (un_v (bin_v (ex _ rfl) rfl t1) l1) (un_v (bin_v rfl rfl u1) ul)))) rfl) ?_
  exact seq_n (for_n (rng1_s (n := cs.length) (un_v (bin_v rfl rfl u1) ul) (by omega) (by omega)) e) rfl
end K41

set_option Elab.async false
set_option linter.all false
set_option maxRecDepth 100000
set_option maxHeartbeats 4000000
namespace K41
open PySem VL
theorem restorable_s {m : Nat} {cs kcs : List Cp} {kept : List Int} (hk : ∀ c ∈ cs, CpOk m c) (h1 : 1 ≤ m) (h2 : m ≤ 10) (hl : cs.length = m) (ha : Asc 0 (m - 1) kept) (hkc : kept.map (fun i => cs[i.toNat]?) = kcs.map some) :
    φ_restorable [.own (.fz (.tuple [.int m, .list (cpD cs)])), Lx kept] = .ok (.ls (oI (sortI (iterG kcs m [])))) := by
  have kin : ∀ x ∈ kept, 0 ≤ x ∧ x < cs.length := fun x hx => by have := ha.2 x hx; omega
  have kl : kept.length ≤ 10 := by
    have := len_le_of_nodup (m := rgI 0 cs.length) ha.nodup fun x hx => mem_rgI.mpr (kin x hx)
    rw [rgI_len] at this; omega
  have kcok : ∀ c ∈ kcs, CpOk m c := by
    intro c hc'
    have : some c ∈ kcs.map some := List.mem_map.mpr ⟨c, hc', rfl⟩
    rw [← hkc] at this
    obtain ⟨i, _, e⟩ := List.mem_map.mp this
    exact hk c (List.mem_of_getElem? e)
  have chs := check_house_s (days := m) (hd := .tuple [.int m, .list (cpD cs)]) (cd := .list (cpD cs)) (cds := cpD cs) (cs := cs) rfl rfl (by unfold Rows cpD; rw [List.map_map, List.map_map]; rfl) hk (by omega) (by omega) (by omega)
  have ck := check_kept_row (d := .list (dI kept)) (n := cs.length) rfl (by rw [hl]; exact ha)
  have cl : fLen (.val (.fz (.list (cpD cs)))) = .ok (.val (.fz (.int cs.length))) := by
    have := len_s (d := .list (cpD cs)) rfl
    unfold cpD at this
    rw [List.length_map] at this
    exact this
  have dof : φ_days_of [.own (.fz (.list (cpD cs))), Lx kept] = .ok (.ls (oI (sortI (iterG kcs m [])))) := by
    have e3 : eComp [2] (VL.iRow (eVar 1)) VL.tYes (eBin fIx (eVar 0) (eVar 2)) [some (.own (.fz (.list (cpD cs)))), some (Lx kept), none] = .ok (.val (.ls (cpO kcs))) := by
      have l2 : kept.length = kcs.length := by have := congrArg List.length hkc; simpa using this
      refine comp_v (row_s rfl rfl) (by simp [dI_len]; omega) (compL_pt _ _ (by simp [dI_len, l2, cpO]) ?_)
      intro k v o hv ho
      obtain ⟨x, hx, rfl⟩ := row_get hv
      rw [dI_get] at hx
      unfold cpO at ho
      rw [List.getElem?_map] at ho
      cases en : kept[k]? with
      | none => rw [en] at hx; cases hx
      | some i =>
        rw [en] at hx; cases hx
        have := congrArg (fun l => l[k]?) hkc
        simp only [List.getElem?_map, en, Option.map_some] at this
        cases ec : kcs[k]? with
        | none => rw [ec] at ho; cases ho
        | some c =>
          rw [ec] at ho this; cases ho
          simp only [Option.map_some, Option.some.injEq] at this
          refine ⟨rfl, bin_v rfl rfl (fIx_row (ds := cpD cs) rfl (kin i (List.mem_of_getElem? en)).1 ?_)⟩
          unfold cpD
          rw [List.getElem?_map, this]; rfl
    refine run_ret _ ?_
    refine ret_v (call_ok (xs := [.val (.ls (cpO kcs)), .val (.ls [])]) (ev_cons e3 rfl) (given_days_s (days := m) (s := []) kcok (by omega) ?_ rfl (Asc.nil _ _)))
    show some (toDs (cpO kcs)) = _
    rw [cpO_toD]; rfl
  refine run_ret _ ?_
  refine seq_n (set_v (bin_v (call_ok rfl chs) rfl (fIx_row (d := .tuple [.int m, .list (cs.map fun c => .tuple (cI c))]) (e := .list (cpD cs)) rfl (by decide) rfl))) (frz_d rfl (ret_v (call_ok (xs := [.val (.fz (.list (cpD cs))), .val (.ls (oI kept))]) (ev_cons rfl (ev_cons (call_ok (ev_cons rfl (ev_cons (un_v rfl cl) rfl)) ck) rfl)) ?_)))
  show φ_days_of [_, .own (.fz (Ow.ls (oI kept)).toD)] = _
  rw [oI_toD]; exact dof
def rest (W : List Int) (kept : List Int) : List Int := (rgI 1 (W.length + 1)).filter fun x => (chI W x.toNat).all fun r => decide (r - 1 ∈ kept)
theorem law_restored_s {W kept : List Int} (hW : W.length ≤ 12) : φ__law_restored [Lx W, Lx kept] = .ok (.ls (oI (rest W kept))) := by
  obtain ⟨ρ', e, a, b, rfl⟩ := forL_n (tg := [3]) (b := w__law_restored_0) (vs := rangeS 1 (W.length + 1)) (fun k ρ => ∃ a b, ρ = [some (Lx W), some (Lx kept), some (.own (.ls (oI (((rgI 1 (W.length + 1)).take k).filter fun x => (chI W x.toNat).all fun r => decide (r - 1 ∈ kept))))), a, b, none])
    (ρ := [some (Lx W), some (Lx kept), some (.own (.ls (oI []))), none, none, none]) ⟨none, none, rfl⟩ (by
    rintro k v ρ hv ⟨a, b, rfl⟩
    obtain ⟨rfl, hk'⟩ := rangeS_get hv
    have hk : k < W.length := by omega
    have lcs := law_chain_s (P := W) (m := k + 1) (by omega) (by omega)
    rw [show (((k + 1 : Nat)) : Int) = 1 + (k : Int) by omega] at lcs
    have cl := chI_len W (k + 1)
    have gk : (rgI 1 (W.length + 1))[k]? = some (1 + (k : Int)) := by
      unfold rgI
      rw [List.getElem?_map, List.getElem?_range (by omega)]; rfl
    have tl : (((rgI 1 (W.length + 1)).take k).filter fun x => (chI W x.toNat).all fun r => decide (r - 1 ∈ kept)).length ≤ 100 := by
      refine Nat.le_trans (List.length_filter_le _ _) ?_
      rw [List.length_take]; omega
    rw [take_succ gk, List.filter_append]
    generalize hX : (((rgI 1 (W.length + 1)).take k).filter fun x => (chI W x.toNat).all fun r => decide (r - 1 ∈ kept)) = X at tl
    have cmp : eComp [5] (VL.iRow (eCall φ__law_chain [(eVar 0), (eVar 3)])) (VL.tB (eBin fNotIn (eBin fSub (eVar 5) (eK (.int 1))) (eVar 1))) (eVar 5) (VL.setAll [3] [slOf (.int (1 + (k : Nat)))] [some (Lx W), some (Lx kept), some (.own (.ls (oI X))), a, b, none]) = .ok (.val (.ls (oI ((chI W (k + 1)).filter fun r => !decide (r - 1 ∈ kept))))) := by
      refine (comp_I (L := chI W (k + 1)) (fun r => !decide (r - 1 ∈ kept)) (fun x => x) (row_I (call_ok (xs := [.val (.fz (.list (dI W))), .val (.fz (.int (1 + (k : Nat))))]) rfl lcs) (.inr rfl)) (by omega) fun x hx => ⟨?_, fun _ => rfl⟩).trans ?_
      · have := notIn_I (x - 1) (isI_fz kept)
        simp [VL.runBody, VL.sSeq, VL.sIf, VL.sRet, VL.sSet, VL.sFrz, VL.frzSl, VL.sUnp, VL.RV.parts, VL.sFor, VL.sApp, VL.sPass, VL.putAt, VL.Ow.put, VL.eVar, VL.Sl.rv, VL.eK, VL.rD, VL.eUn, VL.eBin, VL.eCall, VL.evalAll, VL.RV.arg, VL.Res.bind, VL.RV.d, VL.Ow.toD, VL.tB, VL.tAnd, VL.tOr, VL.tNot, VL.tYes, VL.eAnd, VL.eOr, VL.fNot, VL.eIf, VL.eChain, VL.fNeg, VL.fIsN, VL.fNotN, VL.isN, VL.fIsI, VL.fIsIs, VL.inst, VL.setAll, VL.RV.ow, VL.owsOf, VL.eLst, VL.eTup, VL.iRow, VL.iRng1, VL.iRng2, VL.iEnum, VL.RV.iter, VL.slOf, VL.mul_r, VL.mul_l, VL.mod_s, VL.div_s, VL.add_s, VL.sub_s, VL.int_s, VL.lt_s, VL.le_s, VL.gt_s, VL.ge_s, VL.fEq_int, VL.fNe_int, this]
      · rw [List.map_id']
    have iff : ((chI W (1 + (k : Int)).toNat).all fun r => decide (r - 1 ∈ kept)) = decide (((chI W (k + 1)).filter fun r => !decide (r - 1 ∈ kept)).length = 0) := by
      rw [show (1 + (k : Int)).toNat = k + 1 by omega, Bool.eq_iff_iff, decide_eq_true_iff, List.length_eq_zero_iff, List.filter_eq_nil_iff, List.all_eq_true]
      simp
    have test : ∀ (q : Bool), decide (((chI W (k + 1)).filter fun r => !decide (r - 1 ∈ kept)).length = 0) = q → VL.tB (eBin fEq (eUn fLen (eVar 4)) (eK (.int 0))) [some (Lx W), some (Lx kept), some (.own (.ls (oI X))), some (.own (.fz (.int (1 + (k : Nat))))), some (.own (.ls (oI ((chI W (k + 1)).filter fun r => !decide (r - 1 ∈ kept))))), none] = .ok q := fun q hq => by
      generalize (chI W (k + 1)).filter (fun r => !decide (r - 1 ∈ kept)) = Y at hq ⊢
      unfold VL.tB
      rw [bin_v (un_v (x := .ref 4 [] (.ls (oI Y))) rfl (len_I (isI_ref 4 [] Y))) rfl (fEq_int (Y.length : Int) 0)]
      rw [← hq]
      show Res.ok (decide ((Y.length : Int) = 0)) = Res.ok (decide (Y.length = 0))
      rw [show decide ((Y.length : Int) = 0) = decide (Y.length = 0) from decide_eq_decide.mpr (by omega)]
    cases hq : decide (((chI W (k + 1)).filter fun r => !decide (r - 1 ∈ kept)).length = 0) with
    | true =>
      refine ⟨_, .inl (seq_n (set_v cmp) (if_t (test true hq) (app_s (xs := oI X) (ow := .fz (.int (1 + (k : Nat)))) rfl rfl rfl (by rw [oI_len]; omega)))), some (.own (.fz (.int (1 + (k : Nat))))), some (.own (.ls (oI ((chI W (k + 1)).filter fun r => !decide (r - 1 ∈ kept))))), ?_⟩
      rw [List.filter_cons_of_pos (by rw [iff]; exact hq), oI_app]
      rfl
    | false =>
      refine ⟨_, .inl (seq_n (set_v cmp) (if_f (test false hq) rfl)), some (.own (.fz (.int (1 + (k : Nat))))), some (.own (.ls (oI ((chI W (k + 1)).filter fun r => !decide (r - 1 ∈ kept))))), ?_⟩
      rw [List.filter_cons_of_neg (by rw [iff, hq]; simp), List.filter_nil, List.append_nil]
      rfl)
  rw [rangeS_len, show ((W.length : Int) + 1 - 1).toNat = W.length by omega, List.take_of_length_le (by rw [rgI_len]; omega)] at e
  refine run_ret _ ?_
  exact seq_n (set_v rfl) (seq_n (for_n (rng2_s (n := W.length + 1) rfl (bin_v (un_v rfl (len_I (isI_fz W))) rfl (add_s _ _)) (by decide) (by decide) (by omega) (by omega)) e) rfl)
/-! ### the closure -/
theorem stepG_inv {Q : Int → Prop} {r : List Int} {c : Cp} (h : ∀ x ∈ r, Q x) (hc : (c.b = 0 ∨ Q c.b) → Q c.d) : ∀ x ∈ stepG r c, Q x := by
  unfold stepG
  by_cases e : c.d ∉ r ∧ (c.b = 0 ∨ c.b ∈ r)
  · rw [if_pos e]
    intro x hx
    rcases List.mem_append.mp hx with q | q
    · exact h x q
    · simp only [List.mem_singleton] at q
      subst q
      exact hc (e.2.imp id fun z => h _ z)
  · rw [if_neg e]; exact h
theorem passG_inv {Q : Int → Prop} : ∀ {cs : List Cp} {r : List Int}, (∀ x ∈ r, Q x) → (∀ c ∈ cs, (c.b = 0 ∨ Q c.b) → Q c.d) → ∀ x ∈ passG cs r, Q x
  | [], _, h, _ => h
  | c :: cs, r, h, k => passG_inv (cs := cs) (stepG_inv h (k c List.mem_cons_self)) fun d hd => k d (List.mem_cons_of_mem _ hd)
theorem iterG_inv {Q : Int → Prop} {cs : List Cp} (k : ∀ c ∈ cs, (c.b = 0 ∨ Q c.b) → Q c.d) : ∀ (n : Nat) {r : List Int}, (∀ x ∈ r, Q x) → ∀ x ∈ iterG cs n r, Q x
  | 0, _, h => h
  | n + 1, _, h => iterG_inv k n (passG_inv h k)
theorem passG_closed : ∀ {cs : List Cp} {r : List Int}, passG cs r = r → ∀ c ∈ cs, (c.b = 0 ∨ c.b ∈ r) → c.d ∈ r
  | [], _, _, c, hc, _ => by cases hc
  | c' :: cs, r, h, c, hc, hb => by
    obtain ⟨a1, a2⟩ := stepG_le r c'
    obtain ⟨b1, b2⟩ := passG_le cs (stepG r c')
    have h' : passG cs (stepG r c') = r := h
    rw [h'] at b1 b2
    have e1 := a2 (by omega)
    rcases List.mem_cons.mp hc with rfl | q
    · by_cases z : c.d ∈ r
      · exact z
      · have : stepG r c = r ++ [c.d] := by unfold stepG; rw [if_pos ⟨z, hb⟩]
        rw [this] at e1
        have := congrArg List.length e1
        simp at this
    · rw [e1] at h'
      exact passG_closed h' c q hb
theorem closure {W : List Int} {T : List (List Int)} {kept : List Int} {kcs : List Cp} (HT : TabOk T) (hT : W.length ≤ T.length) (h1 : 1 ≤ W.length) (ha : Asc 0 (W.length - 1) kept) (hkc : kept.map (fun i => (cps W T)[i.toNat]?) = kcs.map some) : sortI (iterG kcs W.length []) = rest W kept := by
  have mem1 : ∀ c ∈ kcs, ∃ k : Nat, (k : Int) ∈ kept ∧ k < W.length ∧ c.b = base W (k + 1) ∧ c.d = (k : Int) + 1 := by
    intro c hc
    have : some c ∈ kcs.map some := List.mem_map.mpr ⟨c, hc, rfl⟩
    rw [← hkc] at this
    obtain ⟨i, hi, e⟩ := List.mem_map.mp this
    have hb := ha.2 i hi
    obtain ⟨k, rfl⟩ : ∃ k : Nat, i = k := ⟨i.toNat, by omega⟩
    rw [Int.toNat_natCast, cps_get (by omega)] at e
    cases e
    exact ⟨k, hi, by omega, rfl, rfl⟩
  have mem2 : ∀ k : Nat, (k : Int) ∈ kept → ∃ c ∈ kcs, c.b = base W (k + 1) ∧ c.d = (k : Int) + 1 := by
    intro k hk
    have hb := ha.2 _ hk
    have : (cps W T)[(k : Int).toNat]? ∈ kcs.map some := by rw [← hkc]; exact List.mem_map.mpr ⟨k, hk, rfl⟩
    rw [Int.toNat_natCast, cps_get (by omega)] at this
    obtain ⟨c, hc, e⟩ := List.mem_map.mp this
    cases e
    exact ⟨_, hc, rfl, rfl⟩
  have kcok : ∀ c ∈ kcs, CpOk W.length c := by
    intro c hc'
    have : some c ∈ kcs.map some := List.mem_map.mpr ⟨c, hc', rfl⟩
    rw [← hkc] at this
    obtain ⟨i, _, e⟩ := List.mem_map.mp this
    exact cps_ok HT hT c (List.mem_of_getElem? e)
  have ok0 : OkR W.length [] := ⟨List.nodup_nil, fun _ h => by cases h⟩
  have ok := iterG_ok kcok W.length ok0
  have fix := fixAt kcok W.length [] ok0 (by simp)
  have cl := passG_closed fix
  have inv := iterG_inv (Q := fun x => ∃ d : Nat, x = d ∧ 1 ≤ d ∧ d ≤ W.length ∧ ∀ e ∈ chn W d, (e : Int) - 1 ∈ kept) (cs := kcs) (by
    intro c hc hb
    obtain ⟨k, k1, k2, k3, k4⟩ := mem1 c hc
    refine ⟨k + 1, by rw [k4]; omega, by omega, by omega, fun e he => ?_⟩
    rw [chn_eq W (by omega)] at he
    rcases List.mem_append.mp he with q | q
    · rcases hb with z | ⟨d, z, _, _, z3⟩
      · have : base W (k + 1) = 0 := by omega
        rw [this] at q; cases q
      · have : base W (k + 1) = d := by omega
        rw [this] at q
        exact z3 e q
    · simp only [List.mem_singleton] at q
      subst q
      rw [show (((k + 1 : Nat) : Int) - 1) = k by omega]; exact k1) W.length (r := []) (fun _ h => by cases h)
  have back : ∀ d : Nat, 1 ≤ d → d ≤ W.length → (∀ e ∈ chn W d, (e : Int) - 1 ∈ kept) → (d : Int) ∈ iterG kcs W.length [] := by
    intro d
    induction d using Nat.strongRecOn with
    | ind d ih =>
      intro hd hd2 h
      rw [chn_eq W (by omega)] at h
      have hb := base_lt W (d := d) (by omega)
      have hk := h d (List.mem_append_right _ (by simp))
      obtain ⟨c, c1, c2, c3⟩ := mem2 (d - 1) (by rw [show ((d - 1 : Nat) : Int) = (d : Int) - 1 by omega]; exact hk)
      have := cl c c1 (by
        rw [c2, show d - 1 + 1 = d by omega]
        by_cases z : base W d = 0
        · left; omega
        · exact .inr (ih _ hb (by omega) (by omega) fun e he => h e (List.mem_append_left _ he)))
      rw [c3, show (((d - 1 : Nat) : Int) + 1) = d by omega] at this
      exact this
  refine asc_ext (sortI_lt ok.1) (asc_filter (asc_rgI _ _) _).1 fun x => ?_
  rw [(sortI_perm _).mem_iff]
  unfold rest
  rw [List.mem_filter, mem_rgI, List.all_eq_true]
  constructor
  · intro hx
    obtain ⟨d, rfl, d1, d2, d3⟩ := inv x hx
    refine ⟨by omega, fun r hr => ?_⟩
    rw [Int.toNat_natCast] at hr
    obtain ⟨e, rfl, he⟩ := (mem_chI W d r).mp hr
    exact decide_eq_true (d3 e he)
  · rintro ⟨hx, h⟩
    obtain ⟨d, rfl⟩ : ∃ d : Nat, x = d := ⟨x.toNat, by omega⟩
    refine back d (by omega) (by omega) fun e he => ?_
    rw [Int.toNat_natCast] at h
    exact of_decide_eq_true (h e ((mem_chI W d _).mpr ⟨e, rfl, he⟩))
end K41

set_option Elab.async false
set_option linter.all false
set_option maxRecDepth 100000
set_option maxHeartbeats 4000000
namespace K41
open PySem VL
theorem bT (f : EC) (ρ : Rho) (h : f ρ = .ok (.val (.fz (.bool true)))) : VL.tNot (VL.tB f) ρ = .ok false := by unfold VL.tNot VL.tB; rw [h]; rfl
theorem bF (f : EC) (ρ : Rho) (h : f ρ = .ok (.val (.fz (.bool false)))) : VL.tB f ρ = .ok false := by unfold VL.tB; rw [h]; rfl
theorem chain_fut {P C : List Int} {d e : Nat} (hC : ∀ x ∈ C, x ≤ 7) (h : e ∈ chn (P ++ C) d) (h1 : P.length < d) (h2 : d ≤ P.length + C.length) (he : e ≤ P.length) : (e : Int) ∈ fut P := by
  rw [mem_chn] at h
  obtain ⟨a1, a2, a3⟩ := h
  rw [mem_fut, mem_chn]
  refine ⟨⟨a1, he, fun k k1 k2 => ?_⟩, ?_⟩
  · have := a3 k k1 (by omega)
    rw [lv_appC P C a1 he, lv_appC P C (by omega) k2] at this
    exact this
  · have := a3 d (by omega) (Nat.le_refl _)
    rw [lv_appC P C a1 he] at this
    have q : lv (P ++ C) d ≤ 7 := by
      unfold lv
      rw [List.getD_eq_getElem?_getD, List.getElem?_append_right (by omega), List.getElem?_eq_getElem (by omega)]
      exact hC _ (List.getElem_mem _)
    omega
theorem chain7 (P : List Int) : chI (P ++ [7]) (P.length + 1) = fut P ++ [((P.length : Int) + 1)] := by
  have fa := fut_asc P
  refine asc_ext (chI_asc _ _).1 ?_ fun x => ?_
  · rw [List.pairwise_append]
    refine ⟨fa.1, List.pairwise_singleton _ _, fun a ha b hb => ?_⟩
    simp only [List.mem_singleton] at hb
    subst hb
    have := fa.2 a ha
    omega
  · rw [mem_chI, List.mem_append, List.mem_singleton]
    constructor
    · rintro ⟨d, rfl, hd⟩
      have := (mem_chn _ _ _).mp hd
      by_cases q : d ≤ P.length
      · left
        exact (mem_fut d).mpr ((mem_next q).mp hd)
      · right; omega
    · rintro (h | rfl)
      · have hb := fa.2 x h
        obtain ⟨d, rfl⟩ : ∃ d : Nat, x = d := ⟨x.toNat, by omega⟩
        exact ⟨d, rfl, (mem_next (by omega)).mpr ((mem_fut d).mp h)⟩
      · exact ⟨P.length + 1, by omega, (mem_chn _ _ _).mpr ⟨by omega, Nat.le_refl _, fun e _ _ => by omega⟩⟩
theorem fut_len (P : List Int) : (fut P).length ≤ P.length := len_le_days (fut_asc P).nodup (fut_asc P).2
theorem rest_len (W kept : List Int) : (rest W kept).length ≤ W.length := by
  refine Nat.le_trans (List.length_filter_le _ _) ?_
  rw [rgI_len]; omega
theorem house_holds_s {P C : List Int} {T : List (List Int)} (HW : LevOk (P ++ C)) (hp : 1 ≤ P.length) (h10 : (P ++ C).length ≤ 10) (HT : TabOk T) (hT : (P ++ C).length = T.length) : φ__law_house_holds [Lx P, Lx C, .own (.fz (lD T)), Lx (fut P)] = .ok (.fz (.bool true)) := by
  generalize hW : P ++ C = W at *
  have lw : W.length = P.length + C.length := by rw [← hW, List.length_append]
  generalize hkp : (fut P).map (fun x => x - 1) ++ rgI P.length W.length = kept
  have fl := fut_len P
  have fa := fut_asc P
  have ka : Asc 0 (W.length - 1) kept := by
    rw [← hkp]
    refine ⟨?_, fun x hx => ?_⟩
    · rw [List.pairwise_append]
      refine ⟨?_, (asc_rgI _ _).1, fun a ha b hb => ?_⟩
      · rw [List.pairwise_map]; exact fa.1.imp fun h => by omega
      · obtain ⟨y, hy, rfl⟩ := List.mem_map.mp ha
        have := fa.2 y hy
        have := mem_rgI.mp hb
        omega
    · rcases List.mem_append.mp hx with q | q
      · obtain ⟨y, hy, rfl⟩ := List.mem_map.mp q
        have := fa.2 y hy
        omega
      · have := mem_rgI.mp q
        omega
  have kl : kept.length ≤ 1000 := by rw [← hkp, List.length_append, List.length_map, rgI_len]; omega
  obtain ⟨kcs, hkc⟩ := kcs_ex (cps W T) kept fun x hx => by have := ka.2 x hx; rw [cps_len]; omega
  have rs := restorable_s (cps_ok HT (by omega)) HW.h1 h10 (cps_len W T) ka hkc
  rw [closure HT (by omega) HW.h1 ka hkc] at rs
  have rt := law_restored_s (W := W) (kept := kept) (by omega)
  have lh := law_house_s (P := W) (T := T) HT (by omega)
  have vh := level_house_s (P := W) (T := T) HT HW hT h10
  have restAll : ∀ d : Nat, P.length < d → d ≤ W.length → (d : Int) ∈ rest W kept := by
    intro d d1 d2
    unfold rest
    rw [List.mem_filter, mem_rgI, List.all_eq_true]
    refine ⟨by omega, fun r hr => decide_eq_true ?_⟩
    rw [Int.toNat_natCast] at hr
    obtain ⟨e, rfl, he⟩ := (mem_chI W d r).mp hr
    have hb := (mem_chn W d e).mp he
    rw [← hkp, List.mem_append]
    by_cases q : e ≤ P.length
    · left
      refine List.mem_map.mpr ⟨(e : Int), ?_, rfl⟩
      rw [← hW] at he
      exact chain_fut (C := C) (fun x hx => (HW.hr x (by rw [← hW]; exact List.mem_append_right _ hx)).2) he d1 (by omega) q
    · right
      exact mem_rgI.mpr (by omega)
  have cl : (cps W T).length ≤ 100 := by rw [cps_len]; omega
  have ih1 := is_house_s (n := W.length) (cs := cps W T) (.inl rfl) cl
  have ih2 := is_house_s (n := W.length) (cs := cps W T) (.inr rfl) cl
  have td : (Ow.tp [.fz (.int W.length), .ls (cpO (cps W T))]).toD = .tuple [.int W.length, .list (cpD (cps W T))] := by
    show PyData.tuple [_, .list (toDs (cpO (cps W T)))] = _
    rw [cpO_toD]; rfl
  generalize hHs : PyData.tuple [.int W.length, .list (cpD (cps W T))] = Hs at *
  let st : Option Sl → Option Sl → Option Sl → Option Sl → Rho := fun o5 o6 o7 o8 => [some (Lx P), some (Lx C), some (.own (.fz (lD T))), some (Lx (fut P)), some (Lx W), o5, o6, o7, o8]
  obtain ⟨ρ', e, o8, rfl⟩ := forL_n (tg := [8]) (b := w__law_house_holds_0) (vs := rangeS (P.length + 1) (W.length + 1)) (fun k ρ => ∃ o8, ρ = st (some (.own (.fz Hs))) (some (.own (.ls (oI (rest W kept))))) (some (Lx kept)) o8) (ρ := st (some (.own (.fz Hs))) (some (.own (.ls (oI (rest W kept))))) (some (Lx kept)) none) ⟨none, rfl⟩ (by
    rintro k v ρ hv ⟨o8, rfl⟩
    obtain ⟨rfl, hk⟩ := rangeS_get hv
    refine ⟨_, .inl (frz_d rfl (frz_d rfl (if_f (bF _ _ (bin_v rfl (call_ok (xs := [.val (.fz (.list (dI W))), .val (.fz (.list (dI kept)))]) rfl rt) (notIn_I _ (isI_ls _)) |>.trans ?_)) rfl))), some (.own (.fz (.int ((P.length : Int) + 1 + (k : Nat))))), rfl⟩
    have := restAll (P.length + 1 + k) (by omega) (by omega)
    rw [show (((P.length + 1 + k : Nat)) : Int) = (P.length : Int) + 1 + (k : Nat) by omega] at this
    simp [this])
  refine run_ret _ ?_
  refine seq_n (set_v (bin_v rfl rfl (cat_I (isI_fz P) (isI_fz C) (by omega)))) ?_
  rw [hW]
  refine seq_n (frz_I (P := W) rfl (set_v (call_ok (xs := [.val (.fz (.list (dI W))), .val (.fz (lD T))]) rfl lh))) ?_
  refine seq_n (frz_d rfl (set_v (call_ok (xs := [.val (.fz (lD T)), .val (.fz (.list (dI W)))]) rfl vh))) ?_
  refine seq_n (ρ' := st (some (.own (.fz Hs))) (some (.own (.tp [.fz (.int W.length), .ls (cpO (cps W T))]))) none none) (frz_d rfl (if_f (bT _ _ (call_ok (xs := [.ref 6 [] (.tp [.fz (.int W.length), .ls (cpO (cps W T))]), .val (.fz Hs)]) rfl ?_)) rfl)) ?_
  · show φ__law_is_house [.bor (Ow.tp [.fz (.int W.length), .ls (cpO (cps W T))]).toD, _] = _
    rw [td]; exact ih1
  refine seq_n (ρ' := st (some (.own (.fz Hs))) (some (.own (.tp [.fz (.int W.length), .ls (cpO (cps W T) ++ [.fz (.tuple [.int 0, .int 1, .int 0])])]))) none none) ?_ ?_
  · show sApp (eBin fIx (eVar 6) (eK (.int 1))) (eTup [(eK (.int 0)), (eK (.int 1)), (eK (.int 0))]) (st (some (.own (.fz Hs))) (some (.own (.tp [.fz (.int W.length), .ls (cpO (cps W T))]))) none none) = _
    unfold sApp
    rw [bin_v (x := .ref 6 [] (.tp [.fz (.int W.length), .ls (cpO (cps W T))])) (y := .val (.fz (.int 1))) (r := .ok (.ref 6 [1] (.ls (cpO (cps W T))))) rfl rfl rfl]
    show (if (cpO (cps W T)).length < 16777216 then _ else _) = _
    rw [if_pos (by unfold cpO; rw [List.length_map]; omega)]
    rfl
  refine seq_n (frz_d rfl (frz_d rfl (if_f (bT _ _ (call_ok (xs := [.val (.tp [.fz (.int W.length), .ls (cpO (cps W T))]), .val (.fz Hs)]) (ev_cons (call_ok (xs := [.val (.fz (lD T)), .val (.fz (.list (dI W)))]) rfl vh) rfl) ?_)) rfl))) ?_
  · show φ__law_is_house [.own (.fz (Ow.tp [.fz (.int W.length), .ls (cpO (cps W T))]).toD), _] = _
    rw [td]; exact ih2
  have e7 : eBin fAdd (eComp [8] (VL.iRow (eVar 3)) VL.tYes (eBin fSub (eVar 8) (eK (.int 1)))) (eBin fLRng2 (eUn fLen (eVar 0)) (eUn fLen (eVar 4))) (st (some (.own (.fz Hs))) (some (.own (.tp [.fz (.int W.length), .ls (cpO (cps W T) ++ [.fz (.tuple [.int 0, .int 1, .int 0])])]))) none none) = .ok (.val (.ls (oI kept))) := by
    rw [← hkp]
    refine bin_v ((comp_I (L := fut P) (fun _ => true) (fun x => x - 1) (row_I rfl (.inl rfl)) (by omega) fun x hx => ⟨rfl, fun _ => rfl⟩).trans (by rw [List.filter_eq_self.mpr (fun _ _ => rfl)])) (bin_v (un_v rfl (len_I (isI_fz P))) (un_v rfl (len_I (isI_fz W))) (lrng2_s (by omega) (by omega) (by omega) (by omega))) (cat_I (isI_ls _) (isI_ls _) (by rw [List.length_map, rgI_len]; omega))
  refine seq_n (set_v e7) (seq_n (frz_I (P := kept) rfl (frz_d rfl (set_v (call_ok (xs := [.val (.fz Hs), .val (.ls (oI kept))]) (ow := .ls (oI (rest W kept))) (ev_cons rfl (ev_cons (un_v rfl (list_I (isI_fz kept))) rfl)) ?_)))) ?_)
  · show φ_restorable [_, .own (.fz (Ow.ls (oI kept)).toD)] = _
    rw [oI_toD]; exact rs
  refine seq_n (for_n (rng2_s (m := P.length + 1) (n := W.length + 1) (bin_v (un_v rfl (len_I (isI_fz P))) rfl (add_s _ _)) (bin_v (un_v rfl (len_I (isI_fz W))) rfl (add_s _ _)) (by omega) (by omega) (by omega) (by omega)) e) ?_
  refine frz_d rfl (frz_d rfl (frz_I (P := rest W kept) rfl (ret_v (call_ok (xs := [.val (.fz (.list (dI (rest W kept)))), .val (.ls (oI (rest W kept)))]) (ev_cons rfl (ev_cons (call_ok (xs := [.val (.fz (.list (dI W))), .val (.fz (.list (dI kept)))]) rfl rt) rfl)) ?_))))
  show φ__law_are_numbers [_, .own (.fz (Ow.ls (oI (rest W kept))).toD)] = _
  rw [oI_toD]
  exact are_numbers_s (.inr rfl) (by have := rest_len W kept; omega)
theorem all_needed_s {P : List Int} {T : List (List Int)} (HP : LevOk P) (h10 : P.length ≤ 9) (HT : TabOk T) (hT : P.length + 1 = T.length) : φ__law_all_needed [Lx P, .own (.fz (lD T)), Lx (fut P)] = .ok (.fz (.bool true)) := by
  have hp := HP.h1
  generalize hW : P ++ [7] = W
  have lw : W.length = P.length + 1 := by rw [← hW, List.length_append]; rfl
  have HW : LevOk W := ⟨by omega, by omega, fun x hx => by
    rw [← hW] at hx
    rcases List.mem_append.mp hx with q | q
    · exact HP.hr x q
    · simp only [List.mem_singleton] at q
      subst q; exact ⟨by decide, by decide⟩⟩
  have fl := fut_len P
  have fa := fut_asc P
  have lh := law_house_s (P := W) (T := T) HT (by omega)
  have cl : (cps W T).length ≤ 100 := by rw [cps_len]; omega
  have c7 := chain7 P
  rw [hW] at c7
  let st : Option Sl → Option Sl → Option Sl → Option Sl → Rho := fun o5 o6 o7 o8 => [some (Lx P), some (.own (.fz (lD T))), some (Lx (fut P)), some (Lx W), some (.own (.fz (.tuple [.int W.length, .list (cpD (cps W T))]))), o5, o6, o7, o8]
  have w7 : ∀ o3 : Sl, (o3 = .own (.ls (oI W)) ∨ o3 = Lx W) → True := fun _ _ => trivial
  obtain ⟨ρ', e, o5, o6, o7, o8, rfl⟩ := forL_n (tg := [5]) (b := w__law_all_needed_0) (vs := ((dI (fut P)).map slOf).map fun s => [s]) (fun k ρ => ∃ o5 o6 o7 o8, ρ = st o5 o6 o7 o8) (ρ := st none none none none) ⟨none, none, none, none, rfl⟩ (by
    rintro k v ρ hv ⟨o5, o6, o7, o8, rfl⟩
    obtain ⟨x, hx, rfl⟩ := row_get hv
    rw [dI_get] at hx
    cases en : (fut P)[k]? with
    | none => rw [en] at hx; cases hx
    | some g =>
      rw [en] at hx; cases hx
      have hg := List.mem_of_getElem? en
      have gb := fa.2 g hg
      generalize hkp : ((fut P).filter fun x => !decide (x = g)).map (fun x => x - 1) ++ [(P.length : Int)] = kept
      have ff : Asc 1 P.length ((fut P).filter fun x => !decide (x = g)) := asc_filter fa _
      have ka : Asc 0 (W.length - 1) kept := by
        rw [← hkp]
        refine ⟨?_, fun x hx => ?_⟩
        · rw [List.pairwise_append]
          refine ⟨?_, List.pairwise_singleton _ _, fun a ha b hb => ?_⟩
          · rw [List.pairwise_map]; exact ff.1.imp fun h => by omega
          · obtain ⟨y, hy, rfl⟩ := List.mem_map.mp ha
            have := ff.2 y hy
            simp only [List.mem_singleton] at hb
            omega
        · rcases List.mem_append.mp hx with q | q
          · obtain ⟨y, hy, rfl⟩ := List.mem_map.mp q
            have := ff.2 y hy
            omega
          · simp only [List.mem_singleton] at q
            omega
      have kl : kept.length ≤ 1000 := by
        have := List.length_filter_le (fun x => !decide (x = g)) (fut P)
        rw [← hkp, List.length_append, List.length_map]; simp; omega
      obtain ⟨kcs, hkc⟩ := kcs_ex (cps W T) kept fun x hx => by have := ka.2 x hx; rw [cps_len]; omega
      have rs := restorable_s (cps_ok HT (by omega)) HW.h1 (by omega) (cps_len W T) ka hkc
      rw [closure HT (by omega) HW.h1 ka hkc] at rs
      have rt := law_restored_s (W := W) (kept := kept) (by omega)
      have out : ¬ ((W.length : Int) ∈ rest W kept) := by
        intro h
        unfold rest at h
        rw [List.mem_filter, List.all_eq_true] at h
        have h2 := h.2 g (by
          rw [Int.toNat_natCast, lw, c7]
          exact List.mem_append_left _ hg)
        have h3 := of_decide_eq_true h2
        rw [← hkp, List.mem_append] at h3
        rcases h3 with q | q
        · obtain ⟨y, hy, e⟩ := List.mem_map.mp q
          have : y = g := by omega
          subst this
          have := (List.mem_filter.mp hy).2
          simp at this
        · simp only [List.mem_singleton] at q
          omega
      have e6 : eBin fAdd (eComp [8] (VL.iRow (eVar 2)) (VL.tB (eBin fNe (eVar 8) (eVar 5))) (eBin fSub (eVar 8) (eK (.int 1)))) (eLst [(eUn fLen (eVar 0))]) (st (some (.own (.fz (.int g)))) o6 o7 o8) = .ok (.val (.ls (oI kept))) := by
        rw [← hkp]
        have hl := List.length_filter_le (fun x => !decide (x = g)) (fut P)
        have e8 : eLst [(eUn fLen (eVar 0))] (st (some (.own (.fz (.int g)))) o6 o7 o8) = .ok (.val (.ls (oI [(P.length : Int)]))) := by
          unfold eLst
          rw [ev_cons (x := .val (.fz (.int P.length))) (xs := []) (un_v rfl (len_I (isI_fz P))) rfl]
          rfl
        refine bin_v (comp_I (L := fut P) (fun x => !decide (x = g)) (fun x => x - 1) (row_I rfl (.inl rfl)) (by omega) fun x hx => ⟨?_, fun _ => rfl⟩) e8 (cat_I (isI_ls _) (isI_ls _) (by rw [List.length_map]; simp; omega))
        unfold VL.tB
        rw [bin_v (x := .val (.fz (.int x))) (y := .val (.fz (.int g))) rfl rfl (fNe_int x g)]
        rfl
      have fr := rest_len W kept
      refine ⟨st (some (.own (.fz (.int g)))) (some (Lx kept)) (some (Lx (rest W kept))) o8, .inl (seq_n (set_v e6) (seq_n (frz_I (P := kept) rfl (frz_d rfl (set_v (call_ok (xs := [.val (.fz (.tuple [.int W.length, .list (cpD (cps W T))])), .val (.fz (.list (dI kept)))]) rfl rs)))) (frz_d rfl (frz_d rfl (frz_I (P := rest W kept) rfl (if_f (or_f (bT _ _ (call_ok (xs := [.val (.fz (.list (dI (rest W kept)))), .val (.ls (oI (rest W kept)))]) (ev_cons rfl (ev_cons (call_ok (xs := [.val (.fz (.list (dI W))), .val (.fz (.list (dI kept)))]) rfl rt) rfl)) ?_)) (bF _ _ ((bin_v (un_v rfl (len_I (isI_fz W))) rfl (in_I _ (isI_fz _))).trans ?_))) rfl)))))), some (.own (.fz (.int g))), some (Lx kept), some (Lx (rest W kept)), o8, rfl⟩
      · show φ__law_are_numbers [_, .own (.fz (Ow.ls (oI (rest W kept))).toD)] = _
        rw [oI_toD]
        exact are_numbers_s (.inr rfl) (by omega)
      · rw [decide_eq_false out])
  refine run_ret _ ?_
  refine seq_n (set_v (bin_v (y := .val (.ls (oI [7]))) rfl rfl (cat_I (isI_fz P) (isI_ls _) (by simp; omega)))) ?_
  rw [hW]
  refine seq_n (frz_I (P := W) rfl (set_v (call_ok (xs := [.val (.fz (.list (dI W))), .val (.fz (lD T))]) rfl lh))) ?_
  exact seq_n (for_n (row_I (L := fut P) rfl (.inl rfl)) e) rfl
end K41

set_option Elab.async false
set_option linter.all false
set_option maxRecDepth 100000
set_option maxHeartbeats 4000000
namespace K41
open PySem VL
theorem cell_s (ns : List Int) (k : Nat) : ∃ z, φ__law_cell [scr ns, .own (.fz (.int k))] = .ok (.fz (.int z)) := by
  have e1 : fLen (.val (.fz (.list (dI ns)))) = .ok (.val (.fz (.int ns.length))) := len_I (isI_fz ns)
  by_cases h : k < ns.length
  · have e3 : ns[k]? = some ns[k] := List.getElem?_eq_getElem h
    have t1 : VL.tB (eBin fLt (eVar 1) (eUn fLen (eVar 0))) [some (scr ns), some (.own (.fz (.int k)))] = .ok true := by
      have : (k : Int) < ns.length := by omega
      simp [VL.runBody, VL.sSeq, VL.sIf, VL.sRet, VL.sSet, VL.sFrz, VL.frzSl, VL.sUnp, VL.RV.parts, VL.sFor, VL.sApp, VL.sPass, VL.putAt, VL.Ow.put, VL.eVar, VL.Sl.rv, VL.eK, VL.rD, VL.eUn, VL.eBin, VL.eCall, VL.evalAll, VL.RV.arg, VL.Res.bind, VL.RV.d, VL.Ow.toD, VL.tB, VL.tAnd, VL.tOr, VL.tNot, VL.tYes, VL.eAnd, VL.eOr, VL.fNot, VL.eIf, VL.eChain, VL.fNeg, VL.fIsN, VL.fNotN, VL.isN, VL.fIsI, VL.fIsIs, VL.inst, VL.setAll, VL.RV.ow, VL.owsOf, VL.eLst, VL.eTup, VL.iRow, VL.iRng1, VL.iRng2, VL.iEnum, VL.RV.iter, VL.slOf, VL.mul_r, VL.mul_l, VL.mod_s, VL.div_s, VL.add_s, VL.sub_s, VL.int_s, VL.lt_s, VL.le_s, VL.gt_s, VL.ge_s, VL.fEq_int, VL.fNe_int, e1, this]
    refine ⟨ns[k], ?_⟩
    refine run_ret _ ?_
    exact seq_r (if_t t1 (ret_v (bin_v rfl rfl (ix_I (by omega) (by rw [Int.toNat_natCast]; exact e3)))))
  · have t1 : VL.tB (eBin fLt (eVar 1) (eUn fLen (eVar 0))) [some (scr ns), some (.own (.fz (.int k)))] = .ok false := by
      have : ¬ (k : Int) < ns.length := by omega
      simp [VL.runBody, VL.sSeq, VL.sIf, VL.sRet, VL.sSet, VL.sFrz, VL.frzSl, VL.sUnp, VL.RV.parts, VL.sFor, VL.sApp, VL.sPass, VL.putAt, VL.Ow.put, VL.eVar, VL.Sl.rv, VL.eK, VL.rD, VL.eUn, VL.eBin, VL.eCall, VL.evalAll, VL.RV.arg, VL.Res.bind, VL.RV.d, VL.Ow.toD, VL.tB, VL.tAnd, VL.tOr, VL.tNot, VL.tYes, VL.eAnd, VL.eOr, VL.fNot, VL.eIf, VL.eChain, VL.fNeg, VL.fIsN, VL.fNotN, VL.isN, VL.fIsI, VL.fIsIs, VL.inst, VL.setAll, VL.RV.ow, VL.owsOf, VL.eLst, VL.eTup, VL.iRow, VL.iRng1, VL.iRng2, VL.iEnum, VL.RV.iter, VL.slOf, VL.mul_r, VL.mul_l, VL.mod_s, VL.div_s, VL.add_s, VL.sub_s, VL.int_s, VL.lt_s, VL.le_s, VL.gt_s, VL.ge_s, VL.fEq_int, VL.fNe_int, e1, this]
    by_cases h0 : ns.length = 0
    · have t2 : VL.tB (eBin fEq (eUn fLen (eVar 0)) (eK (.int 0))) [some (scr ns), some (.own (.fz (.int k)))] = .ok true := by
        unfold VL.tB
        rw [bin_v (un_v rfl e1) rfl (fEq_int _ _), h0]
        rfl
      refine ⟨7919 * k, ?_⟩
      refine run_ret _ ?_
      exact seq_n (if_f t1 rfl) (seq_r (if_t t2 (ret_v (bin_v rfl rfl (mul_l _ _ (by decide))))))
    · have t2 : VL.tB (eBin fEq (eUn fLen (eVar 0)) (eK (.int 0))) [some (scr ns), some (.own (.fz (.int k)))] = .ok false := by
        unfold VL.tB
        rw [bin_v (un_v rfl e1) rfl (fEq_int _ _)]
        have : ¬ (ns.length : Int) = 0 := by omega
        simp [VL.Res.bind, RV.d, Ow.toD, this]
        intro z; rw [z] at h0; exact h0 rfl
      have p0 : (0 : Int) < ns.length := by omega
      have b1 := Int.emod_nonneg (k : Int) (show (ns.length : Int) ≠ 0 by omega)
      have b2 := Int.emod_lt_of_pos (k : Int) p0
      have e3 : ns[((k : Int) % ns.length).toNat]? = some (ns[((k : Int) % ns.length).toNat]'(by omega)) := List.getElem?_eq_getElem (by omega)
      refine ⟨(ns[((k : Int) % ns.length).toNat]'(by omega)) % 1000003 + 7919 * k, ?_⟩
      refine run_ret _ ?_
      exact seq_n (if_f t1 rfl) (seq_n (if_f t2 rfl) (ret_v (bin_v (bin_v (un_v (bin_v rfl (bin_v (un_v rfl (int_s _)) (un_v rfl e1) (mod_s _ _ p0)) (ix_I b1 e3)) (int_s _)) rfl (mod_s _ _ (by decide))) (bin_v rfl rfl (mul_l _ _ (by decide))) (add_s _ _))))
theorem row_s' (cell size : Int) (count : Nat) (h0 : 0 < size) (h1 : size < 1073741824) (hc : count ≤ 1000) :
    ∃ L, φ__law_row [.own (.fz (.int cell)), .own (.fz (.int count)), .own (.fz (.int size))] = .ok (.ls (oI L)) ∧ L.length = count ∧ In size L := by
  obtain ⟨ρ', e, L, r, a, b, rfl, hL, hI⟩ := forL_n (tg := [5]) (b := w__law_row_0) (vs := rangeS 0 count) (fun k ρ => ∃ L r a b, ρ = [some (.own (.fz (.int cell))), some (.own (.fz (.int count))), some (.own (.fz (.int size))), some (.own (.ls (oI L))), some (.own (.fz (.int r))), a, b] ∧ L.length = k ∧ In size L)
    (ρ := [some (.own (.fz (.int cell))), some (.own (.fz (.int count))), some (.own (.fz (.int size))), some (.own (.ls [])), some (.own (.fz (.int cell))), none, none]) ⟨[], cell, none, none, rfl, rfl, fun _ h => by cases h⟩ (by
    rintro k v ρ hv ⟨L, r, a, b, rfl, hL, hI⟩
    obtain ⟨rfl, hk⟩ := rangeS_get hv
    have hk' : k < count := by omega
    by_cases hb : 10 ^ 18 ≤ cell
    · refine ⟨_, .inl (if_t ?_ (seq_n (app_s (ow := .fz (.int (r % size))) (xs := oI L) rfl ?_ rfl (by rw [oI_len]; omega)) (set_v (bin_v rfl rfl (div_s r size ⟨h0, h1⟩))))), L ++ [r % size], r / size, some (.own (.fz (.int (0 + (k : Nat))))), b, ?_, by simp [hL], hI.app (Int.emod_nonneg _ (by omega)) (Int.emod_lt_of_pos _ h0)⟩
      · have h2 : (1000000000000000000 : Int) ≤ cell := by omega
        simp [VL.runBody, VL.sSeq, VL.sIf, VL.sRet, VL.sSet, VL.sFrz, VL.frzSl, VL.sUnp, VL.RV.parts, VL.sFor, VL.sApp, VL.sPass, VL.putAt, VL.Ow.put, VL.eVar, VL.Sl.rv, VL.eK, VL.rD, VL.eUn, VL.eBin, VL.eCall, VL.evalAll, VL.RV.arg, VL.Res.bind, VL.RV.d, VL.Ow.toD, VL.tB, VL.tAnd, VL.tOr, VL.tNot, VL.tYes, VL.eAnd, VL.eOr, VL.fNot, VL.eIf, VL.eChain, VL.fNeg, VL.fIsN, VL.fNotN, VL.isN, VL.fIsI, VL.fIsIs, VL.inst, VL.setAll, VL.RV.ow, VL.owsOf, VL.eLst, VL.eTup, VL.iRow, VL.iRng1, VL.iRng2, VL.iEnum, VL.RV.iter, VL.slOf, VL.mul_r, VL.mul_l, VL.mod_s, VL.div_s, VL.add_s, VL.sub_s, VL.int_s, VL.lt_s, VL.le_s, VL.gt_s, VL.ge_s, VL.fEq_int, VL.fNe_int, VL.fPow, h2]
      · exact bin_v (un_v rfl (int_s r)) rfl (mod_s r size h0)
      · rw [oI_app]; rfl
    · obtain ⟨m1, em1⟩ : ∃ m1, (eBin fMod (eUn fInt (eBin fAdd (eBin fAdd (eBin fMul (eBin fMod (eUn fInt (eVar 0)) (eK (.int 2147483647))) (eK (.int 48271))) (eBin fMul (eVar 5) (eK (.int 69621)))) (eK (.int 11)))) (eK (.int 2147483647)))
          [some (.own (.fz (.int cell))), some (.own (.fz (.int count))), some (.own (.fz (.int size))), some (.own (.ls (oI L))), some (.own (.fz (.int r))), some (.own (.fz (.int (0 + (k : Nat))))), b] = .ok (.val (.fz (.int m1))) ∧ 0 ≤ m1 ∧ m1 < 2147483647 := by
        refine ⟨_, bin_v (un_v (bin_v (bin_v (bin_v (bin_v (un_v rfl (int_s _)) rfl (mod_s _ _ (by decide))) rfl (mul_r _ _ (by decide))) (bin_v rfl rfl (mul_r _ _ (by decide))) (add_s _ _)) rfl (add_s _ _)) (int_s _)) rfl (mod_s _ _ (by decide)), Int.emod_nonneg _ (by decide), Int.emod_lt_of_pos _ (by decide)⟩
      obtain ⟨m2, em2⟩ : ∃ m2, (eBin fMod (eUn fInt (eBin fAdd (eBin fAdd (eBin fMul (eVar 6) (eVar 6)) (eBin fMul (eK (.int 13)) (eVar 5))) (eK (.int 5)))) (eK (.int 2147483629)))
          [some (.own (.fz (.int cell))), some (.own (.fz (.int count))), some (.own (.fz (.int size))), some (.own (.ls (oI L))), some (.own (.fz (.int r))), some (.own (.fz (.int (0 + (k : Nat))))), some (.own (.fz (.int m1)))] = .ok (.val (.fz (.int m2))) ∧ 0 ≤ m2 ∧ m2 < 2147483629 := by
        exact ⟨_, bin_v (un_v (bin_v (bin_v (bin_v rfl rfl (mul_r _ _ (by omega))) (bin_v rfl rfl (mul_l _ _ (by decide))) (add_s _ _)) rfl (add_s _ _)) (int_s _)) rfl (mod_s _ _ (by decide)), Int.emod_nonneg _ (by decide), Int.emod_lt_of_pos _ (by decide)⟩
      refine ⟨_, .inl (if_f ?_ (seq_n (set_v em1.1) (seq_n (set_v em2.1) (app_s (ow := .fz (.int ((m2 * (m2 + 7) + (0 + (k : Int))) % 2147483587 % size))) (xs := oI L) rfl ?_ rfl (by rw [oI_len]; omega))))), L ++ [(m2 * (m2 + 7) + (0 + (k : Int))) % 2147483587 % size], r, some (.own (.fz (.int (0 + (k : Nat))))), some (.own (.fz (.int m2))), ?_, by simp [hL], hI.app (Int.emod_nonneg _ (by omega)) (Int.emod_lt_of_pos _ h0)⟩
      · have h2' : ¬ (1000000000000000000 : Int) ≤ cell := by omega
        simp [VL.runBody, VL.sSeq, VL.sIf, VL.sRet, VL.sSet, VL.sFrz, VL.frzSl, VL.sUnp, VL.RV.parts, VL.sFor, VL.sApp, VL.sPass, VL.putAt, VL.Ow.put, VL.eVar, VL.Sl.rv, VL.eK, VL.rD, VL.eUn, VL.eBin, VL.eCall, VL.evalAll, VL.RV.arg, VL.Res.bind, VL.RV.d, VL.Ow.toD, VL.tB, VL.tAnd, VL.tOr, VL.tNot, VL.tYes, VL.eAnd, VL.eOr, VL.fNot, VL.eIf, VL.eChain, VL.fNeg, VL.fIsN, VL.fNotN, VL.isN, VL.fIsI, VL.fIsIs, VL.inst, VL.setAll, VL.RV.ow, VL.owsOf, VL.eLst, VL.eTup, VL.iRow, VL.iRng1, VL.iRng2, VL.iEnum, VL.RV.iter, VL.slOf, VL.mul_r, VL.mul_l, VL.mod_s, VL.div_s, VL.add_s, VL.sub_s, VL.int_s, VL.lt_s, VL.le_s, VL.gt_s, VL.ge_s, VL.fEq_int, VL.fNe_int, VL.fPow, h2']
      · exact bin_v (bin_v (un_v (bin_v (bin_v rfl (bin_v rfl rfl (add_s _ _)) (mul_r _ _ (by omega))) rfl (add_s _ _)) (int_s _)) rfl (mod_s _ _ (by decide))) rfl (mod_s _ size h0)
      · rw [oI_app]; rfl)
  refine ⟨L, ?_, ?_, hI⟩
  · refine run_ret _ ?_
    exact seq_n (set_v rfl) (seq_n (set_v rfl) (seq_n (for_n (rng1_s (n := count) rfl (by omega) (by omega)) e) rfl))
  · rw [hL, rangeS_len]; omega
theorem table_s (ns : List Int) {n : Nat} (h1 : 1 ≤ n) (h2 : n ≤ 12) : ∃ T : List (List Int), φ__law_table [scr ns, .own (.fz (.int n))] = .ok (lsO (T.map dI)) ∧ T.length = n ∧ TabOk T := by
  obtain ⟨ρ', e, T, a, rfl, hl, hk, hr⟩ := forL_n (tg := [3]) (b := w__law_table_0) (vs := rangeS 1 (n + 1)) (fun k ρ => ∃ (T : List (List Int)) (a : Option Sl), ρ = [some (scr ns), some (.own (.fz (.int n))), some (.own (lsO (T.map dI))), a] ∧ T.length = k ∧ (∀ (j : Nat) Z, T[j]? = some Z → Z.length = j + 1) ∧ ∀ Z ∈ T, ∀ x ∈ Z, 0 ≤ x ∧ x ≤ 999)
    (ρ := [some (scr ns), some (.own (.fz (.int n))), some (.own (.ls [])), none]) ⟨[], none, rfl, rfl, fun j Z h => by simp at h, fun Z h => by cases h⟩ (by
    rintro k v ρ hv ⟨T, a, rfl, hl, hk, hr⟩
    obtain ⟨rfl, hk'⟩ := rangeS_get hv
    obtain ⟨z, ez⟩ := cell_s ns (9 + (1 + k))
    obtain ⟨Z, eZ, lZ, iZ⟩ := row_s' (z + 7919 * (1 + (k : Int))) 1000 (1 + k) (by decide) (by decide) (by omega)
    have ez' : φ__law_cell [scr ns, .own (.fz (.int (9 + (1 + (k : Int)))))] = .ok (.fz (.int z)) := by
      rw [show (9 + (1 + (k : Int))) = ((9 + (1 + k) : Nat) : Int) by omega]; exact ez
    have eZ' : φ__law_row [.own (.fz (.int (z + 7919 * (1 + (k : Int))))), .own (.fz (.int (1 + (k : Int)))), .own (.fz (.int 1000))] = .ok (.ls (oI Z)) := by
      rw [show (1 + (k : Int)) = ((1 + k : Nat) : Int) by omega] at eZ ⊢; exact eZ
    refine ⟨_, .inl (app_s (xs := (T.map dI).map fun s => .ls (s.map Ow.fz)) (ow := .ls (oI Z)) rfl (call_ok (xs := [.val (.fz (.int (z + 7919 * (1 + (k : Int))))), .val (.fz (.int (1 + (k : Int)))), .val (.fz (.int 1000))]) ?_ eZ') rfl (by simp; omega)), T ++ [Z], some (.own (.fz (.int (1 + (k : Nat))))), ?_, by simp [hl], fun j Y hY => ?_, fun Y hY => ?_⟩
    · exact ev_cons (bin_v (call_ok (xs := [.val (.fz (.list (dI ns))), .val (.fz (.int (9 + (1 + (k : Int)))))]) (ev_cons rfl (ev_cons (bin_v rfl rfl (add_s _ _)) rfl)) ez') (bin_v rfl rfl (mul_l _ _ (by decide))) (add_s _ _)) rfl
    · unfold lsO
      rw [List.map_append, List.map_append, ← oI_fz]
      rfl
    · by_cases q : j < T.length
      · rw [List.getElem?_append_left q] at hY; exact hk j Y hY
      · rw [List.getElem?_append_right (by omega)] at hY
        have : j - T.length = 0 := by
          rcases Nat.eq_zero_or_pos (j - T.length) with z | z
          · exact z
          · rw [List.getElem?_eq_none (by simp; omega)] at hY; cases hY
        rw [this] at hY
        cases hY
        omega
    · rcases List.mem_append.mp hY with q | q
      · exact hr Y q
      · simp only [List.mem_singleton] at q
        subst q
        intro x hx
        have := iZ x hx
        omega)
  rw [rangeS_len, show ((n : Int) + 1 - 1).toNat = n by omega] at hl
  refine ⟨T, ?_, hl, ⟨by omega, by omega, hk, hr⟩⟩
  refine run_ret _ ?_
  exact seq_n (set_v rfl) (seq_n (for_n (rng2_s (m := 1) (n := n + 1) rfl (bin_v rfl rfl (add_s _ _)) (by decide) (by decide) (by omega) (by omega)) e) rfl)
theorem slice_fz {a hi : EC} {ρ : Rho} {ds : List D} {h : Int} (ha : a ρ = .ok (.val (.fz (.list ds)))) (hh : hi ρ = .ok (.val (.fz (.int h)))) (h0 : 0 ≤ h) : eSlice a none (some hi) ρ = .ok (.val (.ls ((ds.take h.toNat).map Ow.fz))) := by
  have cut : cutL (ds.map Ow.fz) none (some h) = (ds.take h.toNat).map Ow.fz := by
    unfold cutL HT.sIx
    simp only [List.length_map, List.drop_zero]
    rw [if_neg (by omega), List.map_take, Nat.sub_zero]
    rcases Nat.lt_or_ge h.toNat ds.length with q | q
    · rw [Nat.min_eq_left (by omega)]
    · rw [Nat.min_eq_right q, List.take_of_length_le (by simp), List.take_of_length_le (by simpa using q)]
  unfold eSlice
  rw [ha]
  show ((hi ρ).bind _).bind _ = _
  rw [hh]
  show Res.ok (RV.val (.ls (cutL (ds.map Ow.fz) none (some h)))) = _
  rw [cut]
theorem tab_take {T : List (List Int)} (H : TabOk T) {j : Nat} (h1 : 1 ≤ j) : TabOk (T.take j) := by
  refine ⟨?_, ?_, fun k Z hZ => ?_, fun Z hZ => H.hr Z (List.mem_of_mem_take hZ)⟩
  · rw [List.length_take]; have := H.h1; omega
  · rw [List.length_take]; have := H.h2; omega
  · by_cases q : k < j
    · rw [List.getElem?_take_of_lt q] at hZ
      exact H.hl k Z hZ
    · rw [List.getElem?_eq_none (by rw [List.length_take]; omega)] at hZ; cases hZ
end K41

set_option Elab.async false
set_option linter.all false
set_option maxRecDepth 100000
set_option maxHeartbeats 4000000
namespace K41
open PySem VL
theorem frz_S {i : Nat} {a : SC} {ρ : Rho} {r : SRes} {s : Sl} {L : List Int} (h : ρ[i]? = some (some s)) (hs : s = .own (.ls (oI L)) ∨ s = Lx L) (k : a (ρ.set i (some (Lx L))) = r) : sFrz i a ρ = r := by
  rcases hs with rfl | rfl
  · exact frz_I h k
  · unfold sFrz
    rw [h]
    exact k
theorem eand_v {a b : EC} {ρ : Rho} {r : Res RV} (h : a ρ = .ok (.val (.fz (.bool true)))) (k : b ρ = r) : eAnd a b ρ = r := by
  unfold eAnd
  rw [h]
  exact k
theorem law_s (ns : List Int) : φ_law [scr ns] = .ok (.fz (.bool true)) := by
  obtain ⟨c0, ec0⟩ := cell_s ns 0
  obtain ⟨c1, ec1⟩ := cell_s ns 1
  obtain ⟨c2, ec2⟩ := cell_s ns 2
  obtain ⟨c3, ec3⟩ := cell_s ns 3
  obtain ⟨c4, ec4⟩ := cell_s ns 4
  have b1 := Int.emod_nonneg c0 (show (11 : Int) ≠ 0 by decide)
  have b2 := Int.emod_lt_of_pos c0 (show (0 : Int) < 11 by decide)
  obtain ⟨n, en⟩ : ∃ n : Nat, 1 + c0 % 11 = n := ⟨(1 + c0 % 11).toNat, by omega⟩
  have n1 : 1 ≤ n := by omega
  have n2 : n ≤ 11 := by omega
  obtain ⟨sz, sm, es⟩ := lit_ix [8, 2, 3, 8] c1 4 rfl (by decide)
  have sr : 2 ≤ sz ∧ sz ≤ 8 := (by decide : ∀ x ∈ ([8, 2, 3, 8] : List Int), 2 ≤ x ∧ x ≤ 8) sz sm
  have d1 := Int.emod_nonneg (c1 / 4) (show (2 : Int) ≠ 0 by decide)
  have d2 := Int.emod_lt_of_pos (c1 / 4) (show (0 : Int) < 2 by decide)
  obtain ⟨sh, esh⟩ : ∃ sh : Int, (8 - sz) * (c1 / 4 % 2) = sh := ⟨_, rfl⟩
  have shr : 0 ≤ sh ∧ sh ≤ 8 - sz := by
    rw [← esh]
    rcases (show c1 / 4 % 2 = 0 ∨ c1 / 4 % 2 = 1 by omega) with q | q <;> rw [q] <;> omega
  obtain ⟨L, eL, lL, iL⟩ := row_s' c2 sz n (by omega) (by omega) (by omega)
  generalize hP : L.map (fun x => x + sh) = P
  have lP : P.length = n := by rw [← hP, List.length_map, lL]
  have rP : ∀ x ∈ P, 0 ≤ x ∧ x ≤ 7 := fun x hx => by
    rw [← hP] at hx
    obtain ⟨y, hy, rfl⟩ := List.mem_map.mp hx
    have := iL y hy
    omega
  have HP : LevOk P := ⟨by omega, by omega, rP⟩
  obtain ⟨m3, em3, m31, m32, m33⟩ : ∃ m3 : Int, (if (12 - (n : Int)) < 3 then (12 - (n : Int)) else 3) = m3 ∧ 1 ≤ m3 ∧ m3 ≤ 3 ∧ m3 ≤ 12 - n := by
    by_cases q : (12 - (n : Int)) < 3
    · exact ⟨12 - n, by rw [if_pos q], by omega, by omega, by omega⟩
    · exact ⟨3, by rw [if_neg q], by omega, by omega, by omega⟩
  have f1 := Int.emod_nonneg c3 (show m3 ≠ 0 by omega)
  have f2 := Int.emod_lt_of_pos c3 (show 0 < m3 by omega)
  obtain ⟨mn, emn⟩ : ∃ mn : Nat, 1 + c3 % m3 = mn := ⟨(1 + c3 % m3).toNat, by omega⟩
  obtain ⟨C, eC, lC, iC⟩ := row_s' c4 8 mn (by decide) (by decide) (by omega)
  have rC : ∀ x ∈ C, 0 ≤ x ∧ x ≤ 7 := fun x hx => by have := iC x hx; omega
  have lW : (P ++ C).length = n + mn := by rw [List.length_append, lP, lC]
  have HW : LevOk (P ++ C) := ⟨by omega, by omega, fun x hx => by
    rcases List.mem_append.mp hx with q | q
    · exact rP x q
    · exact rC x q⟩
  have H7 : LevOk (P ++ [7]) := ⟨by simp, by simp; omega, fun x hx => by
    rcases List.mem_append.mp hx with q | q
    · exact rP x q
    · simp only [List.mem_singleton] at q
      subst q; exact ⟨by decide, by decide⟩⟩
  have fl := fut_len P
  have fa := fut_asc P
  have fu := law_future_s HP
  have fd := future_days_s (d := .list (dI P)) rfl HP
  have fdt := future_days_s (d := .tuple (dI P)) rfl HP
  let st : Sl → Option Sl → Option Sl → Rho := fun s7 o10 o11 => [some (scr ns), some (.own (.fz (.int n))), some (.own (.fz (.int c1))), some (.own (.fz (.int sz))), some (.own (.fz (.int sh))), some (Lx P), some (.own (.fz (.int mn))), some s7, some (Lx (fut P)), some (Lx P), o10, o11, none, none, none]
  obtain ⟨ρ', e, s7, o10, o11, rfl, h7⟩ := forL_n (tg := [11]) (b := w_law_0) (vs := rangeS (n + 1) (n + mn + 1)) (fun k ρ => ∃ s7 o10 o11, ρ = st s7 o10 o11 ∧ (s7 = .own (.ls (oI C)) ∨ s7 = Lx C))
    (ρ := st (.own (.ls (oI C))) (some (.own (.ls (oI (fut P ++ [(n : Int) + 1]))))) none) ⟨_, _, _, rfl, .inl rfl⟩ (by
    rintro k v ρ hv ⟨s7, o10, o11, rfl, h7⟩
    obtain ⟨rfl, hk⟩ := rangeS_get hv
    obtain ⟨d, ed⟩ : ∃ d : Nat, (n : Int) + 1 + (k : Nat) = d := ⟨n + 1 + k, by omega⟩
    have dd1 : P.length < d := by omega
    have dd2 : d ≤ P.length + C.length := by omega
    rw [ed]
    have cs := chain_s (P := P ++ C) (d := .list (dI (P ++ C))) (m := d) rfl HW (by omega) (by omega)
    have ls := law_chain_s (P := P ++ C) (m := d) (by omega) (by omega)
    have cl := chI_len (P ++ C) d
    have an := are_numbers_s (L := chI (P ++ C) d) (.inr rfl) (by omega)
    have cat : ∀ o10, eBin fAdd (eVar 5) (eVar 7) (st (Lx C) o10 (some (.own (.fz (.int d))))) = .ok (.val (.ls (oI (P ++ C)))) := fun o10 => bin_v rfl rfl (cat_I (isI_fz P) (isI_fz C) (by omega))
    have none_left : (chI (P ++ C) d).filter (fun x => decide (x ≤ (n : Int)) && !decide (x ∈ fut P)) = [] := by
      rw [List.filter_eq_nil_iff]
      intro x hx hf
      obtain ⟨e, rfl, he⟩ := (mem_chI _ _ _).mp hx
      simp only [Bool.and_eq_true, decide_eq_true_eq, Bool.not_eq_true', decide_eq_false_iff_not] at hf
      exact hf.2 (chain_fut (fun x hx => (rC x hx).2) he dd1 dd2 (by omega))
    have cmp : eComp [14] (VL.iRow (eVar 10)) (VL.tAnd (VL.tB (eBin fLe (eVar 14) (eVar 1))) (VL.tB (eBin fNotIn (eVar 14) (eVar 8)))) (eVar 14) (st (Lx C) (some (Lx (chI (P ++ C) d))) (some (.own (.fz (.int d))))) = .ok (.val (.ls (oI []))) := by
      refine (comp_I (L := chI (P ++ C) d) (fun x => decide (x ≤ (n : Int)) && !decide (x ∈ fut P)) (fun x => x) (row_I rfl (.inl rfl)) (by omega) fun x hx => ⟨?_, fun _ => rfl⟩).trans ?_
      · have := notIn_I x (isI_fz (fut P))
        by_cases q : x ≤ (n : Int)
        · simp [VL.runBody, VL.sSeq, VL.sIf, VL.sRet, VL.sSet, VL.sFrz, VL.frzSl, VL.sUnp, VL.RV.parts, VL.sFor, VL.sApp, VL.sPass, VL.putAt, VL.Ow.put, VL.eVar, VL.Sl.rv, VL.eK, VL.rD, VL.eUn, VL.eBin, VL.eCall, VL.evalAll, VL.RV.arg, VL.Res.bind, VL.RV.d, VL.Ow.toD, VL.tB, VL.tAnd, VL.tOr, VL.tNot, VL.tYes, VL.eAnd, VL.eOr, VL.fNot, VL.eIf, VL.eChain, VL.fNeg, VL.fIsN, VL.fNotN, VL.isN, VL.fIsI, VL.fIsIs, VL.inst, VL.setAll, VL.RV.ow, VL.owsOf, VL.eLst, VL.eTup, VL.iRow, VL.iRng1, VL.iRng2, VL.iEnum, VL.RV.iter, VL.slOf, VL.mul_r, VL.mul_l, VL.mod_s, VL.div_s, VL.add_s, VL.sub_s, VL.int_s, VL.lt_s, VL.le_s, VL.gt_s, VL.ge_s, VL.fEq_int, VL.fNe_int, st, this, q]
        · simp [VL.runBody, VL.sSeq, VL.sIf, VL.sRet, VL.sSet, VL.sFrz, VL.frzSl, VL.sUnp, VL.RV.parts, VL.sFor, VL.sApp, VL.sPass, VL.putAt, VL.Ow.put, VL.eVar, VL.Sl.rv, VL.eK, VL.rD, VL.eUn, VL.eBin, VL.eCall, VL.evalAll, VL.RV.arg, VL.Res.bind, VL.RV.d, VL.Ow.toD, VL.tB, VL.tAnd, VL.tOr, VL.tNot, VL.tYes, VL.eAnd, VL.eOr, VL.fNot, VL.eIf, VL.eChain, VL.fNeg, VL.fIsN, VL.fNotN, VL.isN, VL.fIsI, VL.fIsIs, VL.inst, VL.setAll, VL.RV.ow, VL.owsOf, VL.eLst, VL.eTup, VL.iRow, VL.iRng1, VL.iRng2, VL.iEnum, VL.RV.iter, VL.slOf, VL.mul_r, VL.mul_l, VL.mod_s, VL.div_s, VL.add_s, VL.sub_s, VL.int_s, VL.lt_s, VL.le_s, VL.gt_s, VL.ge_s, VL.fEq_int, VL.fNe_int, st, this, q]
      · rw [none_left]; rfl
    refine ⟨st (Lx C) (some (Lx (chI (P ++ C) d))) (some (.own (.fz (.int d)))), .inl (seq_n (ρ' := st (Lx C) (some (.own (.ls (oI (chI (P ++ C) d))))) (some (.own (.fz (.int d))))) (frz_S rfl h7 (frz_d rfl (set_v (call_ok (xs := [.val (.ls (oI (P ++ C))), .val (.fz (.int d))]) (ow := .ls (oI (chI (P ++ C) d))) (ev_cons (cat o10) rfl) ?_)))) (seq_n (ρ' := st (Lx C) (some (Lx (chI (P ++ C) d))) (some (.own (.fz (.int d))))) (frz_d rfl (frz_d rfl (frz_I (P := chI (P ++ C) d) rfl (if_f (bT _ _ (call_ok (xs := [.val (.fz (.list (dI (chI (P ++ C) d)))), .val (.ls (oI (chI (P ++ C) d)))]) (ev_cons rfl (ev_cons (call_ok (xs := [.val (.ls (oI (P ++ C))), .val (.fz (.int d))]) (ow := .ls (oI (chI (P ++ C) d))) (ev_cons (cat _) rfl) ?_) rfl)) ?_)) rfl)))) (frz_d rfl (if_f (bF _ _ ((bin_v (un_v cmp (len_I (isI_ls []))) rfl (gt_s _ _)).trans ?_)) rfl)))), _, _, _, rfl, .inr rfl⟩
    · show φ_chain [.own (.fz (Ow.ls (oI (P ++ C))).toD), _] = _
      rw [oI_toD]; exact cs
    · show φ__law_chain [.own (.fz (Ow.ls (oI (P ++ C))).toD), _] = _
      rw [oI_toD]; exact ls
    · show φ__law_are_numbers [_, .own (.fz (Ow.ls (oI (chI (P ++ C) d))).toD)] = _
      rw [oI_toD]; exact an
    · rfl)
  have lP' : fut P ++ [(n : Int) + 1] = chI (P ++ [7]) (n + 1) := by have := chain7 P; rw [lP] at this; exact this.symm
  have c7 := chain_s (P := P ++ [7]) (d := .list (dI (P ++ [7]))) (m := n + 1) rfl H7 (by omega) (by simp; omega)
  rw [← lP'] at c7
  refine run_ret _ ?_
  have fz5 : ∀ (X : List Int), (Ow.ls (oI X)).toD = .list (dI X) := oI_toD
  refine seq_n (set_v (ow := .fz (.int n)) ?_) ?_
  · rw [← en]
    exact bin_v rfl (bin_v (un_v (call_ok rfl ec0) (int_s _)) rfl (mod_s _ _ (by decide))) (add_s _ _)
  refine seq_n (set_v (un_v (call_ok rfl ec1) (int_s _))) ?_
  refine seq_n (set_v (bin_v (x := .val (.ls (oI [8, 2, 3, 8]))) rfl (bin_v rfl rfl (mod_s _ _ (by decide))) es)) ?_
  refine seq_n (set_v (ow := .fz (.int sh)) ?_) ?_
  · rw [← esh]
    exact bin_v (bin_v rfl rfl (sub_s _ _)) (bin_v (bin_v rfl rfl (div_s _ _ (by decide))) rfl (mod_s _ _ (by decide))) (mul_l _ _ (by omega))
  refine seq_n (frz_d rfl (set_v (ow := .ls (oI P)) ?_)) ?_
  · rw [← hP]
    refine (comp_I (L := L) (fun _ => true) (fun x => x + sh) (row_I (call_ok (xs := [.val (.fz (.int c2)), .val (.fz (.int n)), .val (.fz (.int sz))]) (ev_cons (call_ok rfl ec2) rfl) eL) (.inr rfl)) (by omega) fun x hx => ⟨rfl, fun _ => rfl⟩).trans ?_
    rw [List.filter_eq_self.mpr (fun _ _ => rfl)]
  refine seq_n (set_v (ow := .fz (.int mn)) ?_) ?_
  · rw [← emn]
    have mi : fMin (.val (.fz (.int 3))) (.val (.fz (.int (12 - n)))) = .ok (.val (.fz (.int m3))) := by
      rw [← em3]; rfl
    exact bin_v rfl (bin_v (un_v (call_ok rfl ec3) (int_s _)) (bin_v rfl (bin_v rfl rfl (sub_s _ _)) mi) (mod_s _ _ (by omega))) (add_s _ _)
  refine seq_n (set_v (call_ok (xs := [.val (.fz (.int c4)), .val (.fz (.int mn)), .val (.fz (.int 8))]) (ev_cons (call_ok rfl ec4) rfl) eC)) ?_
  refine seq_n (frz_I (P := P) rfl (set_v (call_ok (xs := [.val (.fz (.list (dI P)))]) rfl fu))) ?_
  refine seq_n (frz_d rfl (set_v (un_v rfl (list_I (isI_fz P))))) ?_
  refine seq_n (frz_I (P := P) rfl (set_v (call_ok (xs := [.val (.fz (.list (dI P)))]) rfl fd))) ?_
  refine seq_n (frz_I (P := fut P) rfl (if_f (or_f (bF _ _ (bin_v (x := .val (.fz (.list (dI P)))) (y := .val (.fz (.list (dI P)))) rfl rfl (fNe_same (n := 2) rfl (flat_dI 1 P)))) (bT _ _ (call_ok (xs := [.ref 10 [] (.ls (oI (fut P))), .val (.fz (.list (dI (fut P))))]) rfl ?_))) rfl)) ?_
  · show φ__law_are_numbers [.bor (Ow.ls (oI (fut P))).toD, _] = _
    rw [oI_toD]
    exact are_numbers_s (.inl rfl) (by omega)
  refine seq_n (app_s (xs := oI (fut P)) (ow := .fz (.int ((n : Int) + 1))) rfl (bin_v rfl rfl (add_s _ _)) rfl (by rw [oI_len]; omega)) ?_
  rw [oI_app]
  refine seq_n (frz_d rfl (frz_d rfl (if_f (bT _ _ (call_ok (xs := [.val (.ls (oI (fut P))), .val (.fz (.list (dI (fut P))))]) (ev_cons (call_ok (xs := [.val (.fz (.tuple (dI P)))]) (ev_cons (un_v rfl (tup_s (d := .list (dI P)) rfl)) rfl) fdt) rfl) ?_)) rfl))) ?_
  · show φ__law_are_numbers [.own (.fz (Ow.ls (oI (fut P))).toD), _] = _
    rw [oI_toD]
    exact are_numbers_s (.inr rfl) (by omega)
  refine seq_n (for_n (rng2_s (m := n + 1) (n := n + mn + 1) (bin_v rfl rfl (add_s _ _)) (bin_v (bin_v rfl rfl (add_s _ _)) rfl (add_s _ _)) (by omega) (by omega) (by omega) (by omega)) e) ?_
  refine seq_n (ρ' := st s7 o10 o11) (frz_d rfl (frz_d rfl (if_f (bT _ _ (call_ok (xs := [.val (.ls (oI (fut P ++ [(n : Int) + 1]))), .val (.ls (oI (fut P ++ [(n : Int) + 1])))]) (ev_cons (call_ok (xs := [.val (.ls (oI (P ++ [7]))), .val (.fz (.int ((n + 1 : Nat) : Int)))]) (ow := .ls (oI (fut P ++ [(n : Int) + 1]))) (ev_cons (bin_v (y := .val (.ls (oI [7]))) rfl rfl (cat_I (isI_fz P) (isI_ls _) (by simp; omega))) (ev_cons (bin_v rfl rfl (add_s _ _)) rfl)) ?_) (ev_cons (bin_v (y := .val (.ls (oI [(n : Int) + 1]))) rfl rfl (cat_I (isI_fz (fut P)) (isI_ls _) (by simp; omega))) rfl)) ?_)) rfl))) ?_
  · show φ_chain [.own (.fz (Ow.ls (oI (P ++ [7]))).toD), _] = _
    rw [oI_toD]; exact c7
  · show φ__law_are_numbers [.own (.fz (Ow.ls (oI _)).toD), .own (.fz (Ow.ls (oI _)).toD)] = _
    rw [oI_toD]
    exact are_numbers_s (.inr rfl) (by simp; omega)
  by_cases h9 : n ≤ 9
  · have t9 : VL.tB (eBin fGt (eVar 1) (eK (.int 9))) (st s7 o10 o11) = .ok false := by
      have : ¬ (9 : Int) < n := by omega
      simp [VL.runBody, VL.sSeq, VL.sIf, VL.sRet, VL.sSet, VL.sFrz, VL.frzSl, VL.sUnp, VL.RV.parts, VL.sFor, VL.sApp, VL.sPass, VL.putAt, VL.Ow.put, VL.eVar, VL.Sl.rv, VL.eK, VL.rD, VL.eUn, VL.eBin, VL.eCall, VL.evalAll, VL.RV.arg, VL.Res.bind, VL.RV.d, VL.Ow.toD, VL.tB, VL.tAnd, VL.tOr, VL.tNot, VL.tYes, VL.eAnd, VL.eOr, VL.fNot, VL.eIf, VL.eChain, VL.fNeg, VL.fIsN, VL.fNotN, VL.isN, VL.fIsI, VL.fIsIs, VL.inst, VL.setAll, VL.RV.ow, VL.owsOf, VL.eLst, VL.eTup, VL.iRow, VL.iRng1, VL.iRng2, VL.iEnum, VL.RV.iter, VL.slOf, VL.mul_r, VL.mul_l, VL.mod_s, VL.div_s, VL.add_s, VL.sub_s, VL.int_s, VL.lt_s, VL.le_s, VL.gt_s, VL.ge_s, VL.fEq_int, VL.fNe_int, st, this]
    refine seq_n (if_f t9 rfl) ?_
    generalize hC' : C.take (10 - (n : Int)).toNat = C'
    have lC' : 1 ≤ C'.length ∧ C'.length ≤ 10 - n ∧ C'.length ≤ mn := by rw [← hC', List.length_take]; omega
    have rC' : ∀ x ∈ C', 0 ≤ x ∧ x ≤ 7 := fun x hx => by rw [← hC'] at hx; exact rC x (List.mem_of_mem_take hx)
    have lW' : (P ++ C').length = n + C'.length := by rw [List.length_append, lP]
    have HW' : LevOk (P ++ C') := ⟨by omega, by omega, fun x hx => by
      rcases List.mem_append.mp hx with q | q
      · exact rP x q
      · exact rC' x q⟩
    obtain ⟨T, eT, lT, hT⟩ := table_s ns (n := n + C'.length) (by omega) (by omega)
    have hh := house_holds_s (P := P) (C := C') (T := T) HW' (by omega) (by omega) hT (by omega)
    have hT' := tab_take hT (j := n + 1) (by omega)
    have nd := all_needed_s (P := P) (T := T.take (n + 1)) HP (by omega) hT' (by rw [List.length_take]; omega)
    refine seq_n (frz_S rfl h7 (set_v (ow := .ls (oI C')) ?_)) ?_
    · refine (slice_fz (ds := dI C) (h := 10 - (n : Int)) rfl (bin_v rfl rfl (sub_s _ _)) (by omega)).trans ?_
      rw [← hC']
      unfold dI
      rw [← List.map_take]
      show _ = Res.ok (RV.val (.ls (oI _)))
      rw [← oI_fz]
      rfl
    refine seq_n (set_v (call_ok (xs := [.val (.fz (.list (dI ns))), .val (.fz (.int ((n + C'.length : Nat) : Int)))]) (ev_cons rfl (ev_cons (bin_v rfl (un_v rfl (len_I (isI_ref 7 [] C'))) (add_s _ _)) rfl)) eT)) ?_
    refine frz_d rfl (frz_n ?_)
    show sFrz 7 _ [some (scr ns), some (.own (.fz (.int n))), some (.own (.fz (.int c1))), some (.own (.fz (.int sz))), some (.own (.fz (.int sh))), some (Lx P), some (.own (.fz (.int mn))), some (.own (.ls (oI C'))), some (Lx (fut P)), some (Lx P), o10, o11, some (.own (.fz (lsO (T.map dI)).toD)), none, none] = _
    rw [lsO_D]
    refine frz_I (P := C') rfl (frz_d rfl (ret_v (eand_v (call_ok (xs := [.val (.fz (.list (dI P))), .val (.fz (.list (dI C'))), .val (.fz (lD T)), .val (.fz (.list (dI (fut P))))]) rfl hh) (call_ok (xs := [.val (.fz (.list (dI P))), .val (.ls (((T.map fun Z => PyData.list (dI Z)).take (n + 1)).map Ow.fz)), .val (.fz (.list (dI (fut P))))]) (ev_cons rfl (ev_cons ((slice_fz (ds := T.map fun Z => PyData.list (dI Z)) (h := (n : Int) + 1) rfl (bin_v rfl rfl (add_s _ _)) (by omega)).trans ?_) rfl)) ?_))))
    · rw [show ((n : Int) + 1).toNat = n + 1 by omega]
    · show φ__law_all_needed [_, .own (.fz (.list (toDs (((T.map fun Z => PyData.list (dI Z)).take (n + 1)).map Ow.fz)))), _] = _
      rw [toDs_fz, ← List.map_take]
      exact nd
  · have t9 : VL.tB (eBin fGt (eVar 1) (eK (.int 9))) (st s7 o10 o11) = .ok true := by
      have : (9 : Int) < n := by omega
      simp [VL.runBody, VL.sSeq, VL.sIf, VL.sRet, VL.sSet, VL.sFrz, VL.frzSl, VL.sUnp, VL.RV.parts, VL.sFor, VL.sApp, VL.sPass, VL.putAt, VL.Ow.put, VL.eVar, VL.Sl.rv, VL.eK, VL.rD, VL.eUn, VL.eBin, VL.eCall, VL.evalAll, VL.RV.arg, VL.Res.bind, VL.RV.d, VL.Ow.toD, VL.tB, VL.tAnd, VL.tOr, VL.tNot, VL.tYes, VL.eAnd, VL.eOr, VL.fNot, VL.eIf, VL.eChain, VL.fNeg, VL.fIsN, VL.fNotN, VL.isN, VL.fIsI, VL.fIsIs, VL.inst, VL.setAll, VL.RV.ow, VL.owsOf, VL.eLst, VL.eTup, VL.iRow, VL.iRng1, VL.iRng2, VL.iEnum, VL.RV.iter, VL.slOf, VL.mul_r, VL.mul_l, VL.mod_s, VL.div_s, VL.add_s, VL.sub_s, VL.int_s, VL.lt_s, VL.le_s, VL.gt_s, VL.ge_s, VL.fEq_int, VL.fNe_int, st, this]
    exact seq_r (if_t t9 (ret_v rfl))
end K41

set_option Elab.async false
set_option linter.all false
set_option maxRecDepth 100000
namespace K41
open PySem PySem.Spec PyProof.Rows L2 VL
theorem all_mk {l : PySem.W.OpenLaw} {w : World} {K : Frag} {h : Heap} {mg : Str → Option Value} {fa : Addr} {f0 : Addr} {od0 an0 : Option Addr} {sl0 : Array (Option Value)} {oc0 kV0 dc0 pm0 cd0 ct0 : Value} {f1 : Addr} {od1 an1 : Option Addr} {sl1 : Array (Option Value)} {oc1 kV1 dc1 pm1 cd1 ct1 : Value} {f2 : Addr} {od2 an2 : Option Addr} {sl2 : Array (Option Value)} {oc2 kV2 dc2 pm2 cd2 ct2 : Value} {f3 : Addr} {od3 an3 : Option Addr} {sl3 : Array (Option Value)} {oc3 kV3 dc3 pm3 cd3 ct3 : Value} {f4 : Addr} {od4 an4 : Option Addr} {sl4 : Array (Option Value)} {oc4 kV4 dc4 pm4 cd4 ct4 : Value} {f5 : Addr} {od5 an5 : Option Addr} {sl5 : Array (Option Value)} {oc5 kV5 dc5 pm5 cd5 ct5 : Value} {f6 : Addr} {od6 an6 : Option Addr} {sl6 : Array (Option Value)} {oc6 kV6 dc6 pm6 cd6 ct6 : Value} {f7 : Addr} {od7 an7 : Option Addr} {sl7 : Array (Option Value)} {oc7 kV7 dc7 pm7 cd7 ct7 : Value} {f8 : Addr} {od8 an8 : Option Addr} {sl8 : Array (Option Value)} {oc8 kV8 dc8 pm8 cd8 ct8 : Value} {f9 : Addr} {od9 an9 : Option Addr} {sl9 : Array (Option Value)} {oc9 kV9 dc9 pm9 cd9 ct9 : Value} {f10 : Addr} {od10 an10 : Option Addr} {sl10 : Array (Option Value)} {oc10 kV10 dc10 pm10 cd10 ct10 : Value} {f11 : Addr} {od11 an11 : Option Addr} {sl11 : Array (Option Value)} {oc11 kV11 dc11 pm11 cd11 ct11 : Value} {f12 : Addr} {od12 an12 : Option Addr} {sl12 : Array (Option Value)} {oc12 kV12 dc12 pm12 cd12 ct12 : Value} {f13 : Addr} {od13 an13 : Option Addr} {sl13 : Array (Option Value)} {oc13 kV13 dc13 pm13 cd13 ct13 : Value} {f14 : Addr} {od14 an14 : Option Addr} {sl14 : Array (Option Value)} {oc14 kV14 dc14 pm14 cd14 ct14 : Value} {f15 : Addr} {od15 an15 : Option Addr} {sl15 : Array (Option Value)} {oc15 kV15 dc15 pm15 cd15 ct15 : Value} {f16 : Addr} {od16 an16 : Option Addr} {sl16 : Array (Option Value)} {oc16 kV16 dc16 pm16 cd16 ct16 : Value} {f17 : Addr} {od17 an17 : Option Addr} {sl17 : Array (Option Value)} {oc17 kV17 dc17 pm17 cd17 ct17 : Value} {f18 : Addr} {od18 an18 : Option Addr} {sl18 : Array (Option Value)} {oc18 kV18 dc18 pm18 cd18 ct18 : Value} {f19 : Addr} {od19 an19 : Option Addr} {sl19 : Array (Option Value)} {oc19 kV19 dc19 pm19 cd19 ct19 : Value} {f20 : Addr} {od20 an20 : Option Addr} {sl20 : Array (Option Value)} {oc20 kV20 dc20 pm20 cd20 ct20 : Value} {f21 : Addr} {od21 an21 : Option Addr} {sl21 : Array (Option Value)} {oc21 kV21 dc21 pm21 cd21 ct21 : Value} {f22 : Addr} {od22 an22 : Option Addr} {sl22 : Array (Option Value)} {oc22 kV22 dc22 pm22 cd22 ct22 : Value} {f23 : Addr} {od23 an23 : Option Addr} {sl23 : Array (Option Value)} {oc23 kV23 dc23 pm23 cd23 ct23 : Value} {f24 : Addr} {od24 an24 : Option Addr} {sl24 : Array (Option Value)} {oc24 kV24 dc24 pm24 cd24 ct24 : Value} {f25 : Addr} {od25 an25 : Option Addr} {sl25 : Array (Option Value)} {oc25 kV25 dc25 pm25 cd25 ct25 : Value} {f26 : Addr} {od26 an26 : Option Addr} {sl26 : Array (Option Value)} {oc26 kV26 dc26 pm26 cd26 ct26 : Value} {f27 : Addr} {od27 an27 : Option Addr} {sl27 : Array (Option Value)} {oc27 kV27 dc27 pm27 cd27 ct27 : Value} {f28 : Addr} {od28 an28 : Option Addr} {sl28 : Array (Option Value)} {oc28 kV28 dc28 pm28 cd28 ct28 : Value} {f29 : Addr} {od29 an29 : Option Addr} {sl29 : Array (Option Value)} {oc29 kV29 dc29 pm29 cd29 ct29 : Value} {f30 : Addr} {od30 an30 : Option Addr} {sl30 : Array (Option Value)} {oc30 kV30 dc30 pm30 cd30 ct30 : Value} {f31 : Addr} {od31 an31 : Option Addr} {sl31 : Array (Option Value)} {oc31 kV31 dc31 pm31 cd31 ct31 : Value} {f32 : Addr} {od32 an32 : Option Addr} {sl32 : Array (Option Value)} {oc32 kV32 dc32 pm32 cd32 ct32 : Value} {f33 : Addr} {od33 an33 : Option Addr} {sl33 : Array (Option Value)} {oc33 kV33 dc33 pm33 cd33 ct33 : Value} {f34 : Addr} {od34 an34 : Option Addr} {sl34 : Array (Option Value)} {oc34 kV34 dc34 pm34 cd34 ct34 : Value} {f35 : Addr} {od35 an35 : Option Addr} {sl35 : Array (Option Value)} {oc35 kV35 dc35 pm35 cd35 ct35 : Value} {t0 : Tok} {t1 : Tok} {t2 : Tok} {t3 : Tok} {t4 : Tok}
    (X : K.In h) (G : h.Ns mainGlobals mg) (hfa : mg "law" = some (.ref fa)) (a0 : PySem.W.nsIn K mainGlobals "_law_row" = some (some (.ref f0)))
    (l0 : K.lookup f0 = some ⟨oc0, od0, .func (PySem.W.fnOf "_law_row" "_law_row" (defArgs s__law_row) (defBody s__law_row) (defScope s__law_row) .none kV0 dc0 pm0 an0 cd0 ct0), sl0⟩)
    (c0 : PySem.W.codeIn K cd0 "_law_row" = true)
    (k0 : PySem.W.keepIn K (.ref f0) = true)
    (a1 : PySem.W.nsIn K mainGlobals "_law_base" = some (some (.ref f1)))
    (l1 : K.lookup f1 = some ⟨oc1, od1, .func (PySem.W.fnOf "_law_base" "_law_base" (defArgs s__law_base) (defBody s__law_base) (defScope s__law_base) .none kV1 dc1 pm1 an1 cd1 ct1), sl1⟩)
    (c1 : PySem.W.codeIn K cd1 "_law_base" = true)
    (k1 : PySem.W.keepIn K (.ref f1) = true)
    (a2 : PySem.W.nsIn K mainGlobals "_law_chain" = some (some (.ref f2)))
    (l2 : K.lookup f2 = some ⟨oc2, od2, .func (PySem.W.fnOf "_law_chain" "_law_chain" (defArgs s__law_chain) (defBody s__law_chain) (defScope s__law_chain) .none kV2 dc2 pm2 an2 cd2 ct2), sl2⟩)
    (c2 : PySem.W.codeIn K cd2 "_law_chain" = true)
    (k2 : PySem.W.keepIn K (.ref f2) = true)
    (a3 : PySem.W.nsIn K mainGlobals "_law_future" = some (some (.ref f3)))
    (l3 : K.lookup f3 = some ⟨oc3, od3, .func (PySem.W.fnOf "_law_future" "_law_future" (defArgs s__law_future) (defBody s__law_future) (defScope s__law_future) .none kV3 dc3 pm3 an3 cd3 ct3), sl3⟩)
    (c3 : PySem.W.codeIn K cd3 "_law_future" = true)
    (k3 : PySem.W.keepIn K (.ref f3) = true)
    (a4 : PySem.W.nsIn K mainGlobals "is_row" = some (some (.ref f4)))
    (l4 : K.lookup f4 = some ⟨oc4, od4, .func (PySem.W.fnOf "is_row" "is_row" (defArgs s_is_row) (defBody s_is_row) (defScope s_is_row) .none kV4 dc4 pm4 an4 cd4 ct4), sl4⟩)
    (c4 : PySem.W.codeIn K cd4 "is_row" = true)
    (k4 : PySem.W.keepIn K (.ref f4) = true)
    (a5 : PySem.W.nsIn K mainGlobals "is_number" = some (some (.ref f5)))
    (l5 : K.lookup f5 = some ⟨oc5, od5, .func (PySem.W.fnOf "is_number" "is_number" (defArgs s_is_number) (defBody s_is_number) (defScope s_is_number) .none kV5 dc5 pm5 an5 cd5 ct5), sl5⟩)
    (c5 : PySem.W.codeIn K cd5 "is_number" = true)
    (k5 : PySem.W.keepIn K (.ref f5) = true)
    (a6 : PySem.W.nsIn K mainGlobals "check_small_row" = some (some (.ref f6)))
    (l6 : K.lookup f6 = some ⟨oc6, od6, .func (PySem.W.fnOf "check_small_row" "check_small_row" (defArgs s_check_small_row) (defBody s_check_small_row) (defScope s_check_small_row) .none kV6 dc6 pm6 an6 cd6 ct6), sl6⟩)
    (c6 : PySem.W.codeIn K cd6 "check_small_row" = true)
    (k6 : PySem.W.keepIn K (.ref f6) = true)
    (a7 : PySem.W.nsIn K mainGlobals "check_levels" = some (some (.ref f7)))
    (l7 : K.lookup f7 = some ⟨oc7, od7, .func (PySem.W.fnOf "check_levels" "check_levels" (defArgs s_check_levels) (defBody s_check_levels) (defScope s_check_levels) .none kV7 dc7 pm7 an7 cd7 ct7), sl7⟩)
    (c7 : PySem.W.codeIn K cd7 "check_levels" = true)
    (k7 : PySem.W.keepIn K (.ref f7) = true)
    (a8 : PySem.W.nsIn K mainGlobals "chain_of" = some (some (.ref f8)))
    (l8 : K.lookup f8 = some ⟨oc8, od8, .func (PySem.W.fnOf "chain_of" "chain_of" (defArgs s_chain_of) (defBody s_chain_of) (defScope s_chain_of) .none kV8 dc8 pm8 an8 cd8 ct8), sl8⟩)
    (c8 : PySem.W.codeIn K cd8 "chain_of" = true)
    (k8 : PySem.W.keepIn K (.ref f8) = true)
    (a9 : PySem.W.nsIn K mainGlobals "base_list" = some (some (.ref f9)))
    (l9 : K.lookup f9 = some ⟨oc9, od9, .func (PySem.W.fnOf "base_list" "base_list" (defArgs s_base_list) (defBody s_base_list) (defScope s_base_list) .none kV9 dc9 pm9 an9 cd9 ct9), sl9⟩)
    (c9 : PySem.W.codeIn K cd9 "base_list" = true)
    (k9 : PySem.W.keepIn K (.ref f9) = true)
    (a10 : PySem.W.nsIn K mainGlobals "future_days" = some (some (.ref f10)))
    (l10 : K.lookup f10 = some ⟨oc10, od10, .func (PySem.W.fnOf "future_days" "future_days" (defArgs s_future_days) (defBody s_future_days) (defScope s_future_days) .none kV10 dc10 pm10 an10 cd10 ct10), sl10⟩)
    (c10 : PySem.W.codeIn K cd10 "future_days" = true)
    (k10 : PySem.W.keepIn K (.ref f10) = true)
    (a11 : PySem.W.nsIn K mainGlobals "_law_cell" = some (some (.ref f11)))
    (l11 : K.lookup f11 = some ⟨oc11, od11, .func (PySem.W.fnOf "_law_cell" "_law_cell" (defArgs s__law_cell) (defBody s__law_cell) (defScope s__law_cell) .none kV11 dc11 pm11 an11 cd11 ct11), sl11⟩)
    (c11 : PySem.W.codeIn K cd11 "_law_cell" = true)
    (k11 : PySem.W.keepIn K (.ref f11) = true)
    (a12 : PySem.W.nsIn K mainGlobals "_law_table" = some (some (.ref f12)))
    (l12 : K.lookup f12 = some ⟨oc12, od12, .func (PySem.W.fnOf "_law_table" "_law_table" (defArgs s__law_table) (defBody s__law_table) (defScope s__law_table) .none kV12 dc12 pm12 an12 cd12 ct12), sl12⟩)
    (c12 : PySem.W.codeIn K cd12 "_law_table" = true)
    (k12 : PySem.W.keepIn K (.ref f12) = true)
    (a13 : PySem.W.nsIn K mainGlobals "_law_is_number" = some (some (.ref f13)))
    (l13 : K.lookup f13 = some ⟨oc13, od13, .func (PySem.W.fnOf "_law_is_number" "_law_is_number" (defArgs s__law_is_number) (defBody s__law_is_number) (defScope s__law_is_number) .none kV13 dc13 pm13 an13 cd13 ct13), sl13⟩)
    (c13 : PySem.W.codeIn K cd13 "_law_is_number" = true)
    (k13 : PySem.W.keepIn K (.ref f13) = true)
    (a14 : PySem.W.nsIn K mainGlobals "_law_are_numbers" = some (some (.ref f14)))
    (l14 : K.lookup f14 = some ⟨oc14, od14, .func (PySem.W.fnOf "_law_are_numbers" "_law_are_numbers" (defArgs s__law_are_numbers) (defBody s__law_are_numbers) (defScope s__law_are_numbers) .none kV14 dc14 pm14 an14 cd14 ct14), sl14⟩)
    (c14 : PySem.W.codeIn K cd14 "_law_are_numbers" = true)
    (k14 : PySem.W.keepIn K (.ref f14) = true)
    (a15 : PySem.W.nsIn K mainGlobals "check_number" = some (some (.ref f15)))
    (l15 : K.lookup f15 = some ⟨oc15, od15, .func (PySem.W.fnOf "check_number" "check_number" (defArgs s_check_number) (defBody s_check_number) (defScope s_check_number) .none kV15 dc15 pm15 an15 cd15 ct15), sl15⟩)
    (c15 : PySem.W.codeIn K cd15 "check_number" = true)
    (k15 : PySem.W.keepIn K (.ref f15) = true)
    (a16 : PySem.W.nsIn K mainGlobals "chain" = some (some (.ref f16)))
    (l16 : K.lookup f16 = some ⟨oc16, od16, .func (PySem.W.fnOf "chain" "chain" (defArgs s_chain) (defBody s_chain) (defScope s_chain) .none kV16 dc16 pm16 an16 cd16 ct16), sl16⟩)
    (c16 : PySem.W.codeIn K cd16 "chain" = true)
    (k16 : PySem.W.keepIn K (.ref f16) = true)
    (a17 : PySem.W.nsIn K mainGlobals "_law_house" = some (some (.ref f17)))
    (l17 : K.lookup f17 = some ⟨oc17, od17, .func (PySem.W.fnOf "_law_house" "_law_house" (defArgs s__law_house) (defBody s__law_house) (defScope s__law_house) .none kV17 dc17 pm17 an17 cd17 ct17), sl17⟩)
    (c17 : PySem.W.codeIn K cd17 "_law_house" = true)
    (k17 : PySem.W.keepIn K (.ref f17) = true)
    (a18 : PySem.W.nsIn K mainGlobals "is_sizes" = some (some (.ref f18)))
    (l18 : K.lookup f18 = some ⟨oc18, od18, .func (PySem.W.fnOf "is_sizes" "is_sizes" (defArgs s_is_sizes) (defBody s_is_sizes) (defScope s_is_sizes) .none kV18 dc18 pm18 an18 cd18 ct18), sl18⟩)
    (c18 : PySem.W.codeIn K cd18 "is_sizes" = true)
    (k18 : PySem.W.keepIn K (.ref f18) = true)
    (a19 : PySem.W.nsIn K mainGlobals "check_weights" = some (some (.ref f19)))
    (l19 : K.lookup f19 = some ⟨oc19, od19, .func (PySem.W.fnOf "check_weights" "check_weights" (defArgs s_check_weights) (defBody s_check_weights) (defScope s_check_weights) .none kV19 dc19 pm19 an19 cd19 ct19), sl19⟩)
    (c19 : PySem.W.codeIn K cd19 "check_weights" = true)
    (k19 : PySem.W.keepIn K (.ref f19) = true)
    (a20 : PySem.W.nsIn K mainGlobals "check_plan" = some (some (.ref f20)))
    (l20 : K.lookup f20 = some ⟨oc20, od20, .func (PySem.W.fnOf "check_plan" "check_plan" (defArgs s_check_plan) (defBody s_check_plan) (defScope s_check_plan) .none kV20 dc20 pm20 an20 cd20 ct20), sl20⟩)
    (c20 : PySem.W.codeIn K cd20 "check_plan" = true)
    (k20 : PySem.W.keepIn K (.ref f20) = true)
    (a21 : PySem.W.nsIn K mainGlobals "level_house" = some (some (.ref f21)))
    (l21 : K.lookup f21 = some ⟨oc21, od21, .func (PySem.W.fnOf "level_house" "level_house" (defArgs s_level_house) (defBody s_level_house) (defScope s_level_house) .none kV21 dc21 pm21 an21 cd21 ct21), sl21⟩)
    (c21 : PySem.W.codeIn K cd21 "level_house" = true)
    (k21 : PySem.W.keepIn K (.ref f21) = true)
    (a22 : PySem.W.nsIn K mainGlobals "given_days" = some (some (.ref f22)))
    (l22 : K.lookup f22 = some ⟨oc22, od22, .func (PySem.W.fnOf "given_days" "given_days" (defArgs s_given_days) (defBody s_given_days) (defScope s_given_days) .none kV22 dc22 pm22 an22 cd22 ct22), sl22⟩)
    (c22 : PySem.W.codeIn K cd22 "given_days" = true)
    (k22 : PySem.W.keepIn K (.ref f22) = true)
    (a23 : PySem.W.nsIn K mainGlobals "days_of" = some (some (.ref f23)))
    (l23 : K.lookup f23 = some ⟨oc23, od23, .func (PySem.W.fnOf "days_of" "days_of" (defArgs s_days_of) (defBody s_days_of) (defScope s_days_of) .none kV23 dc23 pm23 an23 cd23 ct23), sl23⟩)
    (c23 : PySem.W.codeIn K cd23 "days_of" = true)
    (k23 : PySem.W.keepIn K (.ref f23) = true)
    (a24 : PySem.W.nsIn K mainGlobals "check_frame" = some (some (.ref f24)))
    (l24 : K.lookup f24 = some ⟨oc24, od24, .func (PySem.W.fnOf "check_frame" "check_frame" (defArgs s_check_frame) (defBody s_check_frame) (defScope s_check_frame) .none kV24 dc24 pm24 an24 cd24 ct24), sl24⟩)
    (c24 : PySem.W.codeIn K cd24 "check_frame" = true)
    (k24 : PySem.W.keepIn K (.ref f24) = true)
    (a25 : PySem.W.nsIn K mainGlobals "is_link" = some (some (.ref f25)))
    (l25 : K.lookup f25 = some ⟨oc25, od25, .func (PySem.W.fnOf "is_link" "is_link" (defArgs s_is_link) (defBody s_is_link) (defScope s_is_link) .none kV25 dc25 pm25 an25 cd25 ct25), sl25⟩)
    (c25 : PySem.W.codeIn K cd25 "is_link" = true)
    (k25 : PySem.W.keepIn K (.ref f25) = true)
    (a26 : PySem.W.nsIn K mainGlobals "check_house" = some (some (.ref f26)))
    (l26 : K.lookup f26 = some ⟨oc26, od26, .func (PySem.W.fnOf "check_house" "check_house" (defArgs s_check_house) (defBody s_check_house) (defScope s_check_house) .none kV26 dc26 pm26 an26 cd26 ct26), sl26⟩)
    (c26 : PySem.W.codeIn K cd26 "check_house" = true)
    (k26 : PySem.W.keepIn K (.ref f26) = true)
    (a27 : PySem.W.nsIn K mainGlobals "first_fault" = some (some (.ref f27)))
    (l27 : K.lookup f27 = some ⟨oc27, od27, .func (PySem.W.fnOf "first_fault" "first_fault" (defArgs s_first_fault) (defBody s_first_fault) (defScope s_first_fault) .none kV27 dc27 pm27 an27 cd27 ct27), sl27⟩)
    (c27 : PySem.W.codeIn K cd27 "first_fault" = true)
    (k27 : PySem.W.keepIn K (.ref f27) = true)
    (a28 : PySem.W.nsIn K mainGlobals "check_choice" = some (some (.ref f28)))
    (l28 : K.lookup f28 = some ⟨oc28, od28, .func (PySem.W.fnOf "check_choice" "check_choice" (defArgs s_check_choice) (defBody s_check_choice) (defScope s_check_choice) .none kV28 dc28 pm28 an28 cd28 ct28), sl28⟩)
    (c28 : PySem.W.codeIn K cd28 "check_choice" = true)
    (k28 : PySem.W.keepIn K (.ref f28) = true)
    (a29 : PySem.W.nsIn K mainGlobals "check_kept" = some (some (.ref f29)))
    (l29 : K.lookup f29 = some ⟨oc29, od29, .func (PySem.W.fnOf "check_kept" "check_kept" (defArgs s_check_kept) (defBody s_check_kept) (defScope s_check_kept) .none kV29 dc29 pm29 an29 cd29 ct29), sl29⟩)
    (c29 : PySem.W.codeIn K cd29 "check_kept" = true)
    (k29 : PySem.W.keepIn K (.ref f29) = true)
    (a30 : PySem.W.nsIn K mainGlobals "restorable" = some (some (.ref f30)))
    (l30 : K.lookup f30 = some ⟨oc30, od30, .func (PySem.W.fnOf "restorable" "restorable" (defArgs s_restorable) (defBody s_restorable) (defScope s_restorable) .none kV30 dc30 pm30 an30 cd30 ct30), sl30⟩)
    (c30 : PySem.W.codeIn K cd30 "restorable" = true)
    (k30 : PySem.W.keepIn K (.ref f30) = true)
    (a31 : PySem.W.nsIn K mainGlobals "_law_is_house" = some (some (.ref f31)))
    (l31 : K.lookup f31 = some ⟨oc31, od31, .func (PySem.W.fnOf "_law_is_house" "_law_is_house" (defArgs s__law_is_house) (defBody s__law_is_house) (defScope s__law_is_house) .none kV31 dc31 pm31 an31 cd31 ct31), sl31⟩)
    (c31 : PySem.W.codeIn K cd31 "_law_is_house" = true)
    (k31 : PySem.W.keepIn K (.ref f31) = true)
    (a32 : PySem.W.nsIn K mainGlobals "_law_restored" = some (some (.ref f32)))
    (l32 : K.lookup f32 = some ⟨oc32, od32, .func (PySem.W.fnOf "_law_restored" "_law_restored" (defArgs s__law_restored) (defBody s__law_restored) (defScope s__law_restored) .none kV32 dc32 pm32 an32 cd32 ct32), sl32⟩)
    (c32 : PySem.W.codeIn K cd32 "_law_restored" = true)
    (k32 : PySem.W.keepIn K (.ref f32) = true)
    (a33 : PySem.W.nsIn K mainGlobals "_law_house_holds" = some (some (.ref f33)))
    (l33 : K.lookup f33 = some ⟨oc33, od33, .func (PySem.W.fnOf "_law_house_holds" "_law_house_holds" (defArgs s__law_house_holds) (defBody s__law_house_holds) (defScope s__law_house_holds) .none kV33 dc33 pm33 an33 cd33 ct33), sl33⟩)
    (c33 : PySem.W.codeIn K cd33 "_law_house_holds" = true)
    (k33 : PySem.W.keepIn K (.ref f33) = true)
    (a34 : PySem.W.nsIn K mainGlobals "_law_all_needed" = some (some (.ref f34)))
    (l34 : K.lookup f34 = some ⟨oc34, od34, .func (PySem.W.fnOf "_law_all_needed" "_law_all_needed" (defArgs s__law_all_needed) (defBody s__law_all_needed) (defScope s__law_all_needed) .none kV34 dc34 pm34 an34 cd34 ct34), sl34⟩)
    (c34 : PySem.W.codeIn K cd34 "_law_all_needed" = true)
    (k34 : PySem.W.keepIn K (.ref f34) = true)
    (a35 : PySem.W.nsIn K mainGlobals "law" = some (some (.ref f35)))
    (l35 : K.lookup f35 = some ⟨oc35, od35, .func (PySem.W.fnOf "law" "law" (defArgs s_law) (defBody s_law) (defScope s_law) .none kV35 dc35 pm35 an35 cd35 ct35), sl35⟩)
    (c35 : PySem.W.codeIn K cd35 "law" = true)
    (k35 : PySem.W.keepIn K (.ref f35) = true)
    (z0 : PySem.W.nsIn K mainGlobals "int" = some none)
    (z1 : PySem.W.nsIn K mainGlobals "range" = some none)
    (z2 : PySem.W.nsIn K mainGlobals "len" = some none)
    (z3 : PySem.W.nsIn K mainGlobals "isinstance" = some none)
    (z4 : PySem.W.nsIn K mainGlobals "tuple" = some none)
    (z5 : PySem.W.nsIn K mainGlobals "list" = some none)
    (z6 : PySem.W.nsIn K mainGlobals "bool" = some none)
    (z7 : PySem.W.nsIn K mainGlobals "enumerate" = some none)
    (z8 : PySem.W.nsIn K mainGlobals "sorted" = some none)
    (z9 : PySem.W.nsIn K mainGlobals "min" = some none)
    (n0 : PySem.W.nsIn K mainGlobals "LEVEL_LIMIT" = some (some (.int 7 t0)))
    (n1 : PySem.W.nsIn K mainGlobals "LEVELS_LIMIT" = some (some (.int 12 t1)))
    (n2 : PySem.W.nsIn K mainGlobals "SIZE_LIMIT" = some (some (.int 999 t2)))
    (n3 : PySem.W.nsIn K mainGlobals "DAYS_LIMIT" = some (some (.int 10 t3)))
    (n4 : PySem.W.nsIn K mainGlobals "COPIES_LIMIT" = some (some (.int 30 t4))) :
    ∃ fd : FuncData, (∀ (s : Shared) (u : Value), BindsTo s fd ⟨[u], []⟩ [("script", u)]) ∧ ∀ base : Heap, K.In base → base.Ns mainGlobals mg → FOk l.prog w K mg base 7 fa fd ["script"] φ_law := by
  have e := hfa.symm.trans (PySem.W.mg_of X G a35)
  cases e
  have T : Txt mg := ⟨PySem.W.mg_none_of X G z0, PySem.W.mg_none_of X G z1, PySem.W.mg_none_of X G z2, PySem.W.mg_none_of X G z3, PySem.W.mg_none_of X G z4, PySem.W.mg_none_of X G z5, PySem.W.mg_none_of X G z6, PySem.W.mg_none_of X G z7, PySem.W.mg_none_of X G z8, PySem.W.mg_none_of X G z9, ⟨_, PySem.W.mg_of X G n0⟩, ⟨_, PySem.W.mg_of X G n1⟩, ⟨_, PySem.W.mg_of X G n2⟩, ⟨_, PySem.W.mg_of X G n3⟩, ⟨_, PySem.W.mg_of X G n4⟩⟩
  have F0 := fun_mk (st := s__law_row) l0 c0 k0
  have B0 := F0.binds (ps := ["cell", "count", "size"]) fun _ _ _ _ _ _ us hl => match us, hl with | [_, _, _], _ => rfl
  have F1 := fun_mk (st := s__law_base) l1 c1 k1
  have B1 := F1.binds (ps := ["plan", "day"]) fun _ _ _ _ _ _ us hl => match us, hl with | [_, _], _ => rfl
  have F2 := fun_mk (st := s__law_chain) l2 c2 k2
  have B2 := F2.binds (ps := ["plan", "day"]) fun _ _ _ _ _ _ us hl => match us, hl with | [_, _], _ => rfl
  have F3 := fun_mk (st := s__law_future) l3 c3 k3
  have B3 := F3.binds (ps := ["plan"]) fun _ _ _ _ _ _ us hl => match us, hl with | [_], _ => rfl
  have F4 := fun_mk (st := s_is_row) l4 c4 k4
  have B4 := F4.binds (ps := ["value"]) fun _ _ _ _ _ _ us hl => match us, hl with | [_], _ => rfl
  have F5 := fun_mk (st := s_is_number) l5 c5 k5
  have B5 := F5.binds (ps := ["value", "low", "high"]) fun _ _ _ _ _ _ us hl => match us, hl with | [_, _, _], _ => rfl
  have F6 := fun_mk (st := s_check_small_row) l6 c6 k6
  have B6 := F6.binds (ps := ["row", "most"]) fun _ _ _ _ _ _ us hl => match us, hl with | [_, _], _ => rfl
  have F7 := fun_mk (st := s_check_levels) l7 c7 k7
  have B7 := F7.binds (ps := ["levels"]) fun _ _ _ _ _ _ us hl => match us, hl with | [_], _ => rfl
  have F8 := fun_mk (st := s_chain_of) l8 c8 k8
  have B8 := F8.binds (ps := ["found", "day"]) fun _ _ _ _ _ _ us hl => match us, hl with | [_, _], _ => rfl
  have F9 := fun_mk (st := s_base_list) l9 c9 k9
  have B9 := F9.binds (ps := ["levels"]) fun _ _ _ _ _ _ us hl => match us, hl with | [_], _ => rfl
  have F10 := fun_mk (st := s_future_days) l10 c10 k10
  have B10 := F10.binds (ps := ["levels"]) fun _ _ _ _ _ _ us hl => match us, hl with | [_], _ => rfl
  have F11 := fun_mk (st := s__law_cell) l11 c11 k11
  have B11 := F11.binds (ps := ["script", "k"]) fun _ _ _ _ _ _ us hl => match us, hl with | [_, _], _ => rfl
  have F12 := fun_mk (st := s__law_table) l12 c12 k12
  have B12 := F12.binds (ps := ["script", "count"]) fun _ _ _ _ _ _ us hl => match us, hl with | [_, _], _ => rfl
  have F13 := fun_mk (st := s__law_is_number) l13 c13 k13
  have B13 := F13.binds (ps := ["told"]) fun _ _ _ _ _ _ us hl => match us, hl with | [_], _ => rfl
  have F14 := fun_mk (st := s__law_are_numbers) l14 c14 k14
  have B14 := F14.binds (ps := ["told", "due"]) fun _ _ _ _ _ _ us hl => match us, hl with | [_, _], _ => rfl
  have F15 := fun_mk (st := s_check_number) l15 c15 k15
  have B15 := F15.binds (ps := ["value", "low", "high", "what"]) fun _ _ _ _ _ _ us hl => match us, hl with | [_, _, _, _], _ => rfl
  have F16 := fun_mk (st := s_chain) l16 c16 k16
  have B16 := F16.binds (ps := ["levels", "day"]) fun _ _ _ _ _ _ us hl => match us, hl with | [_, _], _ => rfl
  have F17 := fun_mk (st := s__law_house) l17 c17 k17
  have B17 := F17.binds (ps := ["plan", "table"]) fun _ _ _ _ _ _ us hl => match us, hl with | [_, _], _ => rfl
  have F18 := fun_mk (st := s_is_sizes) l18 c18 k18
  have B18 := F18.binds (ps := ["value", "count"]) fun _ _ _ _ _ _ us hl => match us, hl with | [_, _], _ => rfl
  have F19 := fun_mk (st := s_check_weights) l19 c19 k19
  have B19 := F19.binds (ps := ["weights"]) fun _ _ _ _ _ _ us hl => match us, hl with | [_], _ => rfl
  have F20 := fun_mk (st := s_check_plan) l20 c20 k20
  have B20 := F20.binds (ps := ["weights", "levels"]) fun _ _ _ _ _ _ us hl => match us, hl with | [_, _], _ => rfl
  have F21 := fun_mk (st := s_level_house) l21 c21 k21
  have B21 := F21.binds (ps := ["weights", "levels"]) fun _ _ _ _ _ _ us hl => match us, hl with | [_, _], _ => rfl
  have F22 := fun_mk (st := s_given_days) l22 c22 k22
  have B22 := F22.binds (ps := ["copies", "sealed"]) fun _ _ _ _ _ _ us hl => match us, hl with | [_, _], _ => rfl
  have F23 := fun_mk (st := s_days_of) l23 c23 k23
  have B23 := F23.binds (ps := ["copies", "kept"]) fun _ _ _ _ _ _ us hl => match us, hl with | [_, _], _ => rfl
  have F24 := fun_mk (st := s_check_frame) l24 c24 k24
  have B24 := F24.binds (ps := ["house"]) fun _ _ _ _ _ _ us hl => match us, hl with | [_], _ => rfl
  have F25 := fun_mk (st := s_is_link) l25 c25 k25
  have B25 := F25.binds (ps := ["days", "base", "day"]) fun _ _ _ _ _ _ us hl => match us, hl with | [_, _, _], _ => rfl
  have F26 := fun_mk (st := s_check_house) l26 c26 k26
  have B26 := F26.binds (ps := ["house"]) fun _ _ _ _ _ _ us hl => match us, hl with | [_], _ => rfl
  have F27 := fun_mk (st := s_first_fault) l27 c27 k27
  have B27 := F27.binds (ps := ["row", "low", "high"]) fun _ _ _ _ _ _ us hl => match us, hl with | [_, _, _], _ => rfl
  have F28 := fun_mk (st := s_check_choice) l28 c28 k28
  have B28 := F28.binds (ps := ["value", "low", "high"]) fun _ _ _ _ _ _ us hl => match us, hl with | [_, _, _], _ => rfl
  have F29 := fun_mk (st := s_check_kept) l29 c29 k29
  have B29 := F29.binds (ps := ["kept", "count"]) fun _ _ _ _ _ _ us hl => match us, hl with | [_, _], _ => rfl
  have F30 := fun_mk (st := s_restorable) l30 c30 k30
  have B30 := F30.binds (ps := ["house", "kept"]) fun _ _ _ _ _ _ us hl => match us, hl with | [_, _], _ => rfl
  have F31 := fun_mk (st := s__law_is_house) l31 c31 k31
  have B31 := F31.binds (ps := ["told", "due"]) fun _ _ _ _ _ _ us hl => match us, hl with | [_, _], _ => rfl
  have F32 := fun_mk (st := s__law_restored) l32 c32 k32
  have B32 := F32.binds (ps := ["plan", "kept"]) fun _ _ _ _ _ _ us hl => match us, hl with | [_, _], _ => rfl
  have F33 := fun_mk (st := s__law_house_holds) l33 c33 k33
  have B33 := F33.binds (ps := ["plan", "coming", "table", "future"]) fun _ _ _ _ _ _ us hl => match us, hl with | [_, _, _, _], _ => rfl
  have F34 := fun_mk (st := s__law_all_needed) l34 c34 k34
  have B34 := F34.binds (ps := ["plan", "table", "future"]) fun _ _ _ _ _ _ us hl => match us, hl with | [_, _, _], _ => rfl
  have F35 := fun_mk (st := s_law) l35 c35 k35
  have B35 := F35.binds (ps := ["script"]) fun _ _ _ _ _ _ us hl => match us, hl with | [_], _ => rfl
  refine ⟨PySem.W.fnOf "law" "law" (defArgs s_law) (defBody s_law) (defScope s_law) .none kV35 dc35 pm35 an35 cd35 ct35, fun s v => ?_, fun base _ _ => ?_⟩
  rotate_left
  · have D0 := Df.mk' (x := "_law_row") F0 (PySem.W.mg_of X G a0) B0 (ok__law_row (P := l.prog) (w := w) (base := base) F0 T )
    have D1 := Df.mk' (x := "_law_base") F1 (PySem.W.mg_of X G a1) B1 (ok__law_base (P := l.prog) (w := w) (base := base) F1 T )
    have D2 := Df.mk' (x := "_law_chain") F2 (PySem.W.mg_of X G a2) B2 (ok__law_chain (P := l.prog) (w := w) (base := base) F2 T D1)
    have D3 := Df.mk' (x := "_law_future") F3 (PySem.W.mg_of X G a3) B3 (ok__law_future (P := l.prog) (w := w) (base := base) F3 T D2)
    have D4 := Df.mk' (x := "is_row") F4 (PySem.W.mg_of X G a4) B4 (ok_is_row (P := l.prog) (w := w) (base := base) F4 T )
    have D5 := Df.mk' (x := "is_number") F5 (PySem.W.mg_of X G a5) B5 (ok_is_number (P := l.prog) (w := w) (base := base) F5 T )
    have D6 := Df.mk' (x := "check_small_row") F6 (PySem.W.mg_of X G a6) B6 (ok_check_small_row (P := l.prog) (w := w) (base := base) F6 T D4 D5)
    have D7 := Df.mk' (x := "check_levels") F7 (PySem.W.mg_of X G a7) B7 (ok_check_levels (P := l.prog) (w := w) (base := base) F7 T D6)
    have D8 := Df.mk' (x := "chain_of") F8 (PySem.W.mg_of X G a8) B8 (ok_chain_of (P := l.prog) (w := w) (base := base) F8 T )
    have D9 := Df.mk' (x := "base_list") F9 (PySem.W.mg_of X G a9) B9 (ok_base_list (P := l.prog) (w := w) (base := base) F9 T )
    have D10 := Df.mk' (x := "future_days") F10 (PySem.W.mg_of X G a10) B10 (ok_future_days (P := l.prog) (w := w) (base := base) F10 T D7 D8 D9)
    have D11 := Df.mk' (x := "_law_cell") F11 (PySem.W.mg_of X G a11) B11 (ok__law_cell (P := l.prog) (w := w) (base := base) F11 T )
    have D12 := Df.mk' (x := "_law_table") F12 (PySem.W.mg_of X G a12) B12 (ok__law_table (P := l.prog) (w := w) (base := base) F12 T D0 D11)
    have D13 := Df.mk' (x := "_law_is_number") F13 (PySem.W.mg_of X G a13) B13 (ok__law_is_number (P := l.prog) (w := w) (base := base) F13 T )
    have D14 := Df.mk' (x := "_law_are_numbers") F14 (PySem.W.mg_of X G a14) B14 (ok__law_are_numbers (P := l.prog) (w := w) (base := base) F14 T D13)
    have D15 := Df.mk' (x := "check_number") F15 (PySem.W.mg_of X G a15) B15 (ok_check_number (P := l.prog) (w := w) (base := base) F15 T D5)
    have D16 := Df.mk' (x := "chain") F16 (PySem.W.mg_of X G a16) B16 (ok_chain (P := l.prog) (w := w) (base := base) F16 T D7 D15 D8 D9)
    have D17 := Df.mk' (x := "_law_house") F17 (PySem.W.mg_of X G a17) B17 (ok__law_house (P := l.prog) (w := w) (base := base) F17 T D1)
    have D18 := Df.mk' (x := "is_sizes") F18 (PySem.W.mg_of X G a18) B18 (ok_is_sizes (P := l.prog) (w := w) (base := base) F18 T D4 D5)
    have D19 := Df.mk' (x := "check_weights") F19 (PySem.W.mg_of X G a19) B19 (ok_check_weights (P := l.prog) (w := w) (base := base) F19 T D4 D18)
    have D20 := Df.mk' (x := "check_plan") F20 (PySem.W.mg_of X G a20) B20 (ok_check_plan (P := l.prog) (w := w) (base := base) F20 T D19 D7)
    have D21 := Df.mk' (x := "level_house") F21 (PySem.W.mg_of X G a21) B21 (ok_level_house (P := l.prog) (w := w) (base := base) F21 T D20 D9)
    have D22 := Df.mk' (x := "given_days") F22 (PySem.W.mg_of X G a22) B22 (ok_given_days (P := l.prog) (w := w) (base := base) F22 T )
    have D23 := Df.mk' (x := "days_of") F23 (PySem.W.mg_of X G a23) B23 (ok_days_of (P := l.prog) (w := w) (base := base) F23 T D22)
    have D24 := Df.mk' (x := "check_frame") F24 (PySem.W.mg_of X G a24) B24 (ok_check_frame (P := l.prog) (w := w) (base := base) F24 T D4 D5)
    have D25 := Df.mk' (x := "is_link") F25 (PySem.W.mg_of X G a25) B25 (ok_is_link (P := l.prog) (w := w) (base := base) F25 T D5)
    have D26 := Df.mk' (x := "check_house") F26 (PySem.W.mg_of X G a26) B26 (ok_check_house (P := l.prog) (w := w) (base := base) F26 T D24 D4 D25 D5)
    have D27 := Df.mk' (x := "first_fault") F27 (PySem.W.mg_of X G a27) B27 (ok_first_fault (P := l.prog) (w := w) (base := base) F27 T D5)
    have D28 := Df.mk' (x := "check_choice") F28 (PySem.W.mg_of X G a28) B28 (ok_check_choice (P := l.prog) (w := w) (base := base) F28 T D27 D4)
    have D29 := Df.mk' (x := "check_kept") F29 (PySem.W.mg_of X G a29) B29 (ok_check_kept (P := l.prog) (w := w) (base := base) F29 T D28)
    have D30 := Df.mk' (x := "restorable") F30 (PySem.W.mg_of X G a30) B30 (ok_restorable (P := l.prog) (w := w) (base := base) F30 T D23 D26 D29)
    have D31 := Df.mk' (x := "_law_is_house") F31 (PySem.W.mg_of X G a31) B31 (ok__law_is_house (P := l.prog) (w := w) (base := base) F31 T D13 D14)
    have D32 := Df.mk' (x := "_law_restored") F32 (PySem.W.mg_of X G a32) B32 (ok__law_restored (P := l.prog) (w := w) (base := base) F32 T D2)
    have D33 := Df.mk' (x := "_law_house_holds") F33 (PySem.W.mg_of X G a33) B33 (ok__law_house_holds (P := l.prog) (w := w) (base := base) F33 T D17 D21 D30 D14 D31 D32)
    have D34 := Df.mk' (x := "_law_all_needed") F34 (PySem.W.mg_of X G a34) B34 (ok__law_all_needed (P := l.prog) (w := w) (base := base) F34 T D17 D30 D14 D32)
    exact ok_law F35 T D0 D3 D10 D12 D11 D14 D16 D33 D34 D2
  · exact .of_eq rfl
end K41
open PySem PySem.W PyProof.Rows in
set_option maxRecDepth 100000 in
set_option maxHeartbeats 0 in
theorem PySem.Challenge.cw_reelvault_k41_whole_future_days_holds : PySem.Challenge.rw_reelvault_k41_whole_future_days.Holds := by
  w_on; o_law; k_head; (case hw => w_witness2)
  k_fill
  refine VL.walk_ofV (l := PySem.Challenge.rw_reelvault_k41_whole_future_days) (k := 7) (x := "script") (φ := K41.φ_law) rfl rfl ⟨rfl, by decide, by decide⟩ (fun w h Y => PySem.W.kIn_of Y) ?F (fun ns _ => K41.law_s ns)
  case F =>
    intro w mg fa h KX G hmg
    refine' K41.all_mk KX G hmg ?a0 ?l0 ?c0 ?k0 ?a1 ?l1 ?c1 ?k1 ?a2 ?l2 ?c2 ?k2 ?a3 ?l3 ?c3 ?k3 ?a4 ?l4 ?c4 ?k4 ?a5 ?l5 ?c5 ?k5 ?a6 ?l6 ?c6 ?k6 ?a7 ?l7 ?c7 ?k7 ?a8 ?l8 ?c8 ?k8 ?a9 ?l9 ?c9 ?k9 ?a10 ?l10 ?c10 ?k10 ?a11 ?l11 ?c11 ?k11 ?a12 ?l12 ?c12 ?k12 ?a13 ?l13 ?c13 ?k13 ?a14 ?l14 ?c14 ?k14 ?a15 ?l15 ?c15 ?k15 ?a16 ?l16 ?c16 ?k16 ?a17 ?l17 ?c17 ?k17 ?a18 ?l18 ?c18 ?k18 ?a19 ?l19 ?c19 ?k19 ?a20 ?l20 ?c20 ?k20 ?a21 ?l21 ?c21 ?k21 ?a22 ?l22 ?c22 ?k22 ?a23 ?l23 ?c23 ?k23 ?a24 ?l24 ?c24 ?k24 ?a25 ?l25 ?c25 ?k25 ?a26 ?l26 ?c26 ?k26 ?a27 ?l27 ?c27 ?k27 ?a28 ?l28 ?c28 ?k28 ?a29 ?l29 ?c29 ?k29 ?a30 ?l30 ?c30 ?k30 ?a31 ?l31 ?c31 ?k31 ?a32 ?l32 ?c32 ?k32 ?a33 ?l33 ?c33 ?k33 ?a34 ?l34 ?c34 ?k34 ?a35 ?l35 ?c35 ?k35 ?z0 ?z1 ?z2 ?z3 ?z4 ?z5 ?z6 ?z7 ?z8 ?z9 ?n0 ?n1 ?n2 ?n3 ?n4
    (case a0 => k_is)
    (case l0 => k_is)
    (case c0 => k_is)
    (case k0 => k_is)
    (case a1 => k_is)
    (case l1 => k_is)
    (case c1 => k_is)
    (case k1 => k_is)
    (case a2 => k_is)
    (case l2 => k_is)
    (case c2 => k_is)
    (case k2 => k_is)
    (case a3 => k_is)
    (case l3 => k_is)
    (case c3 => k_is)
    (case k3 => k_is)
    (case a4 => k_is)
    (case l4 => k_is)
    (case c4 => k_is)
    (case k4 => k_is)
    (case a5 => k_is)
    (case l5 => k_is)
    (case c5 => k_is)
    (case k5 => k_is)
    (case a6 => k_is)
    (case l6 => k_is)
    (case c6 => k_is)
    (case k6 => k_is)
    (case a7 => k_is)
    (case l7 => k_is)
    (case c7 => k_is)
    (case k7 => k_is)
    (case a8 => k_is)
    (case l8 => k_is)
    (case c8 => k_is)
    (case k8 => k_is)
    (case a9 => k_is)
    (case l9 => k_is)
    (case c9 => k_is)
    (case k9 => k_is)
    (case a10 => k_is)
    (case l10 => k_is)
    (case c10 => k_is)
    (case k10 => k_is)
    (case a11 => k_is)
    (case l11 => k_is)
    (case c11 => k_is)
    (case k11 => k_is)
    (case a12 => k_is)
    (case l12 => k_is)
    (case c12 => k_is)
    (case k12 => k_is)
    (case a13 => k_is)
    (case l13 => k_is)
    (case c13 => k_is)
    (case k13 => k_is)
    (case a14 => k_is)
    (case l14 => k_is)
    (case c14 => k_is)
    (case k14 => k_is)
    (case a15 => k_is)
    (case l15 => k_is)
    (case c15 => k_is)
    (case k15 => k_is)
    (case a16 => k_is)
    (case l16 => k_is)
    (case c16 => k_is)
    (case k16 => k_is)
    (case a17 => k_is)
    (case l17 => k_is)
    (case c17 => k_is)
    (case k17 => k_is)
    (case a18 => k_is)
    (case l18 => k_is)
    (case c18 => k_is)
    (case k18 => k_is)
    (case a19 => k_is)
    (case l19 => k_is)
    (case c19 => k_is)
    (case k19 => k_is)
    (case a20 => k_is)
    (case l20 => k_is)
    (case c20 => k_is)
    (case k20 => k_is)
    (case a21 => k_is)
    (case l21 => k_is)
    (case c21 => k_is)
    (case k21 => k_is)
    (case a22 => k_is)
    (case l22 => k_is)
    (case c22 => k_is)
    (case k22 => k_is)
    (case a23 => k_is)
    (case l23 => k_is)
    (case c23 => k_is)
    (case k23 => k_is)
    (case a24 => k_is)
    (case l24 => k_is)
    (case c24 => k_is)
    (case k24 => k_is)
    (case a25 => k_is)
    (case l25 => k_is)
    (case c25 => k_is)
    (case k25 => k_is)
    (case a26 => k_is)
    (case l26 => k_is)
    (case c26 => k_is)
    (case k26 => k_is)
    (case a27 => k_is)
    (case l27 => k_is)
    (case c27 => k_is)
    (case k27 => k_is)
    (case a28 => k_is)
    (case l28 => k_is)
    (case c28 => k_is)
    (case k28 => k_is)
    (case a29 => k_is)
    (case l29 => k_is)
    (case c29 => k_is)
    (case k29 => k_is)
    (case a30 => k_is)
    (case l30 => k_is)
    (case c30 => k_is)
    (case k30 => k_is)
    (case a31 => k_is)
    (case l31 => k_is)
    (case c31 => k_is)
    (case k31 => k_is)
    (case a32 => k_is)
    (case l32 => k_is)
    (case c32 => k_is)
    (case k32 => k_is)
    (case a33 => k_is)
    (case l33 => k_is)
    (case c33 => k_is)
    (case k33 => k_is)
    (case a34 => k_is)
    (case l34 => k_is)
    (case c34 => k_is)
    (case k34 => k_is)
    (case a35 => k_is)
    (case l35 => k_is)
    (case c35 => k_is)
    (case k35 => k_is)
    (case z0 => k_is)
    (case z1 => k_is)
    (case z2 => k_is)
    (case z3 => k_is)
    (case z4 => k_is)
    (case z5 => k_is)
    (case z6 => k_is)
    (case z7 => k_is)
    (case z8 => k_is)
    (case z9 => k_is)
    (case n0 => k_is)
    (case n1 => k_is)
    (case n2 => k_is)
    (case n3 => k_is)
    (case n4 => k_is)

