import PyProof.Rows.All
import Wide.All
import OpenK.AllK
import Wide.FinOn
import HandS.ForMost
import HandS.Wide
import HandS.WideMore
import HandS.Style
import HandS.Evl
import HandS.Deep
import HandS.SortOrd
import HandS.IsInst
import HandS.TupLe
import HandS.TupAny
import HandS.Conv
import HandS.More
import KE.SortData
import KE.DataCmp
import PySem.Challenge.RW_lackstretch_k02_numbers_of_figures
set_option Elab.async false
set_option linter.all false
set_option maxRecDepth 100000
set_option maxHeartbeats 4000000
/-! ### my base: typed data in the heap -/
namespace My
open PySem PySem.Spec PyProof.Rows L2

/-! #### data that stands in a frozen heap -/
mutual
inductive RD (F : Hp) : V → PyData → Prop
  | non : RD F .non .none
  | bl (b : Bool) : RD F (.bl b) (.bool b)
  | int (i : Int) : RD F (.int i) (.int i)
  | str (x : Str) : RD F (.str x) (.str x)
  | lst {a : Addr} {us : List V} {ds : List PyData} : F a = some (.lst us) → RDs F us ds → RD F (.ref a) (.list ds)
  | tup {a : Addr} {us : List V} {ds : List PyData} : F a = some (.tup us) → RDs F us ds → RD F (.ref a) (.tuple ds)
inductive RDs (F : Hp) : List V → List PyData → Prop
  | nil : RDs F [] []
  | cons {v : V} {us : List V} {d : PyData} {ds : List PyData} : RD F v d → RDs F us ds → RDs F (v :: us) (d :: ds)
end

def Sub (F H : Hp) : Prop := ∀ a o, F a = some o → H a = some o
theorem Sub.refl (H : Hp) : Sub H H := fun _ _ h => h
theorem Sub.trans {H H1 H2 : Hp} (a : Sub H H1) (b : Sub H1 H2) : Sub H H2 := fun x o h => b x o (a x o h)
theorem Sub.new {H : Hp} {p : Addr} {o : HO} (h : H p = none) : Sub H (upd H p o) := fun a u e => by
  rw [upd_ne (ne_of_none e h)]; exact e
theorem Sub.upd {F H : Hp} {p : Addr} {o : HO} (s : Sub F H) : Sub (upd F p o) (upd H p o) := fun a u e => by
  by_cases h : a = p
  · subst h; rw [upd_same] at e ⊢; exact e
  · rw [upd_ne h] at e ⊢; exact s a u e
theorem Sub.mut {F H : Hp} {p : Addr} {o : HO} (s : Sub F H) (h : F p = none) : Sub F (L2.upd H p o) := fun a u e => by
  rw [upd_ne (ne_of_none e h)]; exact s a u e
theorem Sub.none {F H : Hp} {p : Addr} (s : Sub F H) (h : H p = none) : F p = none := by
  cases e : F p with
  | none => rfl
  | some o => rw [s p o e] at h; cases h

mutual
theorem RD.mono {F N : Hp} (s : Sub F N) : ∀ {d : PyData} {v : V}, RD F v d → RD N v d
  | _, _, .non => .non
  | _, _, .bl b => .bl b
  | _, _, .int i => .int i
  | _, _, .str x => .str x
  | _, _, .lst h r => .lst (s _ _ h) (RDs.mono s r)
  | _, _, .tup h r => .tup (s _ _ h) (RDs.mono s r)
theorem RDs.mono {F N : Hp} (s : Sub F N) : ∀ {ds : List PyData} {us : List V}, RDs F us ds → RDs N us ds
  | _, _, .nil => .nil
  | _, _, .cons h r => .cons (RD.mono s h) (RDs.mono s r)
end
mutual
theorem RD.dp {F H : Hp} {K : PySem.W.Frag} (s : Sub F H) : ∀ {d : PyData} {v : V}, RD F v d → Dp K H v d
  | _, _, .non => .non
  | _, _, .bl b => .bl b
  | _, _, .int i => .int i
  | _, _, .str x => .str x
  | _, _, .lst h r => .lst (.inl (.inl (s _ _ h))) (RDs.dp s r)
  | _, _, .tup h r => .tup (.inl (.inl (s _ _ h))) (RDs.dp s r)
theorem RDs.dp {F H : Hp} {K : PySem.W.Frag} (s : Sub F H) : ∀ {ds : List PyData} {us : List V}, RDs F us ds → DpAll K H us ds
  | _, _, .nil => .nil
  | _, _, .cons h r => .cons (RD.dp s h) (RDs.dp s r)
end
theorem RDs.len {F : Hp} : ∀ {us : List V} {ds : List PyData}, RDs F us ds → us.length = ds.length
  | _, _, .nil => rfl
  | _, _, .cons _ r => by simp [RDs.len r]
theorem RDs.append {F : Hp} : ∀ {us ws : List V} {ds es : List PyData}, RDs F us ds → RDs F ws es → RDs F (us ++ ws) (ds ++ es)
  | _, _, _, _, .nil, s => s
  | _, _, _, _, .cons h r, s => .cons h (RDs.append r s)
theorem RDs.get {F : Hp} : ∀ {us : List V} {ds : List PyData} {i : Nat} {d : PyData}, RDs F us ds → ds[i]? = some d → ∃ u, us[i]? = some u ∧ RD F u d
  | _, _, _, _, .nil, e => by simp at e
  | _, _, 0, _, .cons h _, e => by simp at e; subst e; exact ⟨_, rfl, h⟩
  | _, _, i + 1, _, .cons _ r, e => by
    obtain ⟨u, h1, h2⟩ := RDs.get (i := i) r (by simpa using e)
    exact ⟨u, by simpa using h1, h2⟩
theorem RDs.get' {F : Hp} {us : List V} {ds : List PyData} {i : Nat} {u : V} (r : RDs F us ds) (e : us[i]? = some u) : ∃ d, ds[i]? = some d ∧ RD F u d := by
  have hl := r.len
  have h1 : i < us.length := (List.getElem?_eq_some_iff.mp e).1
  obtain ⟨u', e', h⟩ := r.get (i := i) (d := ds[i]'(by omega)) (List.getElem?_eq_getElem (by omega))
  rw [e] at e'; cases e'
  exact ⟨_, List.getElem?_eq_getElem (by omega), h⟩
theorem RDs.take {F : Hp} : ∀ {us : List V} {ds : List PyData} (n : Nat), RDs F us ds → RDs F (us.take n) (ds.take n)
  | _, _, 0, _ => by simp; exact .nil
  | _, _, _ + 1, .nil => .nil
  | _, _, n + 1, .cons h r => .cons h (RDs.take n r)
theorem RDs.drop {F : Hp} : ∀ {us : List V} {ds : List PyData} (n : Nat), RDs F us ds → RDs F (us.drop n) (ds.drop n)
  | _, _, 0, r => r
  | _, _, _ + 1, .nil => .nil
  | _, _, n + 1, .cons _ r => RDs.drop n r
theorem RDs.reverse {F : Hp} {us : List V} {ds : List PyData} (r : RDs F us ds) : RDs F us.reverse ds.reverse := by
  induction us generalizing ds with
  | nil => cases r; exact .nil
  | cons u us ih =>
    cases r with
    | cons h r => rw [List.reverse_cons, List.reverse_cons]; exact (ih r).append (.cons h .nil)
theorem RDs.set {F : Hp} : ∀ {us : List V} {ds : List PyData} {u : V} {d : PyData} (n : Nat), RDs F us ds → RD F u d → RDs F (us.set n u) (ds.set n d)
  | _, _, _, _, _, .nil, _ => .nil
  | _, _, _, _, 0, .cons _ r, h => .cons h r
  | _, _, _, _, n + 1, .cons h' r, h => .cons h' (RDs.set n r h)
theorem RDs.eraseIdx {F : Hp} : ∀ {us : List V} {ds : List PyData} (n : Nat), RDs F us ds → RDs F (us.eraseIdx n) (ds.eraseIdx n)
  | _, _, _, .nil => by simp; exact .nil
  | _, _, 0, .cons _ r => r
  | _, _, n + 1, .cons h r => .cons h (RDs.eraseIdx n r)

/-! #### typed data -/
class TD (α : Type) where
  d : α → PyData
  dep : Nat
  lay : ∀ x, (d x).canLay0 = true
  dle : ∀ x, (d x).depth ≤ dep
instance : TD Int := ⟨.int, 0, fun _ => rfl, fun _ => Nat.zero_le _⟩
instance : TD Bool := ⟨.bool, 0, fun _ => rfl, fun _ => Nat.zero_le _⟩
instance : TD Unit := ⟨fun _ => .none, 0, fun _ => rfl, fun _ => Nat.zero_le _⟩
theorem layAll {α : Type} [TD α] : ∀ xs : List α, PyData.canLayAll0 (xs.map TD.d) = true
  | [] => by simp [PyData.canLayAll0]
  | x :: xs => by simp [PyData.canLayAll0, TD.lay x, layAll xs]
theorem depAll {α : Type} [TD α] : ∀ xs : List α, PyData.depthAll (xs.map TD.d) ≤ TD.dep α
  | [] => by simp [PyData.depthAll]
  | x :: xs => by
    have h1 := depAll xs
    have h2 := TD.dle x
    simp only [List.map_cons, PyData.depthAll]
    omega
instance {α : Type} [TD α] : TD (List α) := ⟨fun xs => .list (xs.map TD.d), TD.dep α + 1, fun xs => by simp only [PyData.canLay0]; exact layAll xs, fun xs => by
  have := depAll xs
  simp only [PyData.depth]; omega⟩
instance {α β : Type} [TD α] [TD β] : TD (α × β) := ⟨fun p => .tuple [TD.d p.1, TD.d p.2], TD.dep α + TD.dep β + 1, fun p => by simp [PyData.canLay0, PyData.canLayAll0, TD.lay], fun p => by
  have h1 := TD.dle p.1
  have h2 := TD.dle p.2
  simp only [PyData.depth, PyData.depthAll]; omega⟩
instance {α : Type} [TD α] : TD (Option α) := ⟨fun o => match o with | some x => TD.d x | none => .none, TD.dep α, fun o => by cases o; exact rfl; exact TD.lay _, fun o => by cases o; exact Nat.zero_le _; exact TD.dle _⟩
abbrev R {α : Type} [TD α] (F : Hp) (v : V) (x : α) : Prop := RD F v (TD.d x)
abbrev Rs {α : Type} [TD α] (F : Hp) (us : List V) (xs : List α) : Prop := RDs F us (xs.map TD.d)


theorem TD.shaped {α : Type} [TD α] (h : TD.dep α ≤ 60) (x : α) : SeqAt.shaped (TD.d x) = true := by
  have h1 := TD.dle x
  show ((TD.d x).canLay0 && decide ((TD.d x).depth ≤ 64)) = true
  rw [Bool.and_eq_true]
  exact ⟨TD.lay x, decide_eq_true (by omega)⟩
class TE' (α : Type) [TD α] where
  eqv : ∀ x y : α, PyData.eqv (TD.d x) (TD.d y) = true ↔ x = y
def eqT {α : Type} [TD α] (x y : α) : Bool := PyData.eqv (TD.d x) (TD.d y)
def memT {α : Type} [TD α] (x : α) (xs : List α) : Bool := xs.any fun y => eqT y x
theorem eqT_iff {α : Type} [TD α] [TE' α] {x y : α} : eqT x y = true ↔ x = y := TE'.eqv x y
theorem eqT_no {α : Type} [TD α] [TE' α] {x y : α} : eqT x y = false ↔ x ≠ y := by rw [← Bool.not_eq_true, eqT_iff]
theorem memT_iff {α : Type} [TD α] [TE' α] {x : α} {xs : List α} : memT x xs = true ↔ x ∈ xs := by
  unfold memT
  rw [List.any_eq_true]
  exact ⟨fun ⟨y, h1, h2⟩ => by rw [← eqT_iff.mp h2]; exact h1, fun h => ⟨x, h, eqT_iff.mpr rfl⟩⟩
theorem memT_no {α : Type} [TD α] [TE' α] {x : α} {xs : List α} : memT x xs = false ↔ x ∉ xs := by rw [← Bool.not_eq_true, memT_iff]
theorem eqvT {α : Type} [TD α] (x y : α) : PyData.eqv (TD.d x) (TD.d y) = eqT x y := rfl
instance : TE' Int := ⟨fun x y => by show (x == y) = true ↔ _; simp⟩
instance : TE' Bool := ⟨fun x y => by show (x == y) = true ↔ _; simp⟩
instance : TE' Unit := ⟨fun x y => by simp [TD.d, PyData.eqv]⟩
theorem eqvAll_map {α : Type} [TD α] [TE' α] : ∀ xs ys : List α, PyData.eqvAll (xs.map TD.d) (ys.map TD.d) = true ↔ xs = ys
  | [], [] => by simp [PyData.eqvAll]
  | [], y :: ys => by simp [PyData.eqvAll]
  | x :: xs, [] => by simp [PyData.eqvAll]
  | x :: xs, y :: ys => by
    simp only [List.map_cons, PyData.eqvAll, Bool.and_eq_true, eqvAll_map xs ys, TE'.eqv, List.cons.injEq]
instance {α : Type} [TD α] [TE' α] : TE' (List α) := ⟨fun xs ys => by
  show PyData.eqv (.list _) (.list _) = true ↔ _
  simp only [PyData.eqv]; exact eqvAll_map xs ys⟩
instance {α β : Type} [TD α] [TE' α] [TD β] [TE' β] : TE' (α × β) := ⟨fun p q => by
  show PyData.eqv (.tuple [_, _]) (.tuple [_, _]) = true ↔ _
  obtain ⟨a, b⟩ := p; obtain ⟨c, e⟩ := q
  simp [PyData.eqv, PyData.eqvAll, TE'.eqv]⟩
/-- data that is never None -/
class NN (α : Type) [TD α] where
  nn : ∀ x : α, (PyData.eqv (TD.d x) .none = false ∧ PyData.eqv .none (TD.d x) = false) ∧ TD.d x ≠ .none
instance : NN Int := ⟨fun _ => ⟨⟨rfl, rfl⟩, fun h => nomatch h⟩⟩
instance : NN Bool := ⟨fun _ => ⟨⟨rfl, rfl⟩, fun h => nomatch h⟩⟩
instance {α : Type} [TD α] : NN (List α) := ⟨fun _ => ⟨⟨rfl, rfl⟩, fun h => nomatch h⟩⟩
instance {α β : Type} [TD α] [TD β] : NN (α × β) := ⟨fun _ => ⟨⟨rfl, rfl⟩, fun h => nomatch h⟩⟩
instance {α : Type} [TD α] [TE' α] [NN α] : TE' (Option α) := ⟨fun p q => by
  cases p with
  | none => cases q with
    | none => show PyData.eqv .none .none = true ↔ _; simp [PyData.eqv]
    | some y => show PyData.eqv .none (TD.d y) = true ↔ _; rw [(NN.nn y).1.2]; simp
  | some x => cases q with
    | none => show PyData.eqv (TD.d x) .none = true ↔ _; rw [(NN.nn x).1.1]; simp
    | some y => show PyData.eqv (TD.d x) (TD.d y) = true ↔ _; rw [TE'.eqv]; simp⟩

/-! #### how heaps grow -/
abbrev NA : Addr → Prop := fun _ => False
structure Gr (A : Addr → Prop) (F H N H' : Hp) : Prop where
  keep : ∀ a o, ¬ A a → H a = some o → H' a = some o
  there : ∀ a, H a ≠ none → H' a ≠ none
  ex : Sub F N
  sub : Sub N H'
  own : ∀ a, H a ≠ none → F a = none → N a = none
section
variable {A : Addr → Prop} {F0 H0 F H N H' : Hp} {p : Addr} {o : HO} {us : List V}
theorem Gr.refl (s : Sub F H) : Gr A F H F H := ⟨fun _ _ _ h => h, fun _ h => h, Sub.refl F, s, fun _ _ h => h⟩
theorem Gr.trans (G : Gr A F0 H0 F H) (g : Gr A F H N H') : Gr A F0 H0 N H' :=
  ⟨fun a o na h => g.keep a o na (G.keep a o na h), fun a h => g.there a (G.there a h), G.ex.trans g.ex, g.sub, fun a h f => g.own a (G.there a h) (G.own a h f)⟩
theorem Gr.na (g : Gr NA F H N H') : Gr A F H N H' := ⟨fun a o _ h => g.keep a o id h, g.there, g.ex, g.sub, g.own⟩
theorem Gr.step (G : Gr A F0 H0 F H) (g : Gr NA F H N H') : Gr A F0 H0 N H' := G.trans g.na
theorem Gr.fresh (G : Gr A F0 H0 F H) (hp : H p = none) : H0 p = none := by
  cases e : H0 p with
  | none => rfl
  | some o => exact absurd hp (G.there p (by rw [e]; exact (fun z => nomatch z)))
theorem Gr.new (s : Sub F H) (hp : H p = none) : Gr NA F H (upd F p o) (upd H p o) :=
  ⟨fun a u _ h => Sub.new hp a u h, fun a h => by
    cases e : H a with
    | none => exact absurd e h
    | some u => rw [Sub.new hp a u e]; exact (fun z => nomatch z), Sub.new (s.none hp), s.upd, fun a h f => by
    have : a ≠ p := fun z => by subst z; exact h hp
    rw [upd_ne this]; exact f⟩
theorem Gr.newO (s : Sub F H) (hp : H p = none) : Gr NA F H F (upd H p o) :=
  ⟨fun a u _ h => Sub.new hp a u h, fun a h => by
    cases e : H a with
    | none => exact absurd e h
    | some u => rw [Sub.new hp a u e]; exact (fun z => nomatch z), Sub.refl F, s.trans (Sub.new hp), fun a h f => f⟩
theorem Gr.mut (G : Gr A F0 H0 F H) (h0 : H0 p = none) (f : F p = none) : Gr A F0 H0 F (upd H p o) :=
  ⟨fun a u na h => by rw [upd_ne (ne_of_none h h0)]; exact G.keep a u na h, fun a h => by
    by_cases e : a = p
    · subst e; rw [upd_same]; exact (fun z => nomatch z)
    · rw [upd_ne e]; exact G.there a h, G.ex, G.sub.mut f, G.own⟩
theorem Gr.frz (G : Gr A F0 H0 F H) (ho : H p = some o) (h0 : H0 p = none) (f : F p = none) : Gr A F0 H0 (upd F p o) H :=
  ⟨G.keep, G.there, G.ex.trans (Sub.new f), fun a u e => by
    by_cases z : a = p
    · subst z; rw [upd_same] at e; cases e; exact ho
    · rw [upd_ne z] at e; exact G.sub a u e, fun a h e => by
    have : a ≠ p := fun z => by subst z; exact h h0
    rw [upd_ne this]; exact G.own a h e⟩
/-- a flat answer: the frozen part may stay as it was -/
theorem Gr.flat {Fc : Hp} (g : Gr NA Fc H N H') (s : Sub F H) : Gr NA F H F H' := ⟨g.keep, g.there, Sub.refl F, fun a o e => g.keep a o id (s a o e), fun _ _ f => f⟩
/-- an owned list -/
theorem Gr.flatA {Fc : Hp} (g : Gr A Fc H N H') (s : Sub F H) (nf : ∀ a, A a → F a = none) : Gr A F H F H' := ⟨g.keep, g.there, Sub.refl F, fun a o e => g.keep a o (fun h => by rw [nf a h] at e; exact nomatch e) (s a o e), fun _ _ f => f⟩
structure Ow (H0 F H : Hp) (p : Addr) (us : List V) : Prop where
  at_ : H p = some (.lst us)
  nf : F p = none
  n0 : H0 p = none
theorem Ow.new (G : Gr A F0 H0 F H) (hp : H p = none) : Ow H0 F (upd H p (.lst us)) p us := ⟨upd_same, G.sub.none hp, G.fresh hp⟩
theorem Ow.step (w : Ow H0 F H p us) (g : Gr NA F H N H') : Ow H0 N H' p us := ⟨g.keep p _ id w.at_, g.own p (by rw [w.at_]; exact (fun z => nomatch z)) w.nf, w.n0⟩
theorem Ow.mut {ws : List V} (w : Ow H0 F H p us) : Ow H0 F (upd H p (.lst ws)) p ws := ⟨upd_same, w.nf, w.n0⟩
theorem Ow.other {q : Addr} {ws : List V} (w : Ow H0 F H p us) (h : q ≠ p) : Ow H0 F (upd H q (.lst ws)) p us := ⟨by rw [upd_ne h.symm]; exact w.at_, w.nf, w.n0⟩
theorem Ow.ne_new {q : Addr} (w : Ow H0 F H p us) (hq : H q = none) : p ≠ q := ne_of_none w.at_ hq
theorem Ow.mutG (w : Ow H0 F H p us) (G : Gr A F0 H0 F H) : Gr A F0 H0 F (upd H p o) := G.mut w.n0 w.nf
theorem Ow.frz (w : Ow H0 F H p us) (G : Gr A F0 H0 F H) : Gr A F0 H0 (upd F p (.lst us)) H := G.frz w.at_ w.n0 w.nf
theorem Ow.sub (w : Ow H0 F H p us) (s : Sub F H) : Sub (upd F p (.lst us)) H := fun a u e => by
    by_cases z : a = p
    · subst z; rw [upd_same] at e; cases e; exact w.at_
    · rw [upd_ne z] at e; exact s a u e
theorem Ow.ex (w : Ow H0 F H p us) : Sub F (upd F p (.lst us)) := Sub.new w.nf
end

/-! #### taking facts apart -/
section
variable {α β : Type} [TD α] [TD β] {F H : Hp} {v : V}
theorem int_of {x : Int} (h : R F v x) : v = .int x := by cases h; rfl
theorem bl_of {x : Bool} (h : R F v x) : v = .bl x := by cases h; rfl
theorem non_of {x : Unit} (h : R F v x) : v = .non := by cases h; rfl
theorem lst_of {xs : List α} (h : R F v xs) : ∃ a us, v = .ref a ∧ F a = some (.lst us) ∧ Rs F us xs := by
  cases h with | lst h r => exact ⟨_, _, rfl, h, r⟩
theorem lst_ref {a : Addr} {xs : List α} (h : R F (.ref a) xs) : ∃ us, F a = some (.lst us) ∧ Rs F us xs := by
  obtain ⟨b, us, e, fa, fr⟩ := lst_of h
  cases e
  exact ⟨us, fa, fr⟩
theorem tup2_of {p : α × β} (h : R F v p) : ∃ a v1 v2, v = .ref a ∧ F a = some (.tup [v1, v2]) ∧ R F v1 p.1 ∧ R F v2 p.2 := by
  cases h with | tup h r => cases r with | cons h1 r => cases r with | cons h2 r => cases r; exact ⟨_, _, _, rfl, h, h1, h2⟩
theorem mk_lst {a : Addr} {us : List V} {xs : List α} (h : F a = some (.lst us)) (r : Rs F us xs) : R F (.ref a) xs := .lst h r
theorem mk_tup2 {a : Addr} {v1 v2 : V} {p : α × β} (h : F a = some (.tup [v1, v2])) (h1 : R F v1 p.1) (h2 : R F v2 p.2) : R F (.ref a) p := .tup h (.cons h1 (.cons h2 .nil))
theorem Rs_len {us : List V} {xs : List α} (r : Rs F us xs) : us.length = xs.length := by rw [r.len, List.length_map]
theorem Rs_nil : Rs (α := α) F [] [] := .nil
theorem Rs_cons {u : V} {us : List V} {x : α} {xs : List α} (h : R F u x) (r : Rs F us xs) : Rs F (u :: us) (x :: xs) := .cons h r
theorem Rs_app {us ws : List V} {xs ys : List α} (r : Rs F us xs) (s : Rs F ws ys) : Rs F (us ++ ws) (xs ++ ys) := by
  unfold Rs; rw [List.map_append]; exact r.append s
theorem Rs_snoc {us : List V} {u : V} {xs : List α} {x : α} (r : Rs F us xs) (h : R F u x) : Rs F (us ++ [u]) (xs ++ [x]) := Rs_app r (.cons h .nil)
theorem Rs_rev {us : List V} {xs : List α} (r : Rs F us xs) : Rs F us.reverse xs.reverse := by
  unfold Rs; rw [List.map_reverse]; exact r.reverse
theorem Rs_mono {N : Hp} {us : List V} {xs : List α} (s : Sub F N) (r : Rs F us xs) : Rs N us xs := RDs.mono s r
theorem Rs_int {us : List V} {xs : List Int} (r : Rs F us xs) : us = xs.map V.int := by
  induction xs generalizing us with
  | nil => cases r; rfl
  | cons x xs ih => cases r with | cons h r => cases h; rw [List.map_cons, ih r]
theorem int_Rs : ∀ xs : List Int, Rs F (xs.map V.int) xs
  | [] => .nil
  | x :: xs => .cons (.int x) (int_Rs xs)
end
/-- xs[i], the item and its fact -/
def ixOk {α : Type} (xs : List α) (i : Int) (x : α) : Prop := atI xs i = some x
theorem Rs_at {α : Type} [TD α] {F : Hp} {us : List V} {xs : List α} (r : Rs F us xs) {i : Int} {x : α} (h : atI xs i = some x) : ∃ u, atI us i = some u ∧ R F u x := by
  unfold atI at h ⊢
  rw [Rs_len r]
  cases e : ixN xs.length i with
  | none => rw [e] at h; cases h
  | some k =>
    rw [e] at h
    have h' : xs[k]? = some x := h
    obtain ⟨u, h1, h2⟩ := RDs.get (i := k) (d := TD.d x) r (by rw [List.getElem?_map, h']; rfl)
    exact ⟨u, h1, h2⟩

/-! #### mirrors: loops -/
def forK {S α ρ : Type} (f : S → α → (S → Option ρ) → Option ρ) : List α → S → (S → Option ρ) → Option ρ
  | [], s, K => K s
  | x :: xs, s, K => f s x fun s' => forK f xs s' K
def whileK {S ρ : Type} (f : S → (S → Option ρ) → Option ρ) : Nat → S → Option ρ
  | 0, _ => none
  | m + 1, s => f s (whileK f m)
def fuel : Nat := 1000000
theorem forK_c {S α ρ : Type} {f : S → α → (S → Option ρ) → Option ρ} {x : α} {xs : List α} {s : S} {K : S → Option ρ} {r : ρ} (h : forK f (x :: xs) s K = some r) : f s x (fun s' => forK f xs s' K) = some r := h
theorem forK_n {S α ρ : Type} {f : S → α → (S → Option ρ) → Option ρ} {s : S} {K : S → Option ρ} {r : ρ} (h : forK f [] s K = some r) : K s = some r := h
theorem whileK_s {S ρ : Type} {f : S → (S → Option ρ) → Option ρ} {m : Nat} {s : S} {r : ρ} (h : whileK f (m + 1) s = some r) : f s (whileK f m) = some r := h
def irange (lo hi : Int) : List Int := (List.range (hi - lo).toNat).map fun i : Nat => lo + (i : Int)
section
variable {α ρ : Type} {c : Prop} [Decidable c] {a b : Option ρ} {r : ρ}
theorem itep (h : (if c then a else b) = some r) (hc : c) : a = some r := by rw [if_pos hc] at h; exact h
theorem iten (h : (if c then a else b) = some r) (hc : ¬ c) : b = some r := by rw [if_neg hc] at h; exact h
theorem guardp (h : (if c then a else none) = some r) : c ∧ a = some r := by
  by_cases hc : c
  · exact ⟨hc, itep h hc⟩
  · rw [if_neg hc] at h; cases h
theorem bindp {x : Option α} {f : α → Option ρ} (h : x.bind f = some r) : ∃ y, x = some y ∧ f y = some r := by
  cases x with
  | none => cases h
  | some y => exact ⟨y, rfl, h⟩
theorem ifD {c : Bool} {A B : Prop} (h1 : c = true → A) (h2 : c = false → B) : if c = true then A else B := by
  cases c with
  | true => rw [if_pos rfl]; exact h1 rfl
  | false => rw [if_neg Bool.false_ne_true]; exact h2 rfl
theorem dT {c : Prop} [Decidable c] (h : decide c = true) : c := of_decide_eq_true h
theorem dF {c : Prop} [Decidable c] (h : decide c = false) : ¬ c := of_decide_eq_false h
theorem ndT {c : Prop} [Decidable c] (h : (!decide c) = true) : ¬ c := of_decide_eq_false (by rw [Bool.not_eq_true'] at h; exact h)
theorem ndF {c : Prop} [Decidable c] (h : (!decide c) = false) : c := of_decide_eq_true (by rw [Bool.not_eq_false'] at h; exact h)
theorem bF {c : Bool} (h : c = false) : ¬ c = true := by rw [h]; exact Bool.false_ne_true
end

/-! #### loops read -/
section
variable {K : PySem.W.Frag} {g : TG} {tb : TS} {D : Ends} {σ : L2.St} {H : Hp} {α : Type} [TD α]
theorem while_m {c : TT} (W : Nat → L2.St → Hp → Prop) (m : Nat) (h0 : W m σ H) (hz : ∀ σ H, ¬ W 0 σ H)
    (hs : ∀ m σ H, W (m + 1) σ H → c σ H fun b H1 => if b = true then tb { D with nx := W m, ct := W m, bk := D.nx } σ H1 else D.nx σ H1) (mono : ∀ σ H Q Q', (∀ b H1, Q b H1 → Q' b H1) → c σ H Q → c σ H Q') : tWhile c tb D σ H := by
  refine ⟨W, ⟨m, h0⟩, fun m σ H h => ?_⟩
  cases m with
  | zero => exact absurd h (hz σ H)
  | succ m =>
    refine mono σ H _ _ (fun b H1 q => ?_) (hs m σ H h)
    cases b with
    | true => exact ⟨W m, fun σ' H' h => ⟨m, Nat.lt_succ_self m, h⟩, q⟩
    | false => exact q
theorem while_n {c : TT} (W : Nat → L2.St → Hp → Prop) (m : Nat) (h0 : W m σ H) (hz : ∀ σ H, ¬ W 0 σ H)
    (hs : ∀ m σ H, W (m + 1) σ H → c σ H fun b H1 => if b = true then ∃ N : L2.St → Hp → Prop, (∀ σ' H', N σ' H' → ∃ m', m' < m + 1 ∧ W m' σ' H') ∧ tb { D with nx := N, ct := N, bk := D.nx } σ H1 else D.nx σ H1) : tWhile c tb D σ H := by
  refine ⟨W, ⟨m, h0⟩, fun m σ H h => ?_⟩
  cases m with
  | zero => exact absurd h (hz σ H)
  | succ m => exact hs m σ H h
theorem drop_cons {α : Type} {xs : List α} {i : Nat} {x : α} (h : xs[i]? = some x) : xs.drop i = x :: xs.drop (i + 1) := by
  obtain ⟨h1, h2⟩ := List.getElem?_eq_some_iff.mp h
  rw [← h2]; exact List.drop_eq_getElem_cons h1
theorem for_lst {a : Addr} {us : List V} {xs : List α} {F : Hp} (W : List α → L2.St → Hp → Prop) (fr : Rs F us xs) (h0 : W xs σ H) (hf : ∀ ts σ H, W ts σ H → H a = some (.lst us))
    (hs : ∀ x ts v σ H, R F v x → W (x :: ts) σ H → g v σ H fun σ2 H2 => tb { D with nx := W ts, ct := W ts, bk := D.nx } σ2 H2) (hd : ∀ σ H, W [] σ H → D.nx σ H) :
    ∃ W : Nat → Nat → L2.St → Hp → Prop, (∃ m, W 0 m σ H) ∧ ∀ i m σ H, W i m σ H →
      ((Itl K a).stop i H ∧ D.nx σ H) ∨ ((Itl K a).go i H ∧ ∃ N : L2.St → Hp → Prop, (∀ σ' H', N σ' H' → ∃ m', m' < m ∧ W (i + 1) m' σ' H') ∧ ∀ x H', (Itl K a).yld i H x H' → g x σ H' fun σ2 H2 => tb { D with nx := N, ct := N, bk := D.nx } σ2 H2) := by
  have hl := Rs_len fr
  refine for_list (xs := us) (fun i σ H => W (xs.drop i) σ H) (by rw [List.drop_zero]; exact h0) (fun i σ H _ h => .inl (.inl (hf _ σ H h))) (fun i v σ H e h => ?_) fun σ H h => ?_
  · obtain ⟨d, e1, e2⟩ := fr.get' e
    have h1 : i < xs.length := by have := (List.getElem?_eq_some_iff.mp e).1; omega
    have e3 : xs[i]? = some xs[i] := List.getElem?_eq_getElem h1
    rw [List.getElem?_map, e3] at e1
    cases e1
    have h' : W (xs.drop i) σ H := h
    rw [drop_cons e3] at h'
    exact hs _ _ v σ H e2 h'
  · have h' : W (xs.drop us.length) σ H := h
    rw [hl, List.drop_length] at h'
    exact hd σ H h'
theorem irange_len (lo hi : Int) : (irange lo hi).length = (hi - lo).toNat := by unfold irange; simp
theorem irange_get {lo hi : Int} {i : Nat} (h : i < (hi - lo).toNat) : (irange lo hi)[i]? = some (lo + i) := by unfold irange; simp [h]
theorem for_rng {lo hi : Int} {n : Nat} (hn : n = (hi - lo).toNat) (W : List Int → L2.St → Hp → Prop) (h0 : W (irange lo hi) σ H)
    (hs : ∀ x ts σ H, W (x :: ts) σ H → g (.int x) σ H fun σ2 H2 => tb { D with nx := W ts, ct := W ts, bk := D.nx } σ2 H2) (hd : ∀ σ H, W [] σ H → D.nx σ H) :
    ∃ W : Nat → Nat → L2.St → Hp → Prop, (∃ m, W 0 m σ H) ∧ ∀ i m σ H, W i m σ H →
      ((Itr lo n).stop i H ∧ D.nx σ H) ∨ ((Itr lo n).go i H ∧ ∃ N : L2.St → Hp → Prop, (∀ σ' H', N σ' H' → ∃ m', m' < m ∧ W (i + 1) m' σ' H') ∧ ∀ x H', (Itr lo n).yld i H x H' → g x σ H' fun σ2 H2 => tb { D with nx := N, ct := N, bk := D.nx } σ2 H2) := by
  subst hn
  refine for_range (fun i σ H => W ((irange lo hi).drop i) σ H) (by rw [List.drop_zero]; exact h0) (fun i σ H hi' h => ?_) fun σ H h => ?_
  · have h' : W ((irange lo hi).drop i) σ H := h
    rw [drop_cons (irange_get hi')] at h'
    exact hs _ _ σ H h'
  · have h' : W ((irange lo hi).drop (hi - lo).toNat) σ H := h
    rw [← irange_len, List.drop_length] at h'
    exact hd σ H h'
variable {tt : TT} {te : TE} {vs : List Nat} {H1 : Hp} {Dl : Addr} {Qd : Hp → Prop}
theorem lc_lst {a : Addr} {us : List V} {xs : List α} {F : Hp} (W : List α → Hp → Prop) (fr : Rs F us xs) (h0 : W xs (upd H1 Dl (.lst []))) (hf : ∀ ts H, W ts H → H a = some (.lst us))
    (hs : ∀ x ts v H, R F v x → W (x :: ts) H → g v (wipe σ vs) H fun σ2 H2 => wipe σ2 vs = wipe σ vs ∧ tt σ2 H2 fun b H3 =>
        if b = true then te σ2 H3 fun y H4 => ∃ acc, H4 Dl = some (HO.lst acc) ∧ acc.length < sizeLine ∧ W ts (upd H4 Dl (HO.lst (acc ++ [y]))) else W ts H3) (hd : ∀ H, W [] H → Qd H) :
    ∃ W : Nat → Nat → Hp → Prop, (∃ m, W 0 m (upd H1 Dl (HO.lst []))) ∧ ∀ (i m : Nat) (H : Hp), W i m H → (Itl K a).stop i H ∧ Qd H ∨
      (Itl K a).go i H ∧ ∃ Nx : Hp → Prop, (∀ (H' : Hp), Nx H' → ∃ m', m' < m ∧ W (i + 1) m' H') ∧ ∀ (x : V) (H' : Hp), (Itl K a).yld i H x H' →
        g x (wipe σ vs) H' fun σ2 H2 => wipe σ2 vs = wipe σ vs ∧ tt σ2 H2 fun b H3 => if b = true then te σ2 H3 fun y H4 => ∃ acc, H4 Dl = some (HO.lst acc) ∧ acc.length < sizeLine ∧ Nx (upd H4 Dl (HO.lst (acc ++ [y]))) else Nx H3 := by
  have hl := Rs_len fr
  refine lc_list (xs := us) (fun i H => W (xs.drop i) H) (by rw [List.drop_zero]; exact h0) (fun i H _ h => .inl (.inl (hf _ H h))) (fun i v H e h => ?_) fun H h => ?_
  · obtain ⟨d, e1, e2⟩ := fr.get' e
    have h1 : i < xs.length := by have := (List.getElem?_eq_some_iff.mp e).1; omega
    have e3 : xs[i]? = some xs[i] := List.getElem?_eq_getElem h1
    rw [List.getElem?_map, e3] at e1
    cases e1
    have h' : W (xs.drop i) H := h
    rw [drop_cons e3] at h'
    exact hs _ _ v H e2 h'
  · have h' : W (xs.drop us.length) H := h
    rw [hl, List.drop_length] at h'
    exact hd H h'
theorem lc_rng {lo hi : Int} {n : Nat} (hn : n = (hi - lo).toNat) (W : List Int → Hp → Prop) (h0 : W (irange lo hi) (upd H1 Dl (.lst [])))
    (hs : ∀ x ts H, W (x :: ts) H → g (.int x) (wipe σ vs) H fun σ2 H2 => wipe σ2 vs = wipe σ vs ∧ tt σ2 H2 fun b H3 =>
        if b = true then te σ2 H3 fun y H4 => ∃ acc, H4 Dl = some (HO.lst acc) ∧ acc.length < sizeLine ∧ W ts (upd H4 Dl (HO.lst (acc ++ [y]))) else W ts H3) (hd : ∀ H, W [] H → Qd H) :
    ∃ W : Nat → Nat → Hp → Prop, (∃ m, W 0 m (upd H1 Dl (HO.lst []))) ∧ ∀ (i m : Nat) (H : Hp), W i m H → (Itr lo n).stop i H ∧ Qd H ∨
      (Itr lo n).go i H ∧ ∃ Nx : Hp → Prop, (∀ (H' : Hp), Nx H' → ∃ m', m' < m ∧ W (i + 1) m' H') ∧ ∀ (x : V) (H' : Hp), (Itr lo n).yld i H x H' →
        g x (wipe σ vs) H' fun σ2 H2 => wipe σ2 vs = wipe σ vs ∧ tt σ2 H2 fun b H3 => if b = true then te σ2 H3 fun y H4 => ∃ acc, H4 Dl = some (HO.lst acc) ∧ acc.length < sizeLine ∧ Nx (upd H4 Dl (HO.lst (acc ++ [y]))) else Nx H3 := by
  subst hn
  refine lc_range (fun i H => W ((irange lo hi).drop i) H) (by rw [List.drop_zero]; exact h0) (fun i H hi' h => ?_) fun H h => ?_
  · have h' : W ((irange lo hi).drop i) H := h
    rw [drop_cons (irange_get hi')] at h'
    exact hs _ _ H h'
  · have h' : W ((irange lo hi).drop (hi - lo).toNat) H := h
    rw [← irange_len, List.drop_length] at h'
    exact hd H h'
end

/-! #### operators of my own -/
section
variable {X : Cx}
def rEqT (α : Type) [TD α] [TE' α] : R2 := fun x y H Q => ∃ (F : Hp) (a b : α), Sub F H ∧ R F x a ∧ R F y b ∧ Q (.bl (eqT a b)) H
def rNeT (α : Type) [TD α] [TE' α] : R2 := fun x y H Q => ∃ (F : Hp) (a b : α), Sub F H ∧ R F x a ∧ R F y b ∧ Q (.bl (!eqT a b)) H
theorem op_eqT {α : Type} [TD α] [TE' α] (hd : TD.dep α ≤ 60) (hu : X.A.units + 64 < cLine) : OpR X (compareOp .Eq) (rEqT α) := by
  intro pins s σ H x y v u Q I rx ry h
  obtain ⟨F, a, b, sb, ha, hb, q⟩ := h
  exact op_eqD hu pins s σ H x y v u Q I rx ry ⟨_, _, ha.dp sb, hb.dp sb, TD.shaped hd a, TD.shaped hd b, by rw [eqvT]; exact q⟩
theorem op_neT {α : Type} [TD α] [TE' α] (hd : TD.dep α ≤ 60) (hu : X.A.units + 64 < cLine) : OpR X (compareOp .NotEq) (rNeT α) := by
  intro pins s σ H x y v u Q I rx ry h
  obtain ⟨F, a, b, sb, ha, hb, q⟩ := h
  exact op_neD hu pins s σ H x y v u Q I rx ry ⟨_, _, ha.dp sb, hb.dp sb, TD.shaped hd a, TD.shaped hd b, by rw [eqvT]; exact q⟩
theorem any_eq {α : Type} [TD α] (x : α) (xs : List α) : ((xs.map TD.d).any fun z => PyData.eqv z (TD.d x)) = memT x xs := by
  unfold memT
  rw [List.any_map]
  rfl
def rInT (α : Type) [TD α] [TE' α] : R2 := fun x y H Q => ∃ (F : Hp) (a : α) (b : List α), Sub F H ∧ R F x a ∧ R F y b ∧ Q (.bl (memT a b)) H
def rNiT (α : Type) [TD α] [TE' α] : R2 := fun x y H Q => ∃ (F : Hp) (a : α) (b : List α), Sub F H ∧ R F x a ∧ R F y b ∧ Q (.bl (!memT a b)) H
theorem op_inT {α : Type} [TD α] [TE' α] (hd : TD.dep α ≤ 50) (hu : X.A.units + 65 < cLine) : OpR X (compareOp .In) (rInT α) := by
  intro pins s σ H x y v u Q I rx ry h
  obtain ⟨F, a, b, sb, ha, hb, q⟩ := h
  exact op_inD hu pins s σ H x y v u Q I rx ry ⟨_, _, ha.dp sb, hb.dp sb, TD.shaped (by omega) a, TD.shaped (α := List α) (by show TD.dep α + 1 ≤ 60; omega) b, by rw [any_eq]; exact q⟩
theorem op_niT {α : Type} [TD α] [TE' α] (hd : TD.dep α ≤ 50) (hu : X.A.units + 65 < cLine) : OpR X (compareOp .NotIn) (rNiT α) := by
  intro pins s σ H x y v u Q I rx ry h
  obtain ⟨F, a, b, sb, ha, hb, q⟩ := h
  exact op_notInD hu pins s σ H x y v u Q I rx ry ⟨_, _, ha.dp sb, hb.dp sb, TD.shaped (by omega) a, TD.shaped (α := List α) (by show TD.dep α + 1 ≤ 60; omega) b, by rw [any_eq]; exact q⟩
end
theorem hu64 {A : Around} {k : Nat} (hr : Room k A) : A.units + 64 < cLine := by have := hr.un; omega
theorem hu65 {A : Around} {k : Nat} (hr : Room k A) : A.units + 65 < cLine := by have := hr.un; omega
theorem szl {n : Nat} (h : n < 16777216) : n < sizeLine := by rw [sizeLine_eq]; exact h
theorem szle {n : Nat} (h : n ≤ 16777216) : n ≤ sizeLine := by rw [sizeLine_eq]; exact h

/-- a divisor, two factors that the model carries -/
def Dv (j : Int) : Prop := 0 < j ∧ j.natAbs.log2 < 9000
instance (j : Int) : Decidable (Dv j) := inferInstanceAs (Decidable (_ ∧ _))
theorem Dv.w {i j : Int} (h : Dv j) : CDivW i j := h
theorem Dv.p {j : Int} (h : Dv j) : 0 < j := h.1
theorem Dv.of {j : Int} (h : 0 < j) (h2 : j < 2 ^ 9000) : Dv j := by
  refine ⟨h, ?_⟩
  have e : j.natAbs < 2 ^ 9000 := by omega
  rw [Nat.log2_lt (by omega)]; exact e
def Mv (i j : Int) : Prop := i.natAbs.log2 + j.natAbs.log2 < 1000000
instance (i j : Int) : Decidable (Mv i j) := inferInstanceAs (Decidable (_ < _))
theorem Mv.w {i j : Int} (h : Mv i j) : CMulW i j := h


/-! #### readings opened one layer -/
section
variable {K : PySem.W.Frag} {σ : L2.St} {H : Hp} {D : Ends} {t u : TS} {te ta tb tc : TE} {tt tu : TT} {g : TG} {r r' : R2} {Q : VK} {QB : Bool → Hp → Prop} {QA : List V → Hp → Prop} {tA : TA}
theorem x_seq (h : t { D with nx := u D } σ H) : tSeq t u D σ H := h
theorem x_yes (h : QB true H) : tYes σ H QB := h
theorem x_nopart {QO : Option Int → Hp → Prop} (h : QO none H) : tNoPart σ H QO := h
theorem x_c {v : V} (h : Q v H) : tC v σ H Q := h
theorem x_gn {i : Nat} {v : V} {QS : L2.St → Hp → Prop} (h : QS (σ.set i (some v)) H) : gName i v σ H QS := h
theorem x_next (h : D.nx σ H) : tNext D σ H := h
theorem x_par {i j : Nat} (h : tA σ H fun vs H1 => ∃ v w, vs = [v, w] ∧ D.nx ((σ.set i (some v)).set j (some w)) H1) : tPar i j tA D σ H := h
theorem x_if (h : tt σ H fun b H1 => if b = true then t D σ H1 else u D σ H1) : tIfS tt t u D σ H := h
theorem x_asg (h : te σ H fun x H1 => g x σ H1 D.nx) : tAsg te g D σ H := h
theorem x_drop (h : te σ H fun _ H1 => D.nx σ H1) : tDrop te D σ H := h
theorem x_ret (h : te σ H D.rt) : tRet te D σ H := h
theorem x_op (h : ta σ H fun x H1 => tb σ H1 fun y H2 => r x y H2 Q) : tOp r ta tb σ H Q := h
theorem x_un {r : V → Hp → VK → Prop} (h : ta σ H fun x H1 => r x H1 Q) : tUn r ta σ H Q := h
theorem x_cmp {p : Int → Int → Bool} (h : ta σ H fun x H1 => tb σ H1 fun y H2 => ∃ i j, x = .int i ∧ y = .int j ∧ Q (.bl (p i j)) H2) : tCmp p ta tb σ H Q := h
theorem x_cons {tr : TA} (h : ta σ H fun x H1 => tr σ H1 fun xs H2 => QA (x :: xs) H2) : tCons ta tr σ H QA := h
theorem x_lst (h : tA σ H fun xs H1 => xs.length ≤ sizeLine ∧ ∀ p, H1 p = none → Q (.ref p) (upd H1 p (.lst xs))) : tLst tA σ H Q := h
theorem x_tup (h : tA σ H fun xs H1 => xs.length ≤ sizeLine ∧ ∀ p, H1 p = none → Q (.ref p) (upd H1 p (.tup xs))) : tTup tA σ H Q := h
theorem x_call {sp : Sp} {dvs : List V} {E : XK} (h : tA σ H fun vs H1 => sp (vs ++ dvs) H1 Q E) : tCall sp dvs E tA σ H Q := h
theorem x_cb {r : List V → Hp → VK → Prop} (h : tA σ H fun vs H1 => r vs H1 Q) : tCB r tA σ H Q := h
theorem x_B (h : te σ H fun x H1 => ∃ c, x = .bl c ∧ QB c H1) : tB te σ H QB := h
theorem x_test (h : te σ H fun x H1 => ∃ c, x = .bl c ∧ QB c H1) : tTest te σ H QB := h
theorem x_not (h : tt σ H fun c H1 => QB (!c) H1) : tNot tt σ H QB := h
theorem x_and (h : tt σ H fun c H1 => if c = true then tu σ H1 QB else QB false H1) : tAnd tt tu σ H QB := h
theorem x_or (h : tt σ H fun c H1 => if c = true then QB true H1 else tu σ H1 QB) : tOr tt tu σ H QB := h
theorem x_andV (h : ta σ H fun x H1 => ∃ c, x = .bl c ∧ if c = true then tb σ H1 Q else Q (.bl false) H1) : tAndV ta tb σ H Q := h
theorem x_orV (h : ta σ H fun x H1 => ∃ c, x = .bl c ∧ if c = true then Q (.bl true) H1 else tb σ H1 Q) : tOrV ta tb σ H Q := h
theorem x_notV (h : ta σ H fun x H1 => ∃ c, x = .bl c ∧ Q (.bl (!c)) H1) : tNotV ta σ H Q := h
theorem x_chain (h : ta σ H fun x H1 => tb σ H1 fun y H2 => r x y H2 fun z H3 => ∃ k, z = .bl k ∧ (if k = true then tc σ H3 fun w' H4 => r' y w' H4 Q else Q (.bl false) H3)) : tChain r r' ta tb tc σ H Q := h
theorem x_ife (h : tt σ H fun c H1 => if c = true then ta σ H1 Q else tb σ H1 Q) : tIf tt ta tb σ H Q := h
theorem x_sl {r : V → Option Int → Option Int → Hp → VK → Prop} {tl th : TO} (h : te σ H fun x H1 => tl σ H1 fun l H2 => th σ H2 fun u H3 => r x l u H3 Q) : tSl r te tl th σ H Q := h
theorem x_part {QO : Option Int → Hp → Prop} (h : te σ H fun x H1 => ∃ i, x = .int i ∧ QO (some i) H1) : tPart te σ H QO := h
theorem x_revL (h : te σ H fun x H1 => ∃ a xs, x = .ref a ∧ SqL K H1 a xs ∧ ∀ p, H1 p = none → Q (.ref p) (upd H1 p (.lst xs.reverse))) : tRevL K te σ H Q := h
theorem x_bm {T : String} {r : V → List V → Hp → VK → Prop} (h : te σ H fun x H1 => tyV K T x H1 ∧ tA σ H1 fun xs H2 => r x xs H2 Q) : tBM K T r te tA σ H Q := h
theorem x_bm0 {T : String} {r : V → List V → Hp → VK → Prop} (h : te σ H fun x H1 => tyV K T x H1 ∧ r x [] H1 Q) : tBM0 K T r te σ H Q := h
theorem x_isN (h : ta σ H fun x H1 => Q (.bl (decide (x = .non))) H1) : tIsN ta σ H Q := h
theorem x_notN (h : ta σ H fun x H1 => Q (.bl (!decide (x = .non))) H1) : tNotN ta σ H Q := h
theorem x_rng1 {R : It → Hp → Prop} (h : tA σ H fun vs H1 => ∃ j : Int, vs = [.int j] ∧ -(2 ^ 62) ≤ j ∧ j < 2 ^ 62 ∧ R (Itr 0 j.toNat) H1) : iRng1 tA σ H R := h
theorem x_rng2 {R : It → Hp → Prop} (h : tA σ H fun vs H1 => ∃ i j : Int, vs = [.int i, .int j] ∧ (-(2 ^ 62) ≤ i ∧ i < 2 ^ 62 ∧ -(2 ^ 62) ≤ j ∧ j < 2 ^ 62) ∧ R (Itr i (j - i).toNat) H1) : iRng2 tA σ H R := h
theorem x_iter {R : It → Hp → Prop} (h : te σ H fun x H1 => ∃ a, x = .ref a ∧ (∃ xs, SqL K H1 a xs) ∧ R (Itl K a) H1) : iList K te σ H R := h
theorem x_for {wi : TI} (h : wi σ H fun J H1 => ∃ W : Nat → Nat → L2.St → Hp → Prop, (∃ m, W 0 m σ H1) ∧ ∀ i m σ H, W i m σ H →
  (J.stop i H ∧ D.nx σ H) ∨ (J.go i H ∧ ∃ N : L2.St → Hp → Prop, (∀ σ' H', N σ' H' → ∃ m', m' < m ∧ W (i + 1) m' σ' H') ∧ ∀ x H', J.yld i H x H' → g x σ H' fun σ2 H2 => t { D with nx := N, ct := N, bk := D.nx } σ2 H2)) : tFor wi g t D σ H := h
theorem x_lc {wi : TI} {vs : List Nat} (h : wi σ H fun J H1 => ∀ Dl, H1 Dl = none → ∃ W : Nat → Nat → Hp → Prop, (∃ m, W 0 m (upd H1 Dl (.lst []))) ∧ ∀ i m H, W i m H → J.stop i H ∧ Q (.ref Dl) H ∨ J.go i H ∧ ∃ Nx : Hp → Prop, (∀ (H' : Hp), Nx H' → ∃ m', m' < m ∧ W (i + 1) m' H') ∧ ∀ (x : V) (H' : Hp), J.yld i H x H' →
        g x (wipe σ vs) H' fun σ2 H2 => wipe σ2 vs = wipe σ vs ∧ tt σ2 H2 fun b H3 => if b = true then te σ2 H3 fun y H4 => ∃ acc, H4 Dl = some (HO.lst acc) ∧ acc.length < sizeLine ∧ Nx (upd H4 Dl (HO.lst (acc ++ [y]))) else Nx H3) : tLc wi g tt te vs σ H Q := h
end

/-! #### order and sorted, of data of one type -/
class SO (α : Type) [TD α] where
  alike : ∀ x y : α, PySem.W.alike (TD.d x) (TD.d y) = true
  nn : ∀ x : α, TD.d x ≠ .none
  kind : (∀ x : α, ∃ y r, TD.d x = .tuple (y :: r)) ∨ ∀ (x : α) xs, TD.d x ≠ .tuple xs
instance : SO Int := ⟨fun _ _ => by simp [TD.d, PySem.W.alike], (fun _ h => nomatch h), .inr fun _ _ h => nomatch h⟩
theorem alikeAll_of {α : Type} [TD α] [SO α] : ∀ xs ys : List α, PySem.W.alikeAll (xs.map TD.d) (ys.map TD.d) = true
  | [], _ => by simp [PySem.W.alikeAll]
  | _ :: _, [] => by simp [PySem.W.alikeAll]
  | x :: xs, y :: ys => by
    rw [List.map_cons, List.map_cons, PySem.W.alikeAll, alikeAll_of xs ys, SO.alike]; rfl
instance {α : Type} [TD α] [SO α] : SO (List α) := ⟨fun xs ys => by
  show PySem.W.alike (.list _) (.list _) = true
  rw [PySem.W.alike]; exact alikeAll_of xs ys, (fun _ h => nomatch h), .inr fun _ _ h => nomatch h⟩
instance {α β : Type} [TD α] [SO α] [TD β] [SO β] : SO (α × β) := ⟨fun p q => by
  show PySem.W.alike (.tuple [_, _]) (.tuple [_, _]) = true
  simp [PySem.W.alike, PySem.W.alikeAll, SO.alike], (fun _ h => nomatch h), .inl fun p => ⟨_, _, rfl⟩⟩
def ltT {α : Type} [TD α] (x y : α) : Bool := PySem.W.dataLt (TD.d x) (TD.d y)
def sortT {α : Type} [TD α] (xs : List α) : List α := xs.mergeSort (PySem.W.dataLe false TD.d)
theorem sortT_len {α : Type} [TD α] (xs : List α) : (sortT xs).length = xs.length := List.length_mergeSort _
def rGeT (α : Type) [TD α] : R2 := fun x y H Q => ∃ (F : Hp) (a b : α), Sub F H ∧ R F x a ∧ R F y b ∧ Q (.bl (!ltT a b)) H
def rLeT' (α : Type) [TD α] : R2 := fun x y H Q => ∃ (F : Hp) (a b : α), Sub F H ∧ R F x a ∧ R F y b ∧ Q (.bl (!ltT b a)) H
def rLtT' (α : Type) [TD α] : R2 := fun x y H Q => ∃ (F : Hp) (a b : α), Sub F H ∧ R F x a ∧ R F y b ∧ Q (.bl (ltT a b)) H
def rGtT (α : Type) [TD α] : R2 := fun x y H Q => ∃ (F : Hp) (a b : α), Sub F H ∧ R F x a ∧ R F y b ∧ Q (.bl (ltT b a)) H
section
variable {X : Cx} {α : Type} [TD α] [SO α]
theorem op_geT' (hd : TD.dep α ≤ 60) (hu : X.A.units + 64 < cLine) : OpR X (compareOp .GtE) (rGeT α) := by
  intro pins s σ H x y v u Q I rx ry h
  obtain ⟨F, a, b, sb, ha, hb, q⟩ := h
  obtain ⟨as, r1⟩ := Dp.reads I _ x v (ha.dp (K := X.K) sb) rx
  obtain ⟨bs, r2⟩ := Dp.reads I _ y u (hb.dp (K := X.K) sb) ry
  have h1 := TD.dle a
  exact PySem.W.ge_data r1 r2 (SO.alike a b) (SO.nn a) (by omega) ⟨.bl _, H, I, rfl, q⟩
theorem op_leT' (hd : TD.dep α ≤ 60) (hu : X.A.units + 64 < cLine) : OpR X (compareOp .LtE) (rLeT' α) := by
  intro pins s σ H x y v u Q I rx ry h
  obtain ⟨F, a, b, sb, ha, hb, q⟩ := h
  obtain ⟨as, r1⟩ := Dp.reads I _ x v (ha.dp (K := X.K) sb) rx
  obtain ⟨bs, r2⟩ := Dp.reads I _ y u (hb.dp (K := X.K) sb) ry
  have h1 := TD.dle a
  exact PySem.W.le_data r1 r2 (SO.alike a b) (SO.nn a) (by omega) ⟨.bl _, H, I, rfl, q⟩
theorem op_ltT' (hd : TD.dep α ≤ 60) (hu : X.A.units + 64 < cLine) : OpR X (compareOp .Lt) (rLtT' α) := by
  intro pins s σ H x y v u Q I rx ry h
  obtain ⟨F, a, b, sb, ha, hb, q⟩ := h
  obtain ⟨as, r1⟩ := Dp.reads I _ x v (ha.dp (K := X.K) sb) rx
  obtain ⟨bs, r2⟩ := Dp.reads I _ y u (hb.dp (K := X.K) sb) ry
  have h1 := TD.dle a
  exact PySem.W.lt_data r1 r2 (SO.alike a b) (SO.nn a) (by omega) ⟨.bl _, H, I, rfl, q⟩
theorem op_gtT' (hd : TD.dep α ≤ 60) (hu : X.A.units + 64 < cLine) : OpR X (compareOp .Gt) (rGtT α) := by
  intro pins s σ H x y v u Q I rx ry h
  obtain ⟨F, a, b, sb, ha, hb, q⟩ := h
  obtain ⟨as, r1⟩ := Dp.reads I _ x v (ha.dp (K := X.K) sb) rx
  obtain ⟨bs, r2⟩ := Dp.reads I _ y u (hb.dp (K := X.K) sb) ry
  have h1 := TD.dle a
  exact PySem.W.gt_data r1 r2 (SO.alike a b) (SO.nn a) (by omega) ⟨.bl _, H, I, rfl, q⟩
/-- the values stand for the items -/
theorem each_of {F : Hp} : ∀ {us : List V} {vs : List Value} {xs : List α}, Vals us vs → Rs F us xs → PySem.W.EachIs (fun v x => ∃ u, RelV u v ∧ R F u x) vs xs
  | _, _, [], r, q => by
    cases q
    cases r; exact .nil
  | _, _, x :: xs, r, q => by
    cases q with
    | cons h1 h2 => cases r with | cons r1 r2 => exact .cons ⟨_, r1, h1⟩ (each_of r2 h2)
theorem of_each {F : Hp} : ∀ {vs : List Value} {xs : List α}, PySem.W.EachIs (fun v x => ∃ u, RelV u v ∧ R F u x) vs xs → ∃ us, Vals us vs ∧ Rs F us xs
  | _, _, .nil => ⟨[], .nil, .nil⟩
  | _, _, .cons ⟨u, h1, h2⟩ t => by
    obtain ⟨us, a, b⟩ := of_each t
    exact ⟨u :: us, .cons h1 a, .cons h2 b⟩
def rSortedT (α : Type) [TD α] : List V → Hp → VK → Prop := fun vs H Q => ∃ (a : Addr) (us : List V) (F : Hp) (xs : List α), vs = [.ref a] ∧ H a = some (.lst us) ∧ Sub F H ∧ Rs F us xs ∧ xs.length ≤ 16777216 ∧
  ∀ p ws, H p = none → Rs F ws (sortT xs) → Q (.ref p) (upd H p (.lst ws))
theorem call_sortedT (hd : TD.dep α ≤ 60) (hu : X.A.units + 200 < cLine) : CallR X (.builtin "sorted") (rSortedT α) := by
  intro pins s σ H vs us0 Q I r h
  obtain ⟨a, us, F, xs, rfl, ha, sb, hr, hl, q⟩ := h
  have hS : SqL X.K H a us := .inl (.inl ha)
  obtain ⟨its, rv, hli, _⟩ := I.list hS
  rw [Vals.ref1 r]
  have e1 := each_of rv hr
  have reads : PySem.W.EachIs (fun v x => ∃ as, Reads s.heap v (TD.d x) as) its xs := e1.mono fun v x ⟨u, r1, r2⟩ => Dp.reads I _ u v (r2.dp (K := X.K) sb) r1
  refine PySem.W.sorted_data (enc := TD.d) (R := fun v x => ∃ u, RelV u v ∧ R F u x) hli.isList e1 reads (PySem.W.AllAlike.of SO.alike) ?_ (by rw [sizeLine_eq]; exact hl) (fun x _ => ?_) fun out hlen eo => ?_
  · rcases SO.kind (α := α) with k | k
    · exact PySem.W.Sortable.tuples k
    · exact PySem.W.Sortable.others fun x => ⟨SO.nn x, k x⟩
  · have h1 := TD.dle x
    omega
  · obtain ⟨ws, w1, w2⟩ := of_each eo
    obtain ⟨ep, he'⟩ := PyProof.Rows.sortedAll_at s.heap its out.toArray
    have hz : ws.length ≤ sizeLine := by rw [Rs_len w2, sizeLine_eq]; show (sortT xs).length ≤ _; rw [sortT_len]; exact hl
    exact ⟨.ref _, upd H (s.heap.objs.size + 1) (.lst ws), I.laid (t' := s.toks) (fun _ _ => PyProof.Rows.sortedAll_old) (Nat.le_succ _) ⟨hz, out, ep, w1, he'⟩, rfl, q _ ws (I.hok.fresh (Nat.le_succ _)) w2⟩
end
theorem hu200 {A : Around} {k : Nat} (hr : Room (k + 1) A) : A.units + 200 < cLine := by have := hr.un; omega
theorem hu200' {A : Around} {k : Nat} (hr : Room k A) : A.units + 200 < cLine := by have := hr.un; omega

/-! #### readings at a K that is written -/
section
variable {X : Cx}
def rLenT (K : PySem.W.Frag) : List V → Hp → VK → Prop := fun xs H Q => ∃ p ys, xs = [V.ref p] ∧ (SqL K H p ys ∨ SqT K H p ys) ∧ Q (.int ys.length) H
theorem call_lenT : CallR X (.builtin "len") (rLenT X.K) := call_len_seq
def rListT (K : PySem.W.Frag) : List V → Hp → VK → Prop := fun xs H Q => ∃ p ys, xs = [V.ref p] ∧ (SqL K H p ys ∨ SqT K H p ys) ∧ ∀ l, H l = none → Q (.ref l) (upd H l (.lst ys))
theorem call_listT : CallR X (.type "list") (rListT X.K) := call_list_of
end

/-! #### simple expressions by a term -/
theorem gr_ex {F H H2 : Hp} (s : Sub F H) (e : Evl.Ex H H2) : Gr NA F H F H2 :=
  ⟨fun a o _ h => e a o h, fun a h => by
    cases q : H a with
    | none => exact absurd q h
    | some o => rw [e a o q]; exact (fun z => nomatch z), Sub.refl F, s.trans e, fun _ _ f => f⟩
theorem useEv {te : TE} {σ : L2.St} {H : Hp} {Q : VK} (v : V) (h : Evl.Ev te σ H v) (k : ∀ H2, Evl.Ex H H2 → Q v H2) : te σ H Q := h H (Evl.Ex.refl H) Q k
theorem useT {tt : TT} {σ : L2.St} {H : Hp} {Q : Bool → Hp → Prop} (b : Bool) (h : Evl.EvT tt σ H b) (k : ∀ H2, Evl.Ex H H2 → Q b H2) : tt σ H Q := h H (Evl.Ex.refl H) Q k
section
variable {K : PySem.W.Frag} {σ : L2.St} {H F : Hp} {ta tb : TE} {α : Type} [TD α]
theorem ev_cmp {p : Int → Int → Bool} {i j : Int} (ha : Evl.Ev ta σ H (.int i)) (hb : Evl.Ev tb σ H (.int j)) : Evl.Ev (tCmp p ta tb) σ H (.bl (p i j)) := fun H1 e Q q =>
  ha H1 e _ fun H2 e2 => hb H2 (e.trans e2) _ fun H3 e3 => ⟨i, j, rfl, rfl, q H3 (e2.trans e3)⟩
theorem isN_opt [NN α] {v : V} {o : Option α} (h : R F v o) : decide (v = .non) = o.isNone := by
  cases o with
  | none => cases (show RD F v .none from h); rfl
  | some x =>
    have h' : RD F v (TD.d x) := h
    have hn : v ≠ .non := fun e => by
      subst e
      generalize hd : TD.d x = d at h'
      cases h'
      exact (NN.nn x).2 hd
    rw [decide_eq_false hn]; rfl
theorem ev_isN [NN α] {v : V} {o : Option α} (ha : Evl.Ev ta σ H v) (h : R F v o) : Evl.Ev (tIsN ta) σ H (.bl o.isNone) := fun H1 e Q q =>
  ha H1 e _ fun H2 e2 => by
    show Q (.bl (decide (v = .non))) H2
    rw [isN_opt h]; exact q H2 e2
theorem ev_notN [NN α] {v : V} {o : Option α} (ha : Evl.Ev ta σ H v) (h : R F v o) : Evl.Ev (tNotN ta) σ H (.bl (!o.isNone)) := fun H1 e Q q =>
  ha H1 e _ fun H2 e2 => by
    show Q (.bl (!decide (v = .non))) H2
    rw [isN_opt h]; exact q H2 e2
theorem ev_eqVar [TE' α] {v w : V} {x y : α} (ha : Evl.Ev ta σ H v) (hb : Evl.Ev tb σ H w) (hx : R H v x) (hy : R H w y) : Evl.Ev (tOp (rEqT α) ta tb) σ H (.bl (eqT x y)) := fun H1 e Q q =>
  ha H1 e _ fun H2 e2 => hb H2 (e.trans e2) _ fun H3 e3 => ⟨H3, x, y, Sub.refl _, hx.mono ((e.trans e2).trans e3), hy.mono ((e.trans e2).trans e3), q H3 (e2.trans e3)⟩
theorem ev_neqVar [TE' α] {v w : V} {x y : α} (ha : Evl.Ev ta σ H v) (hb : Evl.Ev tb σ H w) (hx : R H v x) (hy : R H w y) : Evl.Ev (tOp (rNeT α) ta tb) σ H (.bl (!eqT x y)) := fun H1 e Q q =>
  ha H1 e _ fun H2 e2 => hb H2 (e.trans e2) _ fun H3 e3 => ⟨H3, x, y, Sub.refl _, hx.mono ((e.trans e2).trans e3), hy.mono ((e.trans e2).trans e3), q H3 (e2.trans e3)⟩
theorem ev_eqNil [TE' α] {v : V} {x : List α} (ha : Evl.Ev ta σ H v) (hx : R H v x) : Evl.Ev (tOp (rEqT (List α)) ta (tLst tNil)) σ H (.bl (eqT x [])) := fun H1 e Q q =>
  ha H1 e _ fun H2 e2 => ⟨Nat.zero_le _, fun p hp => ⟨_, x, [], Sub.refl _, hx.mono ((e.trans e2).trans (Evl.Ex.new hp)), mk_lst upd_same Rs_nil, q _ (e2.trans (Evl.Ex.new hp))⟩⟩
theorem ev_neqNil [TE' α] {v : V} {x : List α} (ha : Evl.Ev ta σ H v) (hx : R H v x) : Evl.Ev (tOp (rNeT (List α)) ta (tLst tNil)) σ H (.bl (!eqT x [])) := fun H1 e Q q =>
  ha H1 e _ fun H2 e2 => ⟨Nat.zero_le _, fun p hp => ⟨_, x, [], Sub.refl _, hx.mono ((e.trans e2).trans (Evl.Ex.new hp)), mk_lst upd_same Rs_nil, q _ (e2.trans (Evl.Ex.new hp))⟩⟩
theorem ev_lenT {a : Addr} {us : List V} {xs : List α} (ha : Evl.Ev ta σ H (.ref a)) (h : H a = some (.lst us)) (r : Rs F us xs) :
    Evl.Ev (tCB (rLenT K) (tCons ta tNil)) σ H (.int (xs.length : Int)) := fun H1 e Q q =>
  ha H1 e _ fun H2 e2 => ⟨a, us, rfl, .inl (.inl (.inl (e2 _ _ (e _ _ h)))), by rw [Rs_len r]; exact q H2 e2⟩
end
section
variable {A : Addr → Prop} {F0 H0 F H N H' : Hp} {p : Addr} {o : HO} {us : List V}
theorem Ow.frzo {q : Addr} {ws : List V} (w : Ow H0 F H p us) (h : p ≠ q) (x : Ow H0 F H q ws) : Ow H0 (upd F q (.lst ws)) H p us := ⟨w.at_, by rw [upd_ne h]; exact w.nf, w.n0⟩
end
/-! #### slices, stores -/
def cutT {α : Type} (xs : List α) (lo hi : Option Int) : List α := (xs.drop (HT.sIx xs.length 0 lo)).take (HT.sIx xs.length xs.length hi - HT.sIx xs.length 0 lo)
section
variable {F : Hp} {α : Type} [TD α] {us : List V} {xs : List α}
theorem Rs_take (n : Nat) (r : Rs F us xs) : Rs F (us.take n) (xs.take n) := by unfold Rs; rw [List.map_take]; exact r.take n
theorem Rs_drop (n : Nat) (r : Rs F us xs) : Rs F (us.drop n) (xs.drop n) := by unfold Rs; rw [List.map_drop]; exact r.drop n
theorem Rs_cut {lo hi : Option Int} (r : Rs F us xs) : Rs F (cutV us lo hi) (cutT xs lo hi) := by
  unfold cutV cutT; rw [Rs_len r]; exact Rs_take _ (Rs_drop _ r)
theorem Rs_set {u : V} {x : α} {j : Nat} (r : Rs F us xs) (h : R F u x) : Rs F (us.set j u) (xs.set j x) := by unfold Rs; rw [List.map_set]; exact r.set j h
theorem Rs_ins {u : V} {x : α} {n : Nat} (r : Rs F us xs) (h : R F u x) : Rs F (us.take n ++ [u] ++ us.drop n) (xs.take n ++ [x] ++ xs.drop n) := Rs_app (Rs_app (Rs_take n r) (Rs_cons h Rs_nil)) (Rs_drop n r)
theorem Rs_rep (r : Rs F us xs) : ∀ {n : Nat}, Rs F (List.replicate n us).flatten (List.replicate n xs).flatten
  | 0 => .nil
  | n + 1 => by rw [List.replicate_succ, List.replicate_succ, List.flatten_cons, List.flatten_cons]; exact Rs_app r (Rs_rep r)
end
def Rg1 (j : Int) : Prop := -(2 ^ 62) ≤ j ∧ j < 2 ^ 62
instance (j : Int) : Decidable (Rg1 j) := inferInstanceAs (Decidable (_ ∧ _))
theorem Rg1.lo {j : Int} (h : Rg1 j) : -(2 ^ 62) ≤ j := h.1
theorem Rg1.hi {j : Int} (h : Rg1 j) : j < 2 ^ 62 := h.2
def Rg2 (i j : Int) : Prop := -(2 ^ 62) ≤ i ∧ i < 2 ^ 62 ∧ -(2 ^ 62) ≤ j ∧ j < 2 ^ 62
instance (i j : Int) : Decidable (Rg2 i j) := inferInstanceAs (Decidable (_ ∧ _))
theorem Rg2.ok {i j : Int} (h : Rg2 i j) : -(2 ^ 62) ≤ i ∧ i < 2 ^ 62 ∧ -(2 ^ 62) ≤ j ∧ j < 2 ^ 62 := h
def InsOk (n : Nat) (i : Int) : Prop := n < 16777216 ∧ 0 ≤ i ∧ i < 2 ^ 63
instance (n : Nat) (i : Int) : Decidable (InsOk n i) := inferInstanceAs (Decidable (_ ∧ _))
theorem InsOk.a {n : Nat} {i : Int} (h : InsOk n i) : n < 16777216 := h.1
theorem InsOk.b {n : Nat} {i : Int} (h : InsOk n i) : 0 ≤ i := h.2.1
theorem InsOk.c {n : Nat} {i : Int} (h : InsOk n i) : i < 2 ^ 63 := h.2.2
def Rv (n : Nat) (k : Int) : Prop := (-(2 ^ 63) ≤ k ∧ k < 2 ^ 63) ∧ n * k.toNat ≤ 16777216
instance (n : Nat) (k : Int) : Decidable (Rv n k) := inferInstanceAs (Decidable (_ ∧ _))
theorem Rv.lo {n : Nat} {k : Int} (h : Rv n k) : -(2 ^ 63) ≤ k := h.1.1
theorem Rv.hi {n : Nat} {k : Int} (h : Rv n k) : k < 2 ^ 63 := h.1.2
theorem Rv.sz {n : Nat} {k : Int} (h : Rv n k) : n * k.toNat ≤ 16777216 := h.2
theorem no_none {P : Prop} {α : Type} {r : α} (h : none = some r) : P := nomatch h
theorem ret_true {b : Bool} {Q : VK} {H : Hp} (hm : some b = some true) (q : ∀ H', Q (.bl true) H') : Q (.bl b) H := by cases hm; exact q H
theorem pairp {α β : Type} {a c : α} {b d : β} (h : some (a, b) = some (c, d)) : a = c ∧ b = d := by cases h; exact ⟨rfl, rfl⟩

/-! #### a fresh answer is ours -/
def Fz (H : Hp) (v : V) : Prop := ∀ a, v = .ref a → H a = none
theorem own_of {A B : Addr → Prop} {α : Type} [TD α] {F0 H0 F H N H2 : Hp} {a : Addr} {us : List V} {xs : List α} (G : Gr A F0 H0 F H) (g : Gr B F H N H2) (z : H a = none) (h : N a = some (.lst us)) : Ow H0 F H2 a us :=
  ⟨g.sub _ _ h, G.sub.none z, G.fresh z⟩
theorem Rs_flatI {N F : Hp} {us : List V} {xs : List Int} (r : Rs N us xs) : Rs F us xs := by rw [Rs_int r]; exact int_Rs xs
theorem Rs_flatB {N F : Hp} : ∀ {us : List V} {xs : List Bool}, Rs N us xs → Rs F us xs
  | _, [], r => by cases r; exact .nil
  | _, x :: xs, r => by cases r with | cons h r => cases h; exact .cons (.bl _) (Rs_flatB r)

/-! #### the deck of the laws' draws -/
abbrev DkS := List (Int × Int × Int) × Int
def Deck (A : Addr → Prop) (H : Hp) (dk : Addr) (st : DkS) : Prop := ∃ (P : Addr) (pas : List Addr), H dk = some (.lst [.ref P, .int st.2]) ∧ H P = some (.lst (pas.map V.ref)) ∧
  Paired (fun pa (p : Int × Int × Int) => H pa = some (.lst [.int p.1, .int p.2.1, .int p.2.2])) pas st.1 ∧ (∀ a, A a ↔ a = dk ∨ a = P ∨ a ∈ pas) ∧ dk ≠ P ∧ dk ∉ pas ∧ P ∉ pas ∧ pas.Nodup
theorem paired_mono {α β : Type} {F G : α → β → Prop} {l : List α} {m : List β} (p : Paired F l m) (f : ∀ a b, a ∈ l → F a b → G a b) : Paired G l m := by
  induction p with
  | nil => exact .nil
  | cons h _ ih => exact .cons (f _ _ List.mem_cons_self h) (ih fun a b ha => f a b (List.mem_cons_of_mem _ ha))
theorem Deck.keep {A : Addr → Prop} {H H' : Hp} {dk : Addr} {st : DkS} (d : Deck A H dk st) (k : ∀ a o, A a → H a = some o → H' a = some o) : Deck A H' dk st := by
  obtain ⟨P, pas, h1, h2, h3, hA, r⟩ := d
  exact ⟨P, pas, k _ _ ((hA _).mpr (.inl rfl)) h1, k _ _ ((hA _).mpr (.inr (.inl rfl))) h2, paired_mono h3 fun a b ha h => k _ _ ((hA _).mpr (.inr (.inr ha))) h, hA, r⟩
theorem paired_left {α β : Type} {F : α → β → Prop} : ∀ {l : List α} {m : List β} {a : α}, Paired F l m → a ∈ l → ∃ b, F a b
  | _, _, _, .nil, h => nomatch h
  | _, _, a, .cons (a := x) h t, hm => by
    rcases List.mem_cons.mp hm with e | e
    · subst e; exact ⟨_, h⟩
    · exact paired_left t e
theorem Deck.there {A : Addr → Prop} {H : Hp} {dk a : Addr} {st : DkS} (d : Deck A H dk st) (h : A a) : H a ≠ none := by
  obtain ⟨P, pas, h1, h2, h3, hA, r⟩ := d
  rcases (hA a).mp h with e | e | e
  · subst e; rw [h1]; exact (fun z => nomatch z)
  · subst e; rw [h2]; exact (fun z => nomatch z)
  · obtain ⟨p, hp⟩ := paired_left h3 e
    rw [hp]; exact (fun z => nomatch z)
structure DkAt (A : Addr → Prop) (H0 F H : Hp) (dk : Addr) (st : DkS) : Prop where
  at_ : Deck A H dk st
  nf : ∀ a, A a → F a = none
  n0 : ∀ a, A a → H0 a ≠ none
section
variable {A : Addr → Prop} {F0 H0 F H N H' : Hp} {p dk : Addr} {o : HO} {us : List V} {st st2 : DkS}
theorem DkAt.mk0 (h : Deck A H dk st) (f : ∀ a, A a → F a = none) : DkAt A H F H dk st := ⟨h, f, fun _ => h.there⟩
theorem DkAt.step (d : DkAt A H0 F H dk st) (g : Gr NA F H N H') : DkAt A H0 N H' dk st := ⟨d.at_.keep fun a o _ h => g.keep a o id h, fun a h => g.own a (d.at_.there h) (d.nf a h), d.n0⟩
theorem DkAt.stepA (d : DkAt A H0 F H dk st) (g : Gr A F H N H') (x : Deck A H' dk st2) : DkAt A H0 N H' dk st2 := ⟨x, fun a h => g.own a (d.at_.there h) (d.nf a h), d.n0⟩
theorem DkAt.out (d : DkAt A H0 F H dk st) (w : Ow H0 F H p us) : ¬ A p := fun h => d.n0 p h w.n0
theorem DkAt.mut {ws : List V} (d : DkAt A H0 F H dk st) (w : Ow H0 F H p us) : DkAt A H0 F (upd H p (.lst ws)) dk st :=
  ⟨d.at_.keep fun a o h e => by rw [upd_ne (show a ≠ p from fun z => d.out w (by rw [← z]; exact h))]; exact e, d.nf, d.n0⟩
theorem DkAt.frz (d : DkAt A H0 F H dk st) (w : Ow H0 F H p us) : DkAt A H0 (upd F p (.lst us)) H dk st :=
  ⟨d.at_, fun a h => by rw [upd_ne (show a ≠ p from fun z => d.out w (by rw [← z]; exact h))]; exact d.nf a h, d.n0⟩
theorem Ow.stepA (w : Ow H0 F H p us) (g : Gr A F H N H') (h : ¬ A p) : Ow H0 N H' p us := ⟨g.keep p _ h w.at_, g.own p (by rw [w.at_]; exact (fun z => nomatch z)) w.nf, w.n0⟩
theorem Gr.mutA (G : Gr A F0 H0 F H) (h : A p) (f : F p = none) : Gr A F0 H0 F (upd H p o) :=
  ⟨fun a u na e => by rw [upd_ne (show a ≠ p from fun z => na (by rw [z]; exact h))]; exact G.keep a u na e, fun a e => by
    by_cases z : a = p
    · subst z; rw [upd_same]; exact (fun z => nomatch z)
    · rw [upd_ne z]; exact G.there a e, G.ex, G.sub.mut f, G.own⟩
end
/-- one draw -/
def mixD (x t many : Int) : Int :=
  let a := (x % 99999999977 + 700001 * t) % 99999999947
  let b := a * a % 99999999821
  let c := b * (b + 19) % 9999999967
  c / 13 % many
def _law_draw (st : DkS) (many : Int) : Option (Int × DkS) :=
  if Dv many then
    (st.1[(st.2 % (st.1.length : Int)).toNat]?).bind fun p =>
      if p.2.1 = 1 ∧ 0 < p.1 then some (p.1 % many, (st.1.set (st.2 % (st.1.length : Int)).toNat (p.1 / many, p.2.1, p.2.2), st.2 + 1))
      else some (mixD p.1 (p.2.2 + 1) many, (st.1.set (st.2 % (st.1.length : Int)).toNat (p.1, p.2.1, p.2.2 + 1), st.2 + 1))
  else none
def poolOf (cells : List Int) (k : Nat) : Int × Int × Int :=
  let cell := cells.getD k 0
  (cell, (if decide ((10 : Int) ^ (18 : Int).toNat ≤ cell) = true then 1 else 0), 31 * (k : Int))
def deckLen (cells : List Int) : Nat := max 1 (min 63 cells.length)
def mkDeck (cells : List Int) : DkS := ((List.range (deckLen cells)).map (poolOf cells), 0)

/-! #### a constant of the module -/
structure CAt (mg : Str → Option Value) (nm : Str) (i : Int) where
  t : Tok
  g : mg nm = some (.int i t)

/-! #### a def of the text, where it stands -/
structure FnAt (K : PySem.W.Frag) (mg : Str → Option Value) (nm : Str) (st : Stmt) (ps : List Str) where
  f : Addr
  fd : FuncData
  F : Fun K nm nm st f fd
  g : mg nm = some (.ref f)
  b : Binds K fd ps []
end My

namespace My
open PySem PySem.Spec PyProof.Rows L2
def topS (i : Nat) : Stmt := PySem.Challenge.pw_lackstretch_k02_numbers_of_figures.main.body.getD i (.Pass ⟨0, 0, 0, 0⟩)
abbrev s__law_deck : Stmt := topS 15
abbrev s__law_draw : Stmt := topS 16
abbrev s_is_whole : Stmt := topS 7
abbrev s_is_figure : Stmt := topS 10
abbrev s_are_figures : Stmt := topS 11
abbrev s_is_base : Stmt := topS 8
abbrev s_need_base : Stmt := topS 9
abbrev s_worth : Stmt := topS 12
abbrev s_number_by : Stmt := topS 13
abbrev s__law_right : Stmt := topS 18
abbrev s__law_some_figures : Stmt := topS 17
abbrev s_law : Stmt := topS 19
structure Txt (K : PySem.W.Frag) (mg : Str → Option Value) where
  f__law_deck : FnAt K mg "_law_deck" s__law_deck ["script"]
  f__law_draw : FnAt K mg "_law_draw" s__law_draw ["deck", "many"]
  f_is_whole : FnAt K mg "is_whole" s_is_whole ["thing"]
  f_is_figure : FnAt K mg "is_figure" s_is_figure ["base", "thing"]
  f_are_figures : FnAt K mg "are_figures" s_are_figures ["base", "thing"]
  f_is_base : FnAt K mg "is_base" s_is_base ["thing"]
  f_need_base : FnAt K mg "need_base" s_need_base ["thing"]
  f_worth : FnAt K mg "worth" s_worth ["base", "figures"]
  f_number_by : FnAt K mg "number_by" s_number_by ["base", "figures"]
  f__law_right : FnAt K mg "_law_right" s__law_right ["base", "handed"]
  f__law_some_figures : FnAt K mg "_law_some_figures" s__law_some_figures ["deck", "base"]
  f_law : FnAt K mg "law" s_law ["script"]
  c_LEAST_BASE : CAt mg "LEAST_BASE" 2
  c_MOST_BASE : CAt mg "MOST_BASE" 16
  z_bool : mg "bool" = none
  z_int : mg "int" = none
  z_isinstance : mg "isinstance" = none
  z_len : mg "len" = none
  z_list : mg "list" = none
  z_max : mg "max" = none
  z_min : mg "min" = none
  z_range : mg "range" = none
/-! #### the deck: made, drawn from -/
abbrev N__law_draw : List Str := ["deck", "many", "pool", "found", "number"]
theorem sc__law_draw : FnScope N__law_draw ["deck", "many"] (defScope s__law_draw) := ⟨rfl, rfl, rfl, by decide +kernel, rfl, by decide +kernel, by decide +kernel⟩
def sp__law_draw : Sp := fun vs H Q _ => ∃ (F : Hp) (A : Addr → Prop) (dk : Addr) (st : DkS) (v_many : V) (many : Int) (r : Int) (st2 : DkS), vs = [.ref dk, v_many] ∧ Sub F H ∧ Deck A H dk st ∧ (∀ a, A a → F a = none) ∧ R F v_many many ∧ _law_draw st many = some (r, st2) ∧ ∀ N H2 v, Gr A F H N H2 → Deck A H2 dk st2 → R N v r → Q v H2
theorem paired_get {α β : Type} {F : α → β → Prop} : ∀ {l : List α} {m : List β} {i : Nat} {b : β}, Paired F l m → m[i]? = some b → ∃ a, l[i]? = some a ∧ F a b
  | _, _, _, _, .nil, e => by simp at e
  | _, _, 0, _, .cons h _, e => by simp at e; subst e; exact ⟨_, rfl, h⟩
  | _, _, i + 1, _, .cons _ t, e => by
    obtain ⟨a, h1, h2⟩ := paired_get (i := i) t (by simpa using e)
    exact ⟨a, by simpa using h1, h2⟩
theorem paired_len {α β : Type} {F : α → β → Prop} : ∀ {l : List α} {m : List β}, Paired F l m → l.length = m.length
  | _, _, .nil => rfl
  | _, _, .cons _ t => by simp [paired_len t]
theorem paired_set {α β : Type} {F G : α → β → Prop} : ∀ {l : List α} {m : List β} {i : Nat} {a : α} {b : β}, Paired F l m → l[i]? = some a → l.Nodup → (∀ a' b', a' ∈ l → a' ≠ a → F a' b' → G a' b') → G a b → Paired G l (m.set i b)
  | _, _, _, _, _, .nil, e, _, _, _ => by simp at e
  | _, _, 0, a, b, .cons (a := x) h t, e, nd, f, g => by
    simp at e; subst e
    refine .cons g ?_
    have nd' := List.nodup_cons.mp nd
    exact paired_mono t fun a' b' ha hF => f a' b' (List.mem_cons_of_mem _ ha) (fun z => nd'.1 (z ▸ ha)) hF
  | _, _, i + 1, a, b, .cons (a := x) h t, e, nd, f, g => by
    have nd' := List.nodup_cons.mp nd
    have e' := e
    simp at e'
    refine .cons (f _ _ List.mem_cons_self (fun z => ?_) h) (paired_set (i := i) t e' nd'.2 (fun a' b' ha => f a' b' (List.mem_cons_of_mem _ ha)) g)
    rw [z] at nd'
    exact nd'.1 (List.mem_of_getElem? e')
theorem deck_set {A : Addr → Prop} {H : Hp} {dk P pa : Addr} {pas : List Addr} {pools : List (Int × Int × Int)} {c c' : Int} {i : Nat} {p' : Int × Int × Int}
    (h1 : H dk = some (.lst [.ref P, .int c])) (h2 : H P = some (.lst (pas.map V.ref))) (h3 : Paired (fun pa (p : Int × Int × Int) => H pa = some (.lst [.int p.1, .int p.2.1, .int p.2.2])) pas pools)
    (hA : ∀ a, A a ↔ a = dk ∨ a = P ∨ a ∈ pas) (n1 : dk ≠ P) (n2 : dk ∉ pas) (n3 : P ∉ pas) (nd : pas.Nodup) (hi : pas[i]? = some pa) :
    Deck A (upd (upd H dk (.lst [.ref P, .int c'])) pa (.lst [.int p'.1, .int p'.2.1, .int p'.2.2])) dk (pools.set i p', c') := by
  have hm : pa ∈ pas := List.mem_of_getElem? hi
  have m1 : dk ≠ pa := fun z => n2 (by rw [z]; exact hm)
  have m2 : P ≠ pa := fun z => n3 (by rw [z]; exact hm)
  refine ⟨P, pas, ?_, ?_, paired_set h3 hi nd (fun a' b' ha na h => ?_) upd_same, hA, n1, n2, n3, nd⟩
  · rw [upd_ne m1, upd_same]
  · rw [upd_ne m2, upd_ne n1.symm]; exact h2
  · rw [upd_ne na, upd_ne (show a' ≠ dk from fun z => n2 (by rw [← z]; exact ha))]; exact h
theorem emod_in {a m : Int} (h : 0 < m) (h2 : m ≤ 2 ^ 64) : -(2 ^ 64) < a % m ∧ a % m < 2 ^ 64 := by
  have h3 := Int.emod_nonneg a (show m ≠ 0 by omega)
  have h4 := Int.emod_lt_of_pos a h
  constructor <;> omega
theorem draw_cases {st st2 : DkS} {many r : Int} (h : _law_draw st many = some (r, st2)) : Dv many ∧ ∃ p, st.1[(st.2 % (st.1.length : Int)).toNat]? = some p ∧
    ((p.2.1 = 1 ∧ 0 < p.1 ∧ r = p.1 % many ∧ st2 = (st.1.set (st.2 % (st.1.length : Int)).toNat (p.1 / many, p.2.1, p.2.2), st.2 + 1)) ∨
     (¬ (p.2.1 = 1 ∧ 0 < p.1) ∧ r = mixD p.1 (p.2.2 + 1) many ∧ st2 = (st.1.set (st.2 % (st.1.length : Int)).toNat (p.1, p.2.1, p.2.2 + 1), st.2 + 1))) := by
  unfold _law_draw at h
  obtain ⟨c, h⟩ := guardp h
  obtain ⟨p, hp, h⟩ := bindp h
  refine ⟨c, p, hp, ?_⟩
  by_cases q : p.2.1 = 1 ∧ 0 < p.1
  · rw [if_pos q] at h
    obtain ⟨e1, e2⟩ := pairp h
    exact .inl ⟨q.1, q.2, e1.symm, e2.symm⟩
  · rw [if_neg q] at h
    obtain ⟨e1, e2⟩ := pairp h
    exact .inr ⟨q, e1.symm, e2.symm⟩
theorem ok__law_draw {P : Program} {w : World} {K : PySem.W.Frag} {mg : Str → Option Value} {base : Heap} (T : Txt K mg) : FnOk P w K mg base CX0 1 T.f__law_draw.f T.f__law_draw.fd ["deck", "many"] sp__law_draw := by
  have nd := (sc__law_draw).nd
  refine T.f__law_draw.F.ok sc__law_draw (fun vs H Q E h => ?_) (fun cdv A0 outer s H vs Q E hr h => ?_)
  · obtain ⟨_, _, _, _, _, _, _, _, rfl, _⟩ := h
    rfl
  obtain ⟨F0, A, dk, st, v_many, many, r, st2, rfl, s0, hdk, hnf, f_many, hm, q⟩ := h
  obtain rfl := int_of f_many
  have G0 : Gr A F0 H F0 H := Gr.refl s0
  refine ⟨_, pss_cons (ps_set (i := 2) nd rfl (.inl rfl) (pe_ix (r := rIxL K) ix_list (pe_ix (r := rIxL K) ix_list (pv 0) pe_int (fun _ _ => rfl)) (pe_op op_mod (pe_ix (r := rIxL K) ix_list (pv 0) pe_int (fun _ _ => rfl)) (pe_callB (r := rLenT K) call_lenT (by rfl) T.z_len PySem.boot_len (pa_cons (pe_ix (r := rIxL K) ix_list (pv 0) pe_int (fun _ _ => rfl)) pa_nil))) (fun _ _ => rfl)))
    (pss_cons (ps_asg (pe_op op_add (pe_ix (r := rIxL K) ix_list (pv 0) pe_int (fun _ _ => rfl)) pe_int) (pg_sub (pv 0) pe_int set_list))
    (pss_cons (ps_if (PW.pt (pw_and (pt_cmp (pc_eqI (pe_ix (r := rIxL K) ix_list (pv 2) pe_int (fun _ _ => rfl)) pe_int)) (pw_and1 (pt_cmp (pc_gt (pe_ix (r := rIxL K) ix_list (pv 2) pe_int (fun _ _ => rfl)) pe_int)))))
      (pss_cons (ps_set (i := 3) nd rfl (.inl rfl) (pe_op op_mod (pe_ix (r := rIxL K) ix_list (pv 2) pe_int (fun _ _ => rfl)) (pv 1)))
      (pss_cons (ps_asg (pe_op op_fdivW (pe_ix (r := rIxL K) ix_list (pv 2) pe_int (fun _ _ => rfl)) (pv 1)) (pg_sub (pv 2) pe_int set_list))
      (pss_one (ps_ret (pv 3))))) pss_nil)
    (pss_cons (ps_asg (pe_op op_add (pe_ix (r := rIxL K) ix_list (pv 2) pe_int (fun _ _ => rfl)) pe_int) (pg_sub (pv 2) pe_int set_list))
    (pss_cons (ps_set (i := 4) nd rfl (.inl rfl) (pe_op op_mod (pe_op op_add (pe_op op_mod (pe_ix (r := rIxL K) ix_list (pv 2) pe_int (fun _ _ => rfl)) pe_int) (pe_op op_mul pe_int (pe_ix (r := rIxL K) ix_list (pv 2) pe_int (fun _ _ => rfl)))) pe_int))
    (pss_cons (ps_set (i := 4) nd rfl (.inl rfl) (pe_op op_mod (pe_op op_mul (pv 4) (pv 4)) pe_int))
    (pss_cons (ps_set (i := 4) nd rfl (.inl rfl) (pe_op op_mod (pe_op op_mul (pv 4) (pe_op op_add (pv 4) pe_int)) pe_int))
    (pss_one (ps_ret (pe_op op_mod (pe_op op_fdivW (pv 4) pe_int) (pv 1)))))))))), ?_⟩
  obtain ⟨cm, p, hp, hcs⟩ := draw_cases hm
  obtain ⟨P', pas, h1, h2, h3, hA, n1, n2, n3, ndp⟩ := id hdk
  obtain ⟨pa, hpa, hH⟩ := paired_get h3 hp
  have hl := paired_len h3
  have hmem : pa ∈ pas := List.mem_of_getElem? hpa
  have m1 : dk ≠ pa := fun z => n2 (by rw [z]; exact hmem)
  have hlp : 0 < st.1.length := by
    cases e : st.1 with
    | nil => rw [e] at hp; simp at hp
    | cons a b => simp
  have L1 : SqL K H dk [.ref P', .int st.2] := .inl (.inl h1)
  have L2' : SqL K H P' (pas.map V.ref) := .inl (.inl h2)
  -- pool = deck[0][deck[1] % len(deck[0])]
  refine ⟨_, rfl, _, _, _, _, rfl, rfl, L1, atI_nat (j := 0) rfl, ?_⟩
  refine ⟨_, rfl, _, _, _, _, rfl, rfl, L1, atI_nat (j := 1) rfl, ?_⟩
  refine ⟨_, rfl, _, _, _, _, rfl, rfl, L1, atI_nat (j := 0) rfl, ?_⟩
  refine ⟨_, _, rfl, .inl L2', ?_⟩
  refine ⟨_, _, rfl, rfl, (by rw [List.length_map, hl]; omega), ?_⟩
  have ei : (st.2 % (((pas.map V.ref).length : Nat) : Int)) = (((st.2 % (st.1.length : Int)).toNat : Nat) : Int) := by
    rw [List.length_map, hl]
    have := Int.emod_nonneg st.2 (show (st.1.length : Int) ≠ 0 by omega)
    omega
  refine ⟨_, _, _, _, rfl, rfl, L2', (by rw [ei]; exact atI_nat (j := (st.2 % (st.1.length : Int)).toNat) (by rw [List.getElem?_map, hpa]; rfl)), ?_⟩
  -- deck[1] = deck[1] + 1
  refine ⟨_, rfl, _, _, _, _, rfl, rfl, L1, atI_nat (j := 1) rfl, ?_⟩
  refine ⟨_, _, rfl, rfl, ?_⟩
  refine ⟨_, rfl, _, _, _, _, rfl, rfl, h1, (show ixN 2 1 = some 1 from rfl), ?_⟩
  have G1 : Gr A F0 H F0 (upd H dk (.lst [.ref P', .int (st.2 + 1)])) := G0.mutA ((hA dk).mpr (.inl rfl)) (hnf _ ((hA dk).mpr (.inl rfl)))
  have hp1 : (upd H dk (.lst [.ref P', .int (st.2 + 1)])) pa = some (.lst [.int p.1, .int p.2.1, .int p.2.2]) := by rw [upd_ne m1.symm]; exact hH
  have L3 : SqL K (upd H dk (.lst [.ref P', .int (st.2 + 1)])) pa [.int p.1, .int p.2.1, .int p.2.2] := .inl (.inl hp1)
  have Apa : A pa := (hA pa).mpr (.inr (.inr hmem))
  -- if pool[1] == 1 and pool[0] > 0
  refine ⟨_, rfl, _, _, _, _, rfl, rfl, L3, atI_nat (j := 1) rfl, ?_⟩
  refine ⟨_, _, rfl, rfl, _, rfl, ?_⟩
  have drawn : (p.2.1 = 1 ∧ 0 < p.1 ∧ r = p.1 % many ∧ st2 = (st.1.set (st.2 % (st.1.length : Int)).toNat (p.1 / many, p.2.1, p.2.2), st.2 + 1)) → _ := fun hh => hh
  rcases hcs with ⟨c1, c2, rfl, rfl⟩ | ⟨c1, rfl, rfl⟩
  · refine ifD (fun _ => ?_) (fun hc => absurd c1 (dF hc))
    refine ⟨_, rfl, _, _, _, _, rfl, rfl, L3, atI_nat (j := 0) rfl, ?_⟩
    refine ⟨_, _, rfl, rfl, _, rfl, ?_⟩
    refine ifD (fun _ => ?_) (fun hc => absurd c2 (dF hc))
    refine ⟨_, rfl, _, _, _, _, rfl, rfl, L3, atI_nat (j := 0) rfl, ?_⟩
    refine ⟨_, rfl, _, _, rfl, rfl, cm.p, ?_⟩
    refine ⟨_, rfl, _, _, _, _, rfl, rfl, L3, atI_nat (j := 0) rfl, ?_⟩
    refine ⟨_, rfl, _, _, rfl, rfl, cm.w, ?_⟩
    refine ⟨_, rfl, _, _, _, _, rfl, rfl, hp1, (show ixN 3 0 = some 0 from rfl), ?_⟩
    refine ⟨_, rfl, ?_⟩
    have D := deck_set (c' := st.2 + 1) (p' := (p.1 / many, p.2.1, p.2.2)) h1 h2 h3 hA n1 n2 n3 ndp hpa
    have e9 : (HO.lst ([V.int p.1, V.int p.2.1, V.int p.2.2].set 0 (V.int (p.1 / many)))) = .lst [.int (p.1 / many), .int p.2.1, .int p.2.2] := rfl
    exact q _ _ _ (G1.mutA Apa (hnf _ Apa)) D (.int _)
  · have tail : (if decide (p.2.1 = 1) = true then decide (0 < p.1) else false) = false := by
      by_cases a1 : p.2.1 = 1
      · by_cases a2 : 0 < p.1
        · exact absurd ⟨a1, a2⟩ c1
        · simp [a1, a2]
      · simp [a1]
    have rest : ∀ (Z : Prop), (let H3 := upd (upd H dk (.lst [.ref P', .int (st.2 + 1)])) pa (.lst [.int p.1, .int p.2.1, .int (p.2.2 + 1)]); Q (.int (mixD p.1 (p.2.2 + 1) many)) H3) → True := fun _ _ => trivial
    have fin : Q (.int (mixD p.1 (p.2.2 + 1) many)) (upd (upd H dk (.lst [.ref P', .int (st.2 + 1)])) pa (.lst [.int p.1, .int p.2.1, .int (p.2.2 + 1)])) :=
      q _ _ _ (G1.mutA Apa (hnf _ Apa)) (deck_set (c' := st.2 + 1) (p' := (p.1, p.2.1, p.2.2 + 1)) h1 h2 h3 hA n1 n2 n3 ndp hpa) (.int _)
    have b1 := Int.emod_nonneg (p.1 % 99999999977 + 700001 * (p.2.2 + 1)) (show (99999999947 : Int) ≠ 0 by decide)
    have b2 := Int.emod_lt_of_pos (p.1 % 99999999977 + 700001 * (p.2.2 + 1)) (show (0 : Int) < 99999999947 by decide)
    have L4 : SqL K (upd (upd H dk (.lst [.ref P', .int (st.2 + 1)])) pa (.lst [.int p.1, .int p.2.1, .int (p.2.2 + 1)])) pa [.int p.1, .int p.2.1, .int (p.2.2 + 1)] := .inl (.inl upd_same)
    have body : ∀ σ9 : L2.St, σ9 = ([some (V.ref dk), some (V.int many), some (V.ref pa), none, none] : L2.St) → True := fun _ _ => trivial
    refine ifD (fun hc => ?_) (fun hc => ?_)
    · refine ⟨_, rfl, _, _, _, _, rfl, rfl, L3, atI_nat (j := 0) rfl, ?_⟩
      refine ⟨_, _, rfl, rfl, _, rfl, ?_⟩
      refine ifD (fun hc2 => absurd ⟨dT hc, dT hc2⟩ c1) (fun _ => ?_)
      refine ⟨_, rfl, _, _, _, _, rfl, rfl, L3, atI_nat (j := 2) rfl, ?_⟩
      refine ⟨_, _, rfl, rfl, ?_⟩
      refine ⟨_, rfl, _, _, _, _, rfl, rfl, hp1, (show ixN 3 2 = some 2 from rfl), ?_⟩
      refine ⟨_, rfl, _, _, _, _, rfl, rfl, L4, atI_nat (j := 0) rfl, ?_⟩
      refine ⟨_, _, rfl, rfl, (show (0 : Int) < 99999999977 by decide), ?_⟩
      refine ⟨_, rfl, _, _, _, _, rfl, rfl, L4, atI_nat (j := 2) rfl, ?_⟩
      refine ⟨_, _, rfl, rfl, .inl ⟨by decide, by decide⟩, ?_⟩
      refine ⟨_, _, rfl, rfl, ?_⟩
      refine ⟨_, _, rfl, rfl, (show (0 : Int) < 99999999947 by decide), ?_⟩
      refine ⟨_, rfl, _, rfl, _, _, rfl, rfl, .inl ⟨by omega, by omega⟩, ?_⟩
      refine ⟨_, _, rfl, rfl, (show (0 : Int) < 99999999821 by decide), ?_⟩
      refine ⟨_, rfl, _, rfl, _, _, rfl, rfl, ?_⟩
      refine ⟨_, _, rfl, rfl, .inl (emod_in (by decide) (by decide)), ?_⟩
      refine ⟨_, _, rfl, rfl, (show (0 : Int) < 9999999967 by decide), ?_⟩
      refine ⟨_, rfl, _, _, rfl, rfl, (show Dv 13 from by decide +kernel).w, ?_⟩
      refine ⟨_, rfl, _, _, rfl, rfl, cm.p, ?_⟩
      exact fin
    · refine iteF ?_
      refine ⟨_, rfl, _, _, _, _, rfl, rfl, L3, atI_nat (j := 2) rfl, ?_⟩
      refine ⟨_, _, rfl, rfl, ?_⟩
      refine ⟨_, rfl, _, _, _, _, rfl, rfl, hp1, (show ixN 3 2 = some 2 from rfl), ?_⟩
      refine ⟨_, rfl, _, _, _, _, rfl, rfl, L4, atI_nat (j := 0) rfl, ?_⟩
      refine ⟨_, _, rfl, rfl, (show (0 : Int) < 99999999977 by decide), ?_⟩
      refine ⟨_, rfl, _, _, _, _, rfl, rfl, L4, atI_nat (j := 2) rfl, ?_⟩
      refine ⟨_, _, rfl, rfl, .inl ⟨by decide, by decide⟩, ?_⟩
      refine ⟨_, _, rfl, rfl, ?_⟩
      refine ⟨_, _, rfl, rfl, (show (0 : Int) < 99999999947 by decide), ?_⟩
      refine ⟨_, rfl, _, rfl, _, _, rfl, rfl, .inl ⟨by omega, by omega⟩, ?_⟩
      refine ⟨_, _, rfl, rfl, (show (0 : Int) < 99999999821 by decide), ?_⟩
      refine ⟨_, rfl, _, rfl, _, _, rfl, rfl, ?_⟩
      refine ⟨_, _, rfl, rfl, .inl (emod_in (by decide) (by decide)), ?_⟩
      refine ⟨_, _, rfl, rfl, (show (0 : Int) < 9999999967 by decide), ?_⟩
      refine ⟨_, rfl, _, _, rfl, rfl, (show Dv 13 from by decide +kernel).w, ?_⟩
      refine ⟨_, rfl, _, _, rfl, rfl, cm.p, ?_⟩
      exact fin
def sp__law_deck (K : PySem.W.Frag) : Sp := fun vs H Q _ => ∃ (a : Addr) (ns : List Int), vs = [.ref a] ∧ SqL K H a (ns.map V.int) ∧
  ∀ H2 dk A, (∀ b o, H b = some o → H2 b = some o) → Deck A H2 dk (mkDeck ns) → (∀ b, A b → H b = none) → Q (.ref dk) H2
abbrev N__law_deck : List Str := ["script", "pools", "k", "cell"]
theorem sc__law_deck : FnScope N__law_deck ["script"] (defScope s__law_deck) := ⟨rfl, rfl, rfl, by decide +kernel, rfl, by decide +kernel, by decide +kernel⟩
/-- the pools so far -/
def PoolsAt (H0 H : Hp) (P : Addr) (pas : List Addr) (ps : List (Int × Int × Int)) : Prop :=
  H P = some (.lst (pas.map V.ref)) ∧ Paired (fun pa (p : Int × Int × Int) => H pa = some (.lst [.int p.1, .int p.2.1, .int p.2.2])) pas ps ∧ P ∉ pas ∧ pas.Nodup ∧ H0 P = none ∧ (∀ a ∈ pas, H0 a = none) ∧ ∀ b o, H0 b = some o → H b = some o
theorem pools_more {H0 H : Hp} {P pa : Addr} {pas : List Addr} {ps : List (Int × Int × Int)} {p : Int × Int × Int} (h : PoolsAt H0 H P pas ps) (hn : H pa = none) :
    PoolsAt H0 (upd (upd H pa (.lst [.int p.1, .int p.2.1, .int p.2.2])) P (.lst (pas.map V.ref ++ [V.ref pa]))) P (pas ++ [pa]) (ps ++ [p]) := by
  obtain ⟨h1, h2, h3, h4, h5, h6, h7⟩ := h
  have nP : P ≠ pa := ne_of_none h1 hn
  have npa : pa ∉ pas := fun hm => by
    obtain ⟨b, hb⟩ := paired_left h2 hm
    rw [hn] at hb; cases hb
  have z0 : H0 pa = none := by
    cases e : H0 pa with
    | none => rfl
    | some o => rw [h7 _ _ e] at hn; cases hn
  refine ⟨?_, Paired.snoc (paired_mono h2 fun a b ha e => ?_) ?_, ?_, ?_, h5, ?_, fun b o e => ?_⟩
  · rw [upd_same, List.map_append]; rfl
  · rw [upd_ne (show a ≠ P from fun z => h3 (by rw [← z]; exact ha)), upd_ne (show a ≠ pa from fun z => npa (by rw [← z]; exact ha))]; exact e
  · rw [upd_ne nP.symm, upd_same]
  · intro hm
    rcases List.mem_append.mp hm with hm | hm
    · exact h3 hm
    · exact nP (List.mem_singleton.mp hm)
  · rw [List.nodup_append]
    exact ⟨h4, by simp, fun a ha b hb e => npa (by rw [← List.mem_singleton.mp hb, ← e]; exact ha)⟩
  · intro a ha
    rcases List.mem_append.mp ha with ha | ha
    · exact h6 a ha
    · rw [List.mem_singleton.mp ha]; exact z0
  · rw [upd_ne (ne_of_none e h5), upd_ne (ne_of_none e z0)]; exact h7 b o e
theorem poolOf_in {ns : List Int} {k : Nat} {c : Int} (h : ns[k]? = some c) : poolOf ns k = (c, (if decide ((10 : Int) ^ (18 : Int).toNat ≤ c) = true then 1 else 0), 31 * (k : Int)) := by
  unfold poolOf; rw [show ns.getD k 0 = c from by rw [List.getD_eq_getElem?_getD, h]; rfl]
theorem poolOf_out {ns : List Int} {k : Nat} (h : ns.length ≤ k) : poolOf ns k = (0, (if decide ((10 : Int) ^ (18 : Int).toNat ≤ 0) = true then 1 else 0), 31 * (k : Int)) := by
  unfold poolOf; rw [show ns.getD k 0 = 0 from by rw [List.getD_eq_getElem?_getD, List.getElem?_eq_none h]; rfl]
theorem deckLen_eq (ns : List Int) : (if (if (ns.length : Int) < 63 then (ns.length : Int) else 63) > 1 then (if (ns.length : Int) < 63 then (ns.length : Int) else 63) else 1) = ((deckLen ns : Nat) : Int) := by
  unfold deckLen
  split <;> split <;> omega
theorem ok__law_deck {P : Program} {w : World} {K : PySem.W.Frag} {mg : Str → Option Value} {base : Heap} (T : Txt K mg) : FnOk P w K mg base CX0 1 T.f__law_deck.f T.f__law_deck.fd ["script"] (sp__law_deck K) := by
  have nd := (sc__law_deck).nd
  refine T.f__law_deck.F.ok sc__law_deck (fun vs H Q E h => ?_) (fun cdv A0 outer s H vs Q E hr h => ?_)
  · obtain ⟨_, _, rfl, _⟩ := h
    rfl
  obtain ⟨a, ns, rfl, hS, q⟩ := h
  refine ⟨_, pss_cons (ps_set (i := 1) nd rfl (.inl rfl) (pe_lst pa_nil))
    (pss_cons (ps_for PassesOwn.never rfl (pi_range1 (by rfl) T.z_range (pa_cons (pe_callB (call_max2 rfl) (by rfl) T.z_max (by decide +kernel) (pa_cons pe_int (pa_cons (pe_callB (call_min2 rfl) (by rfl) T.z_min (by decide +kernel) (pa_cons pe_int (pa_cons (pe_callB (r := rLenT K) call_lenT (by rfl) T.z_len PySem.boot_len (pa_cons (pv 0) pa_nil)) pa_nil))) pa_nil))) pa_nil)) (pg_name (i := 2) nd rfl (.inl rfl))
      (pss_cons (ps_set (i := 3) nd rfl (.inl rfl) pe_int)
      (Evl.pss_cut (ps_if (pt_cmp (pc_lt (pv 2) (pe_callB (r := rLenT K) call_lenT (by rfl) T.z_len PySem.boot_len (pa_cons (pv 0) pa_nil)))) (pss_one (ps_set (i := 3) nd rfl (.inl rfl) (pe_ix (r := rIxL K) ix_list (pv 0) (pv 2) (fun _ _ => rfl)))) pss_nil)
      (pss_one (ps_expr (pe_bm PySem.F.plainAttrs_list PySem.F.slot_list_append PySem.F.type_list_append mt_append (pv 1) (pa_cons (pe_lst (pa_cons (pv 3) (pa_cons (pe_callTy call_int1 (by rfl) T.z_int (by decide +kernel) (pa_cons (pe_cmp (pc_ge (pv 3) (pe_op op_pow pe_int pe_int))) pa_nil)) (pa_cons (pe_op op_mul pe_int (pv 2)) pa_nil)))) pa_nil)))))))
    (pss_one (ps_ret (pe_lst (pa_cons (pv 1) (pa_cons pe_int pa_nil)))))), ?_⟩
  refine ⟨szle (show 0 ≤ 16777216 by decide), fun P' np => ?_⟩
  have keepS : ∀ H9 : Hp, (∀ b o, H b = some o → H9 b = some o) → SqL K H9 a (ns.map V.int) := fun H9 k => by
    rcases hS with (h | ⟨o, h⟩) | h
    · exact .inl (.inl (k _ _ h))
    · exact .inl (.inr ⟨o, k _ _ h⟩)
    · exact .inr h
  have k1 : ∀ b o, H b = some o → (upd H P' (.lst [])) b = some o := fun b o e => by rw [upd_ne (ne_of_none e np)]; exact e
  refine ⟨_, rfl, _, _, rfl, .inl (keepS _ k1), _, _, rfl, _, _, rfl, ?_⟩
  rw [List.length_map, deckLen_eq]
  refine ⟨_, rfl, by unfold deckLen; omega, by unfold deckLen; omega, ?_⟩
  refine for_rng (lo := 0) (hi := ((deckLen ns : Nat) : Int)) (by rw [Int.sub_zero]) (fun ts σ H1 => ∃ (i : Nat) (pas : List Addr) (y2 y3 : Option V), ts = (irange 0 ((deckLen ns : Nat) : Int)).drop i ∧ i ≤ deckLen ns ∧ PoolsAt H H1 P' pas ((List.range i).map (poolOf ns)) ∧ σ = [some (.ref a), some (.ref P'), y2, y3])
    ⟨0, [], none, none, by rw [List.drop_zero], Nat.zero_le _, ⟨by rw [upd_same]; rfl, .nil, by simp, by simp, np, by simp, k1⟩, rfl⟩ (fun x ts σ H1 hW => ?_) (fun σ H1 hW => ?_)
  · obtain ⟨i, pas, y2, y3, e1, hi, hP, rfl⟩ := hW
    have hlen : (irange 0 ((deckLen ns : Nat) : Int)).length = deckLen ns := by rw [irange_len]; omega
    have hlt : i < deckLen ns := by
      rcases Nat.lt_or_ge i (deckLen ns) with h | h
      · exact h
      · rw [List.drop_of_length_le (by omega)] at e1; cases e1
    have hx : (irange 0 ((deckLen ns : Nat) : Int))[i]? = some (0 + (i : Int)) := irange_get (by omega)
    rw [drop_cons hx] at e1
    obtain ⟨ex, ets⟩ := List.cons.inj e1
    have ex' : x = (i : Int) := by rw [ex, Int.zero_add]
    subst ex'
    obtain ⟨p1, p2, p3, p4, p5, p6, p7⟩ := id hP
    -- cell = 0; if k < len(script): cell = script[k]
    refine ⟨fun σ H2 => H2 = H1 ∧ σ = [some (.ref a), some (.ref P'), some (.int (i : Int)), some (.int (poolOf ns i).1)], ?_, fun σ H2 hM => ?_⟩
    · refine ⟨_, rfl, _, rfl, _, _, rfl, .inl (keepS _ p7), ?_⟩
      rw [List.length_map]
      refine ⟨_, _, rfl, rfl, _, rfl, ?_⟩
      refine ifD (fun hc => ?_) (fun hc => ?_)
      · have hk : i < ns.length := by have := dT hc; omega
        have hg : ns[i]? = some ns[i] := List.getElem?_eq_getElem hk
        refine ⟨_, rfl, _, rfl, _, _, _, _, rfl, rfl, keepS _ p7, atI_nat (j := i) (by rw [List.getElem?_map, hg]; rfl), ?_⟩
        exact ⟨rfl, by rw [poolOf_in hg]; rfl⟩
      · have hk : ns.length ≤ i := by have := dF hc; omega
        exact ⟨rfl, by rw [poolOf_out hk]; rfl⟩
    · obtain ⟨rfl, rfl⟩ := hM
      refine ⟨_, rfl, .inl ⟨rfl, _, .inl (.inl p1)⟩, ?_⟩
      refine ⟨_, rfl, _, rfl, _, _, rfl, rfl, ⟨by decide, by decide, by decide⟩, _, _, rfl, rfl, ?_⟩
      refine .inr ⟨_, rfl, ?_⟩
      refine ⟨_, rfl, _, _, rfl, rfl, .inl ⟨by decide, by decide⟩, ?_⟩
      refine ⟨szle (show 3 ≤ 16777216 by decide), fun pa npa => ?_⟩
      have hp1 : (upd H2 pa (.lst [.int (poolOf ns i).1, .int (poolOf ns i).2.1, .int (poolOf ns i).2.2])) P' = some (.lst (pas.map V.ref)) := by
        rw [upd_ne (ne_of_none p1 npa)]; exact p1
      have hl := paired_len p2
      rw [List.length_map, List.length_range] at hl
      refine ⟨_, _, _, rfl, rfl, hp1, szl (by rw [List.length_map, hl]; unfold deckLen at hlt; omega), ?_⟩
      refine ⟨i + 1, pas ++ [pa], _, _, ets, hlt, ?_, rfl⟩
      rw [List.range_succ, List.map_append]
      exact pools_more (p := poolOf ns i) hP npa
  · obtain ⟨i, pas, y2, y3, e1, hi, hP, rfl⟩ := hW
    have hlen : (irange 0 ((deckLen ns : Nat) : Int)).length = deckLen ns := by rw [irange_len]; omega
    have hge : i = deckLen ns := by
      rcases Nat.lt_or_ge i (deckLen ns) with h | h
      · rw [drop_cons (irange_get (lo := 0) (hi := ((deckLen ns : Nat) : Int)) (by omega))] at e1; cases e1
      · omega
    subst hge
    obtain ⟨p1, p2, p3, p4, p5, p6, p7⟩ := id hP
    refine ⟨_, rfl, ?_⟩
    refine ⟨szle (show 2 ≤ 16777216 by decide), fun dk ndk => ?_⟩
    have nP : P' ≠ dk := ne_of_none p1 ndk
    have npas : dk ∉ pas := fun hm => by
      obtain ⟨b, hb⟩ := paired_left p2 hm
      rw [ndk] at hb; cases hb
    have zdk : H dk = none := by
      cases e : H dk with
      | none => rfl
      | some o => rw [p7 _ _ e] at ndk; cases ndk
    refine q _ dk (fun b => b = dk ∨ b = P' ∨ b ∈ pas) (fun b o e => by rw [upd_ne (ne_of_none e zdk)]; exact p7 b o e) ⟨P', pas, upd_same, by rw [upd_ne nP]; exact p1, paired_mono p2 fun b c hb e => by rw [upd_ne (show b ≠ dk from fun z => npas (by rw [← z]; exact hb))]; exact e, fun _ => Iff.rfl, nP.symm, npas, p3, p4⟩ (fun b hb => ?_)
    rcases hb with e | e | e
    · rw [e]; exact zdk
    · rw [e]; exact p5
    · exact p6 b e

def is_whole (thing : Int) : Option Bool :=
  (some (!false))
abbrev N_is_whole : List Str := ["thing"]
theorem sc_is_whole : FnScope N_is_whole ["thing"] (defScope s_is_whole) := ⟨rfl, rfl, rfl, by decide +kernel, rfl, by decide +kernel, by decide +kernel⟩
def sp_is_whole : Sp := fun vs H Q _ => ∃ (F : Hp) (v_thing : V) (thing : Int) (r : Bool), vs = [v_thing] ∧ Sub F H ∧ R F v_thing thing ∧ is_whole thing = some r ∧ ∀ N H2 v, Gr NA F H N H2 → R N v r → Q v H2
theorem ok_is_whole {P : Program} {w : World} {K : PySem.W.Frag} {mg : Str → Option Value} {base : Heap} (T : Txt K mg) : FnOk P w K mg base CX0 1 T.f_is_whole.f T.f_is_whole.fd ["thing"] sp_is_whole := by
  have nd := (sc_is_whole).nd
  refine T.f_is_whole.F.ok sc_is_whole (fun vs H Q E h => ?_) (fun cdv A0 outer s H vs Q E hr h => ?_)
  · obtain ⟨_, _, _, _, rfl, _⟩ := h
    rfl
  obtain ⟨F0, v_thing, thing, r, rfl, s0, f_thing, hm, q⟩ := h
  have G0 : Gr NA F0 H F0 H := Gr.refl s0
  obtain rfl := int_of f_thing
  refine ⟨_, (pss_one (ps_ret (pe_and (pe_callB (r := rIsi K) call_isi (by rfl) T.z_isinstance (by decide +kernel) (pa_cons (pv 0) (pa_cons (pe_bltn (v := .ty "int") (by rfl) T.z_int (by decide +kernel) rfl) pa_nil))) (pe_one (pe_not (pe_callB (r := rIsi K) call_isi (by rfl) T.z_isinstance (by decide +kernel) (pa_cons (pv 0) (pa_cons (pe_bltn (v := .ty "bool") (by rfl) T.z_bool (by decide +kernel) rfl) pa_nil)))))))), ?_⟩
  rw [is_whole] at hm
  with_reducible refine x_ret ?_
  with_reducible refine x_andV ?_
  with_reducible refine x_cb ?_
  with_reducible refine x_cons ?_
  refine ⟨_, rfl, ?_⟩
  refine ⟨_, _, _, _, true, rfl, ClsV.ty _, TyX.base (TyOf.int _), kit_ty (by decide +kernel), ?_⟩
  refine ⟨_, rfl, ?_⟩
  refine iteT ?_
  with_reducible refine x_notV ?_
  with_reducible refine x_cb ?_
  with_reducible refine x_cons ?_
  refine ⟨_, rfl, ?_⟩
  refine ⟨_, _, _, _, false, rfl, ClsV.ty _, TyX.base (TyOf.int _), kit_ty (by decide +kernel), ?_⟩
  refine ⟨_, rfl, ?_⟩
  obtain rfl : _ = r := Option.some.inj hm
  exact q _ _ _ G0 (.bl _)


def is_figure (base : Int) (thing : Int) : Option Bool :=
  ((is_whole thing).bind fun r1 => (if r1 = true then (if (decide ((0 : Int) ≤ thing)) = true then (some (decide (thing < base))) else (some false)) else (some false)))
abbrev N_is_figure : List Str := ["base", "thing"]
theorem sc_is_figure : FnScope N_is_figure ["base", "thing"] (defScope s_is_figure) := ⟨rfl, rfl, rfl, by decide +kernel, rfl, by decide +kernel, by decide +kernel⟩
def sp_is_figure : Sp := fun vs H Q _ => ∃ (F : Hp) (v_base : V) (v_thing : V) (base : Int) (thing : Int) (r : Bool), vs = [v_base, v_thing] ∧ Sub F H ∧ R F v_base base ∧ R F v_thing thing ∧ is_figure base thing = some r ∧ ∀ N H2 v, Gr NA F H N H2 → R N v r → Q v H2
theorem ok_is_figure {P : Program} {w : World} {K : PySem.W.Frag} {mg : Str → Option Value} {base : Heap} (T : Txt K mg) : FnOk P w K mg base CX0 2 T.f_is_figure.f T.f_is_figure.fd ["base", "thing"] sp_is_figure := by
  have nd := (sc_is_figure).nd
  refine T.f_is_figure.F.ok sc_is_figure (fun vs H Q E h => ?_) (fun cdv A0 outer s H vs Q E hr h => ?_)
  · obtain ⟨_, _, _, _, _, _, rfl, _⟩ := h
    rfl
  obtain ⟨F0, v_base, v_thing, base, thing, r, rfl, s0, f_base, f_thing, hm, q⟩ := h
  have G0 : Gr NA F0 H F0 H := Gr.refl s0
  obtain rfl := int_of f_base
  obtain rfl := int_of f_thing
  refine ⟨_, (pss_one (ps_ret (pe_and (pe_call (ok_is_whole T) (hr.mono (by decide)) (by rfl) T.f_is_whole.g T.f_is_whole.F.kp T.f_is_whole.b .nil pass0 (pa_cons (pv 1) pa_nil)) (pe_one (pe_chain op_le op_lt pe_int (pv 1) (pv 0)))))), ?_⟩
  rw [is_figure] at hm
  with_reducible refine x_ret ?_
  with_reducible refine x_andV ?_
  with_reducible refine x_call ?_
  with_reducible refine x_cons ?_
  refine ⟨_, rfl, ?_⟩
  obtain ⟨r1, hr1, hm⟩ := bindp hm
  refine ⟨_, _, thing, r1, rfl, G0.sub, (.int _), hr1, fun N1 H1 v1 g1 d1  => ?_⟩
  have G1 := G0.step g1
  obtain rfl := bl_of d1
  refine ⟨_, rfl, ?_⟩
  refine ifD (fun hc => ?_) (fun hc => ?_)
  · replace hm := itep hm hc
    with_reducible refine x_chain ?_
    with_reducible refine x_c ?_
    refine ⟨_, rfl, ?_⟩
    refine ⟨_, _, rfl, rfl, _, rfl, ?_⟩
    refine ifD (fun hc => ?_) (fun hc => ?_)
    · replace hm := itep hm hc
      refine ⟨_, rfl, ?_⟩
      refine ⟨_, _, rfl, rfl, ?_⟩
      obtain rfl : _ = r := Option.some.inj hm
      exact q _ _ _ G1 (.bl _)
    · replace hm := iten hm (bF hc)
      obtain rfl : _ = r := Option.some.inj hm
      exact q _ _ _ G1 (.bl _)
  · replace hm := iten hm (bF hc)
    obtain rfl : _ = r := Option.some.inj hm
    exact q _ _ _ G1 (.bl _)

def are_figures_c1 (base : Int) : (List Int) → Int → ((List Int) → Option Bool) → Option Bool
  | x2, t1, next1 => ((is_figure base t1).bind fun r1 => (if (!r1) = true then (if x2.length < 16777216 then (next1 (x2 ++ [t1])) else none) else (next1 x2)))
def are_figures_k2 : (List Int) → Option Bool
  | x2 => (some (eqT x2 ([] : (List Int))))
def are_figures (base : Int) (thing : (List Int)) : Option Bool :=
  (forK (are_figures_c1 base) (thing) [] (are_figures_k2))
abbrev N_are_figures : List Str := ["base", "thing", "one"]
theorem sc_are_figures : FnScope N_are_figures ["base", "thing"] (defScope s_are_figures) := ⟨rfl, rfl, rfl, by decide +kernel, rfl, by decide +kernel, by decide +kernel⟩
def sp_are_figures : Sp := fun vs H Q _ => ∃ (F : Hp) (v_base : V) (v_thing : V) (base : Int) (thing : (List Int)) (r : Bool), vs = [v_base, v_thing] ∧ Sub F H ∧ R F v_base base ∧ R F v_thing thing ∧ are_figures base thing = some r ∧ ∀ N H2 v, Gr NA F H N H2 → R N v r → Q v H2
theorem ok_are_figures {P : Program} {w : World} {K : PySem.W.Frag} {mg : Str → Option Value} {base : Heap} (T : Txt K mg) : FnOk P w K mg base CX0 3 T.f_are_figures.f T.f_are_figures.fd ["base", "thing"] sp_are_figures := by
  have nd := (sc_are_figures).nd
  refine T.f_are_figures.F.ok sc_are_figures (fun vs H Q E h => ?_) (fun cdv A0 outer s H vs Q E hr h => ?_)
  · obtain ⟨_, _, _, _, _, _, rfl, _⟩ := h
    rfl
  obtain ⟨F0, v_base, v_thing, base, thing, r, rfl, s0, f_base, f_thing, hm, q⟩ := h
  have G0 : Gr NA F0 H F0 H := Gr.refl s0
  obtain rfl := int_of f_base
  obtain ⟨a1, us1, rfl, fa1, fr1⟩ := lst_of f_thing
  refine ⟨_, (pss_one (ps_ret (pe_and (pe_callB (r := rIsi K) call_isi (by rfl) T.z_isinstance (by decide +kernel) (pa_cons (pv 1) (pa_cons (pe_bltn (v := .ty "list") (by rfl) T.z_list (by decide +kernel) rfl) pa_nil))) (pe_one (pe_cmpR (op_eqT (α := (List Int)) (by decide) (hu64 hr)) (pe_lc (own := [("one", 2)]) (g := (gName 2)) rfl nd (pi_list (pv 1)) (blkOk_by (own := [("one", 2)]) (N := N_are_figures) (sc := defScope s_are_figures) (by decide +kernel)) (fun _ _ _ _ _ => pg_name (i := 2) nd rfl (Or.inl rfl)) (fun _ _ _ _ _ => pts_one (pt_not (pt_val (pe_call (ok_is_figure T) (hr.mono (by decide)) (by rfl) T.f_is_figure.g T.f_is_figure.F.kp T.f_is_figure.b .nil pass0 (pa_cons (pv 0) (pa_cons (pv 2) pa_nil)))))) (fun _ _ _ _ _ => (pv 2))) (pe_lst pa_nil) (nomark _)))))), ?_⟩
  rw [are_figures] at hm
  with_reducible refine x_ret ?_
  with_reducible refine x_andV ?_
  with_reducible refine x_cb ?_
  with_reducible refine x_cons ?_
  refine ⟨_, rfl, ?_⟩
  refine ⟨_, _, _, _, true, rfl, ClsV.ty _, TyX.base (TyOf.lst (G0.sub _ _ fa1)), kit_ty (by decide +kernel), ?_⟩
  refine ⟨_, rfl, ?_⟩
  refine iteT ?_
  with_reducible refine x_op ?_
  with_reducible refine x_lc ?_
  with_reducible refine x_iter ?_
  refine ⟨_, rfl, ?_⟩
  refine ⟨_, rfl, ⟨_, .inl (.inl (G0.sub _ _ fa1))⟩, fun p1 np1 => ?_⟩
  have g1 := Gr.newO (o := .lst []) G0.sub np1
  have o1 := Ow.new (us := []) G0 np1
  have G1 := G0.step g1
  refine lc_lst (α := Int) (fun (ts1 : List Int) H1 => ∃ (F1 : Hp) (x2 : List Int) (us3 : List V), forK (are_figures_c1 base) ts1 x2 (are_figures_k2) = some r ∧ Sub (F0) F1 ∧ Gr NA F0 H F1 H1 ∧ Ow H F1 H1 p1 us3 ∧ Rs F1 us3 x2) (Rs_mono (Sub.refl _) fr1) ⟨F0, ([] : List Int), _, hm, (Sub.refl _), G1, o1, Rs_nil⟩ (fun _ _ h => ?_) (fun t1 ts2 v1 H1 hv1 hW => ?_) (fun H1 hW => ?_)
  · obtain ⟨F9, _, _, _, s9, G9, _⟩ := h
    exact G9.sub _ _ (s9 _ _ ((Sub.refl _) _ _ fa1))
  · skip
    obtain ⟨F1, x2, us3, hm, s1, G2, o2, fr2⟩ := hW
    obtain ⟨next1, hnx1⟩ : ∃ nx, nx = fun s => forK (are_figures_c1 base) ts2 s (are_figures_k2) := ⟨_, rfl⟩
    have hm : (are_figures_c1 base) x2 t1 next1 = some r := by rw [hnx1]; exact forK_c hm
    rw [are_figures_c1] at hm
    obtain rfl := int_of hv1
    with_reducible refine x_gn ?_
    refine ⟨rfl, ?_⟩
    with_reducible refine x_not ?_
    with_reducible refine x_B ?_
    with_reducible refine x_call ?_
    with_reducible refine x_cons ?_
    refine ⟨_, rfl, ?_⟩
    with_reducible refine x_cons ?_
    refine ⟨_, rfl, ?_⟩
    obtain ⟨r1, hr1, hm⟩ := bindp hm
    refine ⟨_, _, _, base, t1, r1, rfl, G2.sub, (.int _), (.int _), hr1, fun N1 H2 v2 g2 d1  => ?_⟩
    have G3 := G2.step g2
    have o3 := o2.step g2
    obtain rfl := bl_of d1
    refine ⟨_, rfl, ?_⟩
    refine ifD (fun hc => ?_) (fun hc => ?_)
    · replace hm := itep hm hc
      refine ⟨_, rfl, ?_⟩
      obtain ⟨c1, hm⟩ := guardp hm
      have G4 := o3.mutG (o := .lst (us3 ++ [(.int t1)])) G3
      have o4 := o3.mut (ws := us3 ++ [(.int t1)])
      have fr3 : Rs (α := Int) (N1) (us3 ++ [(.int t1)]) (x2 ++ [t1]) := Rs_snoc (Rs_mono g2.ex fr2) (.int _)
      rw [hnx1] at hm
      exact ⟨_, o3.at_, szl (by rw [Rs_len (Rs_mono g2.ex fr2)]; exact c1), ⟨N1, (x2 ++ [t1]), _, hm, (s1.trans g2.ex), G4, o4, fr3⟩⟩
    · replace hm := iten hm (bF hc)
      rw [hnx1] at hm
      exact ⟨N1, x2, _, hm, (s1.trans g2.ex), G3, o3, (Rs_mono g2.ex fr2)⟩
  · skip
    obtain ⟨F1, x2, us3, hm, s2, G5, o5, fr4⟩ := hW
    have hm : (are_figures_k2) x2 = some r := forK_n hm
    rw [are_figures_k2] at hm
    with_reducible refine x_lst ?_
    refine ⟨szle (show 0 ≤ 16777216 from by decide), fun p2 np2 => ?_⟩
    have fr5 : Rs (α := Int) (F1) [] ([] : (List Int)) := Rs_nil
    have g3 := Gr.newO (o := .lst []) G5.sub np2
    have o6 := Ow.new (us := []) G5 np2
    have ne1 := o5.ne_new np2
    have G6 := G5.step g3
    have o7 := o5.step g3
    refine ⟨_, x2, ([] : (List Int)), Sub.refl _, (mk_lst o7.at_ (Rs_mono G6.sub fr4)), (mk_lst o6.at_ (Rs_mono G6.sub fr5)), ?_⟩
    obtain rfl : _ = r := Option.some.inj hm
    exact q _ _ _ G6 (.bl _)


def is_base (thing : Int) : Option Bool :=
  ((is_whole thing).bind fun r1 => (if r1 = true then (if (decide ((2 : Int) ≤ thing)) = true then (some (decide (thing ≤ (16 : Int)))) else (some false)) else (some false)))
abbrev N_is_base : List Str := ["thing"]
theorem sc_is_base : FnScope N_is_base ["thing"] (defScope s_is_base) := ⟨rfl, rfl, rfl, by decide +kernel, rfl, by decide +kernel, by decide +kernel⟩
def sp_is_base : Sp := fun vs H Q _ => ∃ (F : Hp) (v_thing : V) (thing : Int) (r : Bool), vs = [v_thing] ∧ Sub F H ∧ R F v_thing thing ∧ is_base thing = some r ∧ ∀ N H2 v, Gr NA F H N H2 → R N v r → Q v H2
theorem ok_is_base {P : Program} {w : World} {K : PySem.W.Frag} {mg : Str → Option Value} {base : Heap} (T : Txt K mg) : FnOk P w K mg base CX0 2 T.f_is_base.f T.f_is_base.fd ["thing"] sp_is_base := by
  have nd := (sc_is_base).nd
  refine T.f_is_base.F.ok sc_is_base (fun vs H Q E h => ?_) (fun cdv A0 outer s H vs Q E hr h => ?_)
  · obtain ⟨_, _, _, _, rfl, _⟩ := h
    rfl
  obtain ⟨F0, v_thing, thing, r, rfl, s0, f_thing, hm, q⟩ := h
  have G0 : Gr NA F0 H F0 H := Gr.refl s0
  obtain rfl := int_of f_thing
  refine ⟨_, (pss_one (ps_ret (pe_and (pe_call (ok_is_whole T) (hr.mono (by decide)) (by rfl) T.f_is_whole.g T.f_is_whole.F.kp T.f_is_whole.b .nil pass0 (pa_cons (pv 0) pa_nil)) (pe_one (pe_chain op_le op_le (pe_glob (v := .int 2) rfl T.c_LEAST_BASE.g ⟨_, rfl⟩) (pv 0) (pe_glob (v := .int 16) rfl T.c_MOST_BASE.g ⟨_, rfl⟩)))))), ?_⟩
  rw [is_base] at hm
  with_reducible refine x_ret ?_
  with_reducible refine x_andV ?_
  with_reducible refine x_call ?_
  with_reducible refine x_cons ?_
  refine ⟨_, rfl, ?_⟩
  obtain ⟨r1, hr1, hm⟩ := bindp hm
  refine ⟨_, _, thing, r1, rfl, G0.sub, (.int _), hr1, fun N1 H1 v1 g1 d1  => ?_⟩
  have G1 := G0.step g1
  obtain rfl := bl_of d1
  refine ⟨_, rfl, ?_⟩
  refine ifD (fun hc => ?_) (fun hc => ?_)
  · replace hm := itep hm hc
    with_reducible refine x_chain ?_
    with_reducible refine x_c ?_
    refine ⟨_, rfl, ?_⟩
    refine ⟨_, _, rfl, rfl, _, rfl, ?_⟩
    refine ifD (fun hc => ?_) (fun hc => ?_)
    · replace hm := itep hm hc
      with_reducible refine x_c ?_
      refine ⟨_, _, rfl, rfl, ?_⟩
      obtain rfl : _ = r := Option.some.inj hm
      exact q _ _ _ G1 (.bl _)
    · replace hm := iten hm (bF hc)
      obtain rfl : _ = r := Option.some.inj hm
      exact q _ _ _ G1 (.bl _)
  · replace hm := iten hm (bF hc)
    obtain rfl : _ = r := Option.some.inj hm
    exact q _ _ _ G1 (.bl _)


def need_base (thing : Int) : Option Unit :=
  ((is_base thing).bind fun r1 => (if (!r1) = true then none else (some ())))
abbrev N_need_base : List Str := ["thing"]
theorem sc_need_base : FnScope N_need_base ["thing"] (defScope s_need_base) := ⟨rfl, rfl, rfl, by decide +kernel, rfl, by decide +kernel, by decide +kernel⟩
def sp_need_base : Sp := fun vs H Q _ => ∃ (F : Hp) (v_thing : V) (thing : Int) (r : Unit), vs = [v_thing] ∧ Sub F H ∧ R F v_thing thing ∧ need_base thing = some r ∧ ∀ N H2 v, Gr NA F H N H2 → R N v r → Q v H2
theorem ok_need_base {P : Program} {w : World} {K : PySem.W.Frag} {mg : Str → Option Value} {base : Heap} (T : Txt K mg) : FnOk P w K mg base CX0 3 T.f_need_base.f T.f_need_base.fd ["thing"] sp_need_base := by
  have nd := (sc_need_base).nd
  refine T.f_need_base.F.ok sc_need_base (fun vs H Q E h => ?_) (fun cdv A0 outer s H vs Q E hr h => ?_)
  · obtain ⟨_, _, _, _, rfl, _⟩ := h
    rfl
  obtain ⟨F0, v_thing, thing, r, rfl, s0, f_thing, hm, q⟩ := h
  have G0 : Gr NA F0 H F0 H := Gr.refl s0
  obtain rfl := int_of f_thing
  refine ⟨_, (pss_one (ps_if (pt_not (pt_val (pe_call (ok_is_base T) (hr.mono (by decide)) (by rfl) T.f_is_base.g T.f_is_base.F.kp T.f_is_base.b .nil pass0 (pa_cons (pv 0) pa_nil)))) (pss_one ps_never) pss_nil)), ?_⟩
  rw [need_base] at hm
  with_reducible refine x_if ?_
  with_reducible refine x_not ?_
  with_reducible refine x_B ?_
  with_reducible refine x_call ?_
  with_reducible refine x_cons ?_
  refine ⟨_, rfl, ?_⟩
  obtain ⟨r1, hr1, hm⟩ := bindp hm
  refine ⟨_, _, thing, r1, rfl, G0.sub, (.int _), hr1, fun N1 H1 v1 g1 d1  => ?_⟩
  have G1 := G0.step g1
  obtain rfl := bl_of d1
  refine ⟨_, rfl, ?_⟩
  refine ifD (fun hc => ?_) (fun hc => ?_)
  · replace hm := itep hm hc
    exact no_none hm
  · replace hm := iten hm (bF hc)
    with_reducible refine x_next ?_
    obtain rfl : _ = r := Option.some.inj hm
    exact q _ _ _ G1 .non

def worth_b1 (base : Int) : Int → Int → (Int → Option Int) → Option Int
  | x1, t1, next1 => (if Mv x1 base then (next1 ((x1 * base) + t1)) else none)
def worth_e2 : Int → Option Int
  | x1 => (some x1)
def worth (base : Int) (figures : (List Int)) : Option Int :=
  (forK (worth_b1 base) (figures) (0 : Int) (worth_e2))
abbrev N_worth : List Str := ["base", "figures", "found", "figure"]
theorem sc_worth : FnScope N_worth ["base", "figures"] (defScope s_worth) := ⟨rfl, rfl, rfl, by decide +kernel, rfl, by decide +kernel, by decide +kernel⟩
def sp_worth : Sp := fun vs H Q _ => ∃ (F : Hp) (v_base : V) (v_figures : V) (base : Int) (figures : (List Int)) (r : Int), vs = [v_base, v_figures] ∧ Sub F H ∧ R F v_base base ∧ R F v_figures figures ∧ worth base figures = some r ∧ ∀ N H2 v, Gr NA F H N H2 → R N v r → Q v H2
theorem ok_worth {P : Program} {w : World} {K : PySem.W.Frag} {mg : Str → Option Value} {base : Heap} (T : Txt K mg) : FnOk P w K mg base CX0 1 T.f_worth.f T.f_worth.fd ["base", "figures"] sp_worth := by
  have nd := (sc_worth).nd
  refine T.f_worth.F.ok sc_worth (fun vs H Q E h => ?_) (fun cdv A0 outer s H vs Q E hr h => ?_)
  · obtain ⟨_, _, _, _, _, _, rfl, _⟩ := h
    rfl
  obtain ⟨F0, v_base, v_figures, base, figures, r, rfl, s0, f_base, f_figures, hm, q⟩ := h
  have G0 : Gr NA F0 H F0 H := Gr.refl s0
  obtain rfl := int_of f_base
  obtain ⟨a1, us1, rfl, fa1, fr1⟩ := lst_of f_figures
  refine ⟨_, (pss_cons (ps_set (i := 2) nd rfl (by first | exact Or.inl rfl | exact Or.inr rfl) pe_int) (pss_cons (ps_for PassesOwn.never rfl (pi_list (pv 1)) (pg_name (i := 3) nd rfl (by first | exact Or.inl rfl | exact Or.inr rfl)) (pss_one (ps_set (i := 2) nd rfl (by first | exact Or.inl rfl | exact Or.inr rfl) (pe_op op_add (pe_op op_mulW (pv 2) (pv 0)) (pv 3))))) (pss_one (ps_ret (pv 2))))), ?_⟩
  rw [worth] at hm
  with_reducible refine x_seq ?_
  with_reducible refine x_asg ?_
  with_reducible refine x_c ?_
  with_reducible refine x_gn ?_
  with_reducible refine x_seq ?_
  with_reducible refine x_for ?_
  with_reducible refine x_iter ?_
  refine ⟨_, rfl, ?_⟩
  refine ⟨_, rfl, ⟨_, .inl (.inl (G0.sub _ _ fa1))⟩, ?_⟩
  refine for_lst (α := Int) (fun (ts1 : List Int) σ H1 => ∃ (F1 : Hp) (x1 : Int) (y1 : Option V), forK (worth_b1 base) ts1 x1 (worth_e2) = some r ∧ Sub (F0) F1 ∧ Gr NA F0 H F1 H1 ∧ σ = [some (.int base), some (.ref a1), some (.int x1), y1]) (Rs_mono (Sub.refl _) fr1) ⟨F0, (0 : Int), _, hm, (Sub.refl _), G0, rfl⟩ (fun _ _ _ h => ?_) (fun t1 ts2 v1 σ H1 hv1 hW => ?_) (fun σ H1 hW => ?_)
  · obtain ⟨F1, x1, y1, _, s9, G9, _⟩ := h
    exact G9.sub _ _ (s9 _ _ ((Sub.refl _) _ _ fa1))
  · skip
    obtain ⟨F1, x1, y1, hm, s1, G1, rfl⟩ := hW
    obtain ⟨next1, hnx1⟩ : ∃ nx, nx = fun s => forK (worth_b1 base) ts2 s (worth_e2) := ⟨_, rfl⟩
    have hm : (worth_b1 base) x1 t1 next1 = some r := by rw [hnx1]; exact forK_c hm
    rw [worth_b1] at hm
    obtain rfl := int_of hv1
    with_reducible refine x_gn ?_
    with_reducible refine x_asg ?_
    with_reducible refine x_op ?_
    with_reducible refine x_op ?_
    refine ⟨_, rfl, ?_⟩
    refine ⟨_, rfl, ?_⟩
    obtain ⟨c1, hm⟩ := guardp hm
    refine ⟨_, _, rfl, rfl, c1.w, ?_⟩
    refine ⟨_, rfl, ?_⟩
    refine ⟨_, _, rfl, rfl, ?_⟩
    with_reducible refine x_gn ?_
    rw [hnx1] at hm
    exact ⟨F1, ((x1 * base) + t1), _, hm, s1, G1, rfl⟩
  · skip
    obtain ⟨F1, x1, y1, hm, s2, G2, rfl⟩ := hW
    have hm : (worth_e2) x1 = some r := forK_n hm
    rw [worth_e2] at hm
    with_reducible refine x_ret ?_
    refine ⟨_, rfl, ?_⟩
    obtain rfl : _ = r := Option.some.inj hm
    exact q _ _ _ G2 (.int _)


def number_by (base : Int) (figures : (List Int)) : Option Int :=
  ((need_base base).bind fun r1 => ((are_figures base figures).bind fun r2 => (if (!r2) = true then none else (if (eqT figures []) = true then none else (if (decide ((1 : Int) < (figures.length : Int))) = true then ((atI figures (0 : Int)).bind fun x1 => (if (decide (x1 = (0 : Int))) = true then none else ((worth base figures).bind fun r3 => (some r3)))) else ((worth base figures).bind fun r4 => (some r4)))))))
abbrev N_number_by : List Str := ["base", "figures"]
theorem sc_number_by : FnScope N_number_by ["base", "figures"] (defScope s_number_by) := ⟨rfl, rfl, rfl, by decide +kernel, rfl, by decide +kernel, by decide +kernel⟩
def sp_number_by : Sp := fun vs H Q _ => ∃ (F : Hp) (v_base : V) (v_figures : V) (base : Int) (figures : (List Int)) (r : Int), vs = [v_base, v_figures] ∧ Sub F H ∧ R F v_base base ∧ R F v_figures figures ∧ number_by base figures = some r ∧ ∀ N H2 v, Gr NA F H N H2 → R N v r → Q v H2
theorem ok_number_by {P : Program} {w : World} {K : PySem.W.Frag} {mg : Str → Option Value} {base : Heap} (T : Txt K mg) : FnOk P w K mg base CX0 4 T.f_number_by.f T.f_number_by.fd ["base", "figures"] sp_number_by := by
  have nd := (sc_number_by).nd
  refine T.f_number_by.F.ok sc_number_by (fun vs H Q E h => ?_) (fun cdv A0 outer s H vs Q E hr h => ?_)
  · obtain ⟨_, _, _, _, _, _, rfl, _⟩ := h
    rfl
  obtain ⟨F0, v_base, v_figures, base, figures, r, rfl, s0, f_base, f_figures, hm, q⟩ := h
  have G0 : Gr NA F0 H F0 H := Gr.refl s0
  obtain rfl := int_of f_base
  obtain ⟨a1, us1, rfl, fa1, fr1⟩ := lst_of f_figures
  refine ⟨_, (pss_cons (ps_expr (pe_call (ok_need_base T) (hr.mono (by decide)) (by rfl) T.f_need_base.g T.f_need_base.F.kp T.f_need_base.b .nil pass0 (pa_cons (pv 0) pa_nil))) (pss_cons (ps_if (PW.pt (pw_or (pt_not (pt_val (pe_call (ok_are_figures T) (hr.mono (by decide)) (by rfl) T.f_are_figures.g T.f_are_figures.F.kp T.f_are_figures.b .nil pass0 (pa_cons (pv 0) (pa_cons (pv 1) pa_nil))))) (pw_or (pt_cmpR (op_eqT (α := (List Int)) (by decide) (hu64 hr)) (pv 1) (pe_lst pa_nil) (nomark _)) (pw_or1 (PW.pt (pw_and (pt_cmp (pc_gt (pe_callB (r := rLenT K) call_lenT (by rfl) T.z_len PySem.boot_len (pa_cons (pv 1) pa_nil)) pe_int)) (pw_and1 (pt_cmp (pc_eqI (pe_ix (r := rIxL K) ix_list (pv 1) pe_int (fun _ _ => rfl)) pe_int))))))))) (pss_one ps_never) pss_nil) (pss_one (ps_ret (pe_call (ok_worth T) (hr.mono (by decide)) (by rfl) T.f_worth.g T.f_worth.F.kp T.f_worth.b .nil pass0 (pa_cons (pv 0) (pa_cons (pv 1) pa_nil))))))), ?_⟩
  rw [number_by] at hm
  with_reducible refine x_seq ?_
  with_reducible refine x_drop ?_
  with_reducible refine x_call ?_
  with_reducible refine x_cons ?_
  refine ⟨_, rfl, ?_⟩
  obtain ⟨r1, hr1, hm⟩ := bindp hm
  refine ⟨_, _, base, r1, rfl, G0.sub, (.int _), hr1, fun N1 H1 v1 g1 d1  => ?_⟩
  have G1 := G0.step g1
  obtain rfl := non_of d1
  with_reducible refine x_seq ?_
  with_reducible refine x_if ?_
  with_reducible refine x_or ?_
  with_reducible refine x_not ?_
  with_reducible refine x_B ?_
  with_reducible refine x_call ?_
  with_reducible refine x_cons ?_
  refine ⟨_, rfl, ?_⟩
  with_reducible refine x_cons ?_
  refine ⟨_, rfl, ?_⟩
  obtain ⟨r2, hr2, hm⟩ := bindp hm
  refine ⟨_, _, _, base, figures, r2, rfl, G1.sub, (.int _), (mk_lst (g1.ex _ _ fa1) (Rs_mono g1.ex fr1)), hr2, fun N2 H2 v2 g2 d2  => ?_⟩
  have G2 := G1.step g2
  obtain rfl := bl_of d2
  refine ⟨_, rfl, ?_⟩
  refine ifD (fun hc => ?_) (fun hc => ?_)
  · replace hm := itep hm hc
    refine iteT ?_
    exact no_none hm
  · replace hm := iten hm (bF hc)
    with_reducible refine x_or ?_
    with_reducible refine x_test ?_
    refine useEv (.bl (eqT figures [])) (by exact (ev_eqNil (α := Int) (Evl.ev_var rfl) (RD.mono G2.sub (mk_lst ((g1.ex.trans g2.ex) _ _ fa1) (Rs_mono (g1.ex.trans g2.ex) fr1))))) (fun H3 e1 => ?_)
    have g3 := gr_ex G2.sub e1
    have G3 := G2.step g3
    refine ⟨_, rfl, ?_⟩
    refine ifD (fun hc => ?_) (fun hc => ?_)
    · replace hm := itep hm hc
      refine iteT ?_
      exact no_none hm
    · replace hm := iten hm (bF hc)
      with_reducible refine x_and ?_
      with_reducible refine x_B ?_
      refine useEv (.bl (decide ((1 : Int) < (figures.length : Int)))) (by exact (ev_cmp (ev_lenT (Evl.ev_var rfl) (((g1.ex.trans g2.ex).trans G3.sub) _ _ fa1) (Rs_mono (g1.ex.trans g2.ex) fr1)) Evl.ev_c)) (fun H4 e2 => ?_)
      have g4 := gr_ex G3.sub e2
      have G4 := G3.step g4
      refine ⟨_, rfl, ?_⟩
      refine ifD (fun hc => ?_) (fun hc => ?_)
      · replace hm := itep hm hc
        with_reducible refine x_B ?_
        with_reducible refine x_cmp ?_
        with_reducible refine x_op ?_
        refine ⟨_, rfl, ?_⟩
        with_reducible refine x_c ?_
        obtain ⟨x1, hx1, hm⟩ := bindp hm
        obtain ⟨v3, hu1, d3⟩ := Rs_at (Rs_mono (g1.ex.trans g2.ex) fr1) hx1
        refine ⟨_, _, _, _, rfl, rfl, .inl (.inl (((g1.ex.trans g2.ex).trans G4.sub) _ _ fa1)), hu1, ?_⟩
        obtain rfl := int_of d3
        with_reducible refine x_c ?_
        refine ⟨_, _, rfl, rfl, ?_⟩
        refine ⟨_, rfl, ?_⟩
        refine ifD (fun hc => ?_) (fun hc => ?_)
        · replace hm := itep hm hc
          exact no_none hm
        · replace hm := iten hm (bF hc)
          with_reducible refine x_next ?_
          with_reducible refine x_ret ?_
          with_reducible refine x_call ?_
          with_reducible refine x_cons ?_
          refine ⟨_, rfl, ?_⟩
          with_reducible refine x_cons ?_
          refine ⟨_, rfl, ?_⟩
          obtain ⟨r3, hr3, hm⟩ := bindp hm
          refine ⟨_, _, _, base, figures, r3, rfl, G4.sub, (.int _), (mk_lst ((g1.ex.trans g2.ex) _ _ fa1) (Rs_mono (g1.ex.trans g2.ex) fr1)), hr3, fun N3 H5 v4 g5 d4  => ?_⟩
          have G5 := G4.step g5
          obtain rfl := int_of d4
          obtain rfl : _ = r := Option.some.inj hm
          exact q _ _ _ G5 (.int _)
      · replace hm := iten hm (bF hc)
        refine iteF ?_
        with_reducible refine x_next ?_
        with_reducible refine x_ret ?_
        with_reducible refine x_call ?_
        with_reducible refine x_cons ?_
        refine ⟨_, rfl, ?_⟩
        with_reducible refine x_cons ?_
        refine ⟨_, rfl, ?_⟩
        obtain ⟨r4, hr4, hm⟩ := bindp hm
        refine ⟨_, _, _, base, figures, r4, rfl, G4.sub, (.int _), (mk_lst ((g1.ex.trans g2.ex) _ _ fa1) (Rs_mono (g1.ex.trans g2.ex) fr1)), hr4, fun N4 H6 v5 g6 d5  => ?_⟩
        have G6 := G4.step g6
        obtain rfl := int_of d5
        obtain rfl : _ = r := Option.some.inj hm
        exact q _ _ _ G6 (.int _)

def _law_right_b1 (base : Int) : (Int × Int) → Int → ((Int × Int) → Option Bool) → Option Bool
  | (x1, x2), t1, next1 => (if Mv x2 t1 then (if Mv x2 base then (next1 ((x1 + (x2 * t1)), (x2 * base))) else none) else none)
def _law_right_b3 (base : Int) (handed : (List Int)) (x1 : Int) : Unit → Int → (Unit → Option Bool) → Option Bool
  | _, t2, next2 => ((number_by base handed).bind fun r1 => (if (!decide (r1 = x1)) = true then (some false) else (if (!(eqT handed handed)) = true then (some false) else (next2 ()))))
def _law_right_e4 : Unit → Option Bool
  | _ => (some true)
def _law_right_e2 (base : Int) (handed : (List Int)) : (Int × Int) → Option Bool
  | (x1, x2) => (forK (_law_right_b3 base handed x1) (irange 0 (2 : Int)) () (_law_right_e4))
def _law_right (base : Int) (handed : (List Int)) : Option Bool :=
  (forK (_law_right_b1 base) (((handed).reverse)) ((0 : Int), (1 : Int)) (_law_right_e2 base handed))
abbrev N__law_right : List Str := ["base", "handed", "figures", "due", "whole", "figure", "turn", "found"]
theorem sc__law_right : FnScope N__law_right ["base", "handed"] (defScope s__law_right) := ⟨rfl, rfl, rfl, by decide +kernel, rfl, by decide +kernel, by decide +kernel⟩
def sp__law_right : Sp := fun vs H Q _ => ∃ (F : Hp) (v_base : V) (v_handed : V) (base : Int) (handed : (List Int)) (r : Bool), vs = [v_base, v_handed] ∧ Sub F H ∧ R F v_base base ∧ R F v_handed handed ∧ _law_right base handed = some r ∧ ∀ N H2 v, Gr NA F H N H2 → R N v r → Q v H2
theorem ok__law_right {P : Program} {w : World} {K : PySem.W.Frag} {mg : Str → Option Value} {base : Heap} (T : Txt K mg) : FnOk P w K mg base CX0 5 T.f__law_right.f T.f__law_right.fd ["base", "handed"] sp__law_right := by
  have nd := (sc__law_right).nd
  refine T.f__law_right.F.ok sc__law_right (fun vs H Q E h => ?_) (fun cdv A0 outer s H vs Q E hr h => ?_)
  · obtain ⟨_, _, _, _, _, _, rfl, _⟩ := h
    rfl
  obtain ⟨F0, v_base, v_handed, base, handed, r, rfl, s0, f_base, f_handed, hm, q⟩ := h
  have G0 : Gr NA F0 H F0 H := Gr.refl s0
  obtain rfl := int_of f_base
  obtain ⟨a1, us1, rfl, fa1, fr1⟩ := lst_of f_handed
  refine ⟨_, (pss_cons (ps_set (i := 2) nd rfl (by first | exact Or.inl rfl | exact Or.inr rfl) (pe_callTy (r := rListT K) call_listT (by rfl) T.z_list (by decide +kernel) (pa_cons (pv 1) pa_nil))) (pss_cons (ps_set (i := 3) nd rfl (by first | exact Or.inl rfl | exact Or.inr rfl) pe_int) (pss_cons (ps_set (i := 4) nd rfl (by first | exact Or.inl rfl | exact Or.inr rfl) pe_int) (pss_cons (ps_for PassesOwn.never rfl (pi_list (pe_revL (pv 2))) (pg_name (i := 5) nd rfl (by first | exact Or.inl rfl | exact Or.inr rfl)) (pss_cons (ps_set (i := 3) nd rfl (by first | exact Or.inl rfl | exact Or.inr rfl) (pe_op op_add (pv 3) (pe_op op_mulW (pv 4) (pv 5)))) (pss_one (ps_set (i := 4) nd rfl (by first | exact Or.inl rfl | exact Or.inr rfl) (pe_op op_mulW (pv 4) (pv 0)))))) (pss_cons (ps_for PassesOwn.never rfl (pi_range1 (by rfl) T.z_range (pa_cons pe_int pa_nil)) (pg_name (i := 6) nd rfl (by first | exact Or.inl rfl | exact Or.inr rfl)) (pss_cons (ps_set (i := 7) nd rfl (by first | exact Or.inl rfl | exact Or.inr rfl) (pe_call (ok_number_by T) (hr.mono (by decide)) (by rfl) T.f_number_by.g T.f_number_by.F.kp T.f_number_by.b .nil pass0 (pa_cons (pv 0) (pa_cons (pv 1) pa_nil)))) (pss_one (ps_if (PW.pt (pw_or (pt_not (pt_val (pe_callB (r := rIsi K) call_isi (by rfl) T.z_isinstance (by decide +kernel) (pa_cons (pv 7) (pa_cons (pe_bltn (v := .ty "int") (by rfl) T.z_int (by decide +kernel) rfl) pa_nil))))) (pw_or (pt_val (pe_callB (r := rIsi K) call_isi (by rfl) T.z_isinstance (by decide +kernel) (pa_cons (pv 7) (pa_cons (pe_bltn (v := .ty "bool") (by rfl) T.z_bool (by decide +kernel) rfl) pa_nil)))) (pw_or (pt_cmp (pc_neI (pv 7) (pv 3))) (pw_or1 (pt_cmpR (op_neT (α := (List Int)) (by decide) (hu64 hr)) (pv 1) (pv 2) (nomark _))))))) (pss_one (ps_ret pe_bl)) pss_nil)))) (pss_one (ps_ret pe_bl))))))), ?_⟩
  rw [_law_right] at hm
  with_reducible refine x_seq ?_
  with_reducible refine x_asg ?_
  with_reducible refine x_cb ?_
  with_reducible refine x_cons ?_
  refine ⟨_, rfl, ?_⟩
  refine ⟨_, _, rfl, .inl (.inl (.inl (G0.sub _ _ fa1))), fun p1 np1 => ?_⟩
  have g1 := Gr.newO (o := .lst us1) G0.sub np1
  have o1 := Ow.new (us := us1) G0 np1
  have G1 := G0.step g1
  with_reducible refine x_gn ?_
  with_reducible refine x_seq ?_
  with_reducible refine x_asg ?_
  with_reducible refine x_c ?_
  with_reducible refine x_gn ?_
  with_reducible refine x_seq ?_
  with_reducible refine x_asg ?_
  with_reducible refine x_c ?_
  with_reducible refine x_gn ?_
  with_reducible refine x_seq ?_
  with_reducible refine x_for ?_
  with_reducible refine x_iter ?_
  with_reducible refine x_revL ?_
  refine ⟨_, rfl, ?_⟩
  refine ⟨_, _, rfl, .inl (.inl o1.at_), fun p2 np2 => ?_⟩
  have fr2 : Rs (α := Int) (F0) (us1).reverse ((handed).reverse) := Rs_rev (Rs_mono (Sub.refl _) fr1)
  have g2 := Gr.newO (o := .lst (us1).reverse) G1.sub np2
  have o2 := Ow.new (us := (us1).reverse) G1 np2
  have ne1 := o1.ne_new np2
  have G2 := G1.step g2
  have o3 := o1.step g2
  have G3 := o2.frz G2
  have ex1 := o2.ex
  have o4 := o3.frzo (Ne.symm (Ne.symm ne1)) o2
  have fa2 : (upd (F0) p2 (.lst (us1).reverse)) p2 = some (.lst (us1).reverse) := upd_same
  have fr3 := Rs_mono ex1 fr2
  have G4 := o4.frz G3
  have ex2 := o4.ex
  have fa3 : (upd (upd (F0) p2 (.lst (us1).reverse)) p1 (.lst us1)) p1 = some (.lst us1) := upd_same
  have fr4 := Rs_mono ex2 (Rs_mono ex1 (Rs_mono (Sub.refl _) fr1))
  refine ⟨_, rfl, ⟨_, .inl (.inl ((ex2.trans G4.sub) _ _ fa2))⟩, ?_⟩
  refine for_lst (α := Int) (fun (ts1 : List Int) σ H1 => ∃ (F1 : Hp) (x1 : Int) (x2 : Int) (y1 : Option V), forK (_law_right_b1 base) ts1 (x1, x2) (_law_right_e2 base handed) = some r ∧ Sub (upd (upd (F0) p2 (.lst (us1).reverse)) p1 (.lst us1)) F1 ∧ Gr NA F0 H F1 H1 ∧ σ = [some (.int base), some (.ref a1), some (.ref p1), some (.int x1), some (.int x2), y1, none, none]) (Rs_mono ex2 fr3) ⟨_, (0 : Int), (1 : Int), _, hm, (Sub.refl _), G4, rfl⟩ (fun _ _ _ h => ?_) (fun t1 ts2 v1 σ H1 hv1 hW => ?_) (fun σ H1 hW => ?_)
  · obtain ⟨F1, x1, x2, y1, _, s9, G9, _⟩ := h
    exact G9.sub _ _ (s9 _ _ (ex2 _ _ fa2))
  · skip
    obtain ⟨F1, x1, x2, y1, hm, s1, G5, rfl⟩ := hW
    obtain ⟨next1, hnx1⟩ : ∃ nx, nx = fun s => forK (_law_right_b1 base) ts2 s (_law_right_e2 base handed) := ⟨_, rfl⟩
    have hm : (_law_right_b1 base) (x1, x2) t1 next1 = some r := by rw [hnx1]; exact forK_c hm
    rw [_law_right_b1] at hm
    obtain rfl := int_of hv1
    with_reducible refine x_gn ?_
    with_reducible refine x_seq ?_
    with_reducible refine x_asg ?_
    with_reducible refine x_op ?_
    refine ⟨_, rfl, ?_⟩
    with_reducible refine x_op ?_
    refine ⟨_, rfl, ?_⟩
    refine ⟨_, rfl, ?_⟩
    obtain ⟨c1, hm⟩ := guardp hm
    refine ⟨_, _, rfl, rfl, c1.w, ?_⟩
    refine ⟨_, _, rfl, rfl, ?_⟩
    with_reducible refine x_gn ?_
    with_reducible refine x_asg ?_
    with_reducible refine x_op ?_
    refine ⟨_, rfl, ?_⟩
    refine ⟨_, rfl, ?_⟩
    obtain ⟨c2, hm⟩ := guardp hm
    refine ⟨_, _, rfl, rfl, c2.w, ?_⟩
    with_reducible refine x_gn ?_
    rw [hnx1] at hm
    exact ⟨F1, (x1 + (x2 * t1)), (x2 * base), _, hm, s1, G5, rfl⟩
  · skip
    obtain ⟨F1, x1, x2, y1, hm, s2, G6, rfl⟩ := hW
    have hm : (_law_right_e2 base handed) (x1, x2) = some r := forK_n hm
    rw [_law_right_e2] at hm
    with_reducible refine x_seq ?_
    with_reducible refine x_for ?_
    with_reducible refine x_rng1 ?_
    with_reducible refine x_cons ?_
    with_reducible refine x_c ?_
    refine ⟨_, rfl, (show Rg1 (2 : Int) from by decide).lo, (show Rg1 (2 : Int) from by decide).hi, ?_⟩
    refine for_rng (lo := 0) (hi := (2 : Int)) (by rw [Int.sub_zero]) (fun (ts3 : List Int) σ H2 => ∃ (F2 : Hp) (y2 : Option V) (y3 : Option V), forK (_law_right_b3 base handed x1) ts3 () (_law_right_e4) = some r ∧ Sub (F1) F2 ∧ Gr NA F0 H F2 H2 ∧ σ = [some (.int base), some (.ref a1), some (.ref p1), some (.int x1), some (.int x2), y1, y3, y2]) ⟨F1, _, _, hm, (Sub.refl _), G6, rfl⟩ (fun t2 ts4 σ H1 hW => ?_) (fun σ H1 hW => ?_)
    · skip
      obtain ⟨F2, y2, y3, hm, s3, G7, rfl⟩ := hW
      obtain ⟨next2, hnx2⟩ : ∃ nx, nx = fun s => forK (_law_right_b3 base handed x1) ts4 s (_law_right_e4) := ⟨_, rfl⟩
      have hm : (_law_right_b3 base handed x1) () t2 next2 = some r := by rw [hnx2]; exact forK_c hm
      rw [_law_right_b3] at hm
      with_reducible refine x_gn ?_
      with_reducible refine x_seq ?_
      with_reducible refine x_asg ?_
      with_reducible refine x_call ?_
      with_reducible refine x_cons ?_
      refine ⟨_, rfl, ?_⟩
      with_reducible refine x_cons ?_
      refine ⟨_, rfl, ?_⟩
      obtain ⟨r1, hr1, hm⟩ := bindp hm
      refine ⟨_, _, _, base, handed, r1, rfl, G7.sub, (.int _), (mk_lst ((((ex1.trans ex2).trans s2).trans s3) _ _ fa1) (Rs_mono (((ex1.trans ex2).trans s2).trans s3) fr1)), hr1, fun N1 H3 v3 g3 d1  => ?_⟩
      have G8 := G7.step g3
      obtain rfl := int_of d1
      with_reducible refine x_gn ?_
      with_reducible refine x_if ?_
      with_reducible refine x_or ?_
      with_reducible refine x_not ?_
      with_reducible refine x_B ?_
      with_reducible refine x_cb ?_
      with_reducible refine x_cons ?_
      refine ⟨_, rfl, ?_⟩
      refine ⟨_, _, _, _, true, rfl, ClsV.ty _, TyX.base (TyOf.int _), kit_ty (by decide +kernel), ?_⟩
      refine ⟨_, rfl, ?_⟩
      refine iteF ?_
      with_reducible refine x_or ?_
      with_reducible refine x_B ?_
      with_reducible refine x_cb ?_
      with_reducible refine x_cons ?_
      refine ⟨_, rfl, ?_⟩
      refine ⟨_, _, _, _, false, rfl, ClsV.ty _, TyX.base (TyOf.int _), kit_ty (by decide +kernel), ?_⟩
      refine ⟨_, rfl, ?_⟩
      refine iteF ?_
      with_reducible refine x_or ?_
      with_reducible refine x_B ?_
      refine useEv (.bl ((!decide (r1 = x1)))) (by exact (ev_cmp (Evl.ev_var rfl) (Evl.ev_var rfl))) (fun H4 e1 => ?_)
      have g4 := gr_ex G8.sub e1
      have G9 := G8.step g4
      refine ⟨_, rfl, ?_⟩
      refine ifD (fun hc => ?_) (fun hc => ?_)
      · replace hm := itep hm hc
        refine iteT ?_
        with_reducible refine x_ret ?_
        with_reducible refine x_c ?_
        obtain rfl : _ = r := Option.some.inj hm
        exact q _ _ _ G9 (.bl _)
      · replace hm := iten hm (bF hc)
        with_reducible refine x_test ?_
        refine useEv (.bl (!(eqT handed handed))) (by exact (ev_neqVar (α := (List Int)) (Evl.ev_var rfl) (Evl.ev_var rfl) (RD.mono G9.sub (mk_lst (((((ex1.trans ex2).trans s2).trans s3).trans g3.ex) _ _ fa1) (Rs_mono ((((ex1.trans ex2).trans s2).trans s3).trans g3.ex) fr1))) (RD.mono G9.sub (mk_lst (((s2.trans s3).trans g3.ex) _ _ fa3) (Rs_mono ((s2.trans s3).trans g3.ex) fr4))))) (fun H5 e2 => ?_)
        have g5 := gr_ex G9.sub e2
        have G10 := G9.step g5
        refine ⟨_, rfl, ?_⟩
        refine ifD (fun hc => ?_) (fun hc => ?_)
        · replace hm := itep hm hc
          with_reducible refine x_ret ?_
          with_reducible refine x_c ?_
          obtain rfl : _ = r := Option.some.inj hm
          exact q _ _ _ G10 (.bl _)
        · replace hm := iten hm (bF hc)
          with_reducible refine x_next ?_
          rw [hnx2] at hm
          exact ⟨N1, _, _, hm, (s3.trans g3.ex), G10, rfl⟩
    · skip
      obtain ⟨F2, y2, y3, hm, s4, G11, rfl⟩ := hW
      have hm : (_law_right_e4) () = some r := forK_n hm
      rw [_law_right_e4] at hm
      with_reducible refine x_ret ?_
      with_reducible refine x_c ?_
      obtain rfl : _ = r := Option.some.inj hm
      exact q _ _ _ G11 (.bl _)

def _law_some_figures_b2 (base : Int) (r3 : Int) : ((List Int) × DkS) → Int → (((List Int) × DkS) → Option ((List Int) × DkS)) → Option ((List Int) × DkS)
  | (x4, st5), t1, next2 => ((_law_draw st5 base).bind fun (r4, st6) => ((_law_draw st6 (if base < (2 : Int) then base else (2 : Int))).bind fun (r5, st7) => ((atI ([r4, r5, (base - (1 : Int)), (0 : Int)] : (List Int)) r3).bind fun x5 => (if x4.length < 16777216 then (next2 ((x4 ++ [x5]), st7)) else none))))
def _law_some_figures_j4 : ((List Int) × DkS) → Option ((List Int) × DkS)
  | (x6, st8) => (some (x6, st8))
def _law_some_figures_e3 (base : Int) : ((List Int) × DkS) → Option ((List Int) × DkS)
  | (x4, st5) => ((atI x4 (0 : Int)).bind fun x7 => (if (decide (x7 = (0 : Int))) = true then ((_law_draw st5 (base - (1 : Int))).bind fun (r6, st9) => ((ixN x4.length (0 : Int)).bind fun j1 => ((_law_some_figures_j4) ((x4.set j1 ((1 : Int) + r6)), st9)))) else ((_law_some_figures_j4) (x4, st5))))
def _law_some_figures_w1 (base : Int) : (Int × Int × DkS) → ((Int × Int × DkS) → Option ((List Int) × DkS)) → Option ((List Int) × DkS)
  | (x1, x2, st1), next1 => (if Mv x2 base then (if (decide ((x2 * base) < ((10 : Int) ^ (26 : Int).toNat))) = true then (if Mv x2 base then (next1 ((x1 + (1 : Int)), (x2 * base), st1)) else none) else ((_law_draw st1 (4 : Int)).bind fun (r1, st2) => ((atI ([(4 : Int), x1, x1, (90 : Int)] : (List Int)) r1).bind fun x3 => ((_law_draw st2 x3).bind fun (r2, st3) => ((_law_draw st3 (4 : Int)).bind fun (r3, st4) => (if Rg1 ((1 : Int) + r2) then (forK (_law_some_figures_b2 base r3) (irange 0 ((1 : Int) + r2)) (([] : (List Int)), st4) (_law_some_figures_e3 base)) else none)))))) else none)
def _law_some_figures (st : DkS) (base : Int) : Option ((List Int) × DkS) :=
  (whileK (_law_some_figures_w1 base) fuel ((1 : Int), base, st))
abbrev N__law_some_figures : List Str := ["deck", "base", "most", "whole", "many", "way", "found", "k"]
theorem sc__law_some_figures : FnScope N__law_some_figures ["deck", "base"] (defScope s__law_some_figures) := ⟨rfl, rfl, rfl, by decide +kernel, rfl, by decide +kernel, by decide +kernel⟩
def sp__law_some_figures : Sp := fun vs H Q _ => ∃ (F : Hp) (A : Addr → Prop) (dk : Addr) (st : DkS) (v_base : V) (base : Int) (r : (List Int)) (stR : DkS), vs = [.ref dk, v_base] ∧ Sub F H ∧ Deck A H dk st ∧ (∀ a, A a → F a = none) ∧ R F v_base base ∧ _law_some_figures st base = some (r, stR) ∧ ∀ N H2 v, Gr A F H N H2 → Deck A H2 dk stR → R N v r → Fz H v → Q v H2
theorem ok__law_some_figures {P : Program} {w : World} {K : PySem.W.Frag} {mg : Str → Option Value} {base : Heap} (T : Txt K mg) : FnOk P w K mg base CX0 2 T.f__law_some_figures.f T.f__law_some_figures.fd ["deck", "base"] sp__law_some_figures := by
  have nd := (sc__law_some_figures).nd
  refine T.f__law_some_figures.F.ok sc__law_some_figures (fun vs H Q E h => ?_) (fun cdv A0 outer s H vs Q E hr h => ?_)
  · obtain ⟨_, _, _, _, _, _, _, _, rfl, _⟩ := h
    rfl
  obtain ⟨F0, A, dk, st, v_base, base, r, stR, rfl, s0, hdk, hnf, f_base, hm, q⟩ := h
  have G0 : Gr A F0 H F0 H := Gr.refl s0
  have dk0 := DkAt.mk0 hdk hnf
  obtain rfl := int_of f_base
  refine ⟨_, (pss_cons (ps_set (i := 2) nd rfl (by first | exact Or.inl rfl | exact Or.inr rfl) pe_int) (pss_cons (ps_set (i := 3) nd rfl (by first | exact Or.inl rfl | exact Or.inr rfl) (pv 1)) (pss_cons (ps_while PassesOwn.never (pt_cmp (pc_lt (pe_op op_mulW (pv 3) (pv 1)) (pe_op op_pow pe_int pe_int))) (pss_cons (ps_set (i := 3) nd rfl (by first | exact Or.inl rfl | exact Or.inr rfl) (pe_op op_mulW (pv 3) (pv 1))) (pss_one (ps_set (i := 2) nd rfl (by first | exact Or.inl rfl | exact Or.inr rfl) (pe_op op_add (pv 2) pe_int))))) (pss_cons (ps_set (i := 4) nd rfl (by first | exact Or.inl rfl | exact Or.inr rfl) (pe_op op_add pe_int (pe_call (ok__law_draw T) (hr.mono (by decide)) (by rfl) T.f__law_draw.g T.f__law_draw.F.kp T.f__law_draw.b .nil pass0 (pa_cons (pv 0) (pa_cons (pe_ix (r := rIxL K) ix_list (pe_lst (pa_cons pe_int (pa_cons (pv 2) (pa_cons (pv 2) (pa_cons pe_int pa_nil))))) (pe_call (ok__law_draw T) (hr.mono (by decide)) (by rfl) T.f__law_draw.g T.f__law_draw.F.kp T.f__law_draw.b .nil pass0 (pa_cons (pv 0) (pa_cons pe_int pa_nil))) (fun _ _ => rfl)) pa_nil))))) (pss_cons (ps_set (i := 5) nd rfl (by first | exact Or.inl rfl | exact Or.inr rfl) (pe_call (ok__law_draw T) (hr.mono (by decide)) (by rfl) T.f__law_draw.g T.f__law_draw.F.kp T.f__law_draw.b .nil pass0 (pa_cons (pv 0) (pa_cons pe_int pa_nil)))) (pss_cons (ps_set (i := 6) nd rfl (by first | exact Or.inl rfl | exact Or.inr rfl) (pe_lst pa_nil)) (pss_cons (ps_for PassesOwn.never rfl (pi_range1 (by rfl) T.z_range (pa_cons (pv 4) pa_nil)) (pg_name (i := 7) nd rfl (by first | exact Or.inl rfl | exact Or.inr rfl)) (pss_one (ps_expr (pe_bm PySem.F.plainAttrs_list PySem.F.slot_list_append PySem.F.type_list_append mt_append (pv 6) (pa_cons (pe_ix (r := rIxL K) ix_list (pe_lst (pa_cons (pe_call (ok__law_draw T) (hr.mono (by decide)) (by rfl) T.f__law_draw.g T.f__law_draw.F.kp T.f__law_draw.b .nil pass0 (pa_cons (pv 0) (pa_cons (pv 1) pa_nil))) (pa_cons (pe_call (ok__law_draw T) (hr.mono (by decide)) (by rfl) T.f__law_draw.g T.f__law_draw.F.kp T.f__law_draw.b .nil pass0 (pa_cons (pv 0) (pa_cons (pe_callB (call_min2 rfl) (by rfl) T.z_min (by decide +kernel) (pa_cons pe_int (pa_cons (pv 1) pa_nil))) pa_nil))) (pa_cons (pe_op op_sub (pv 1) pe_int) (pa_cons pe_int pa_nil))))) (pv 5) (fun _ _ => rfl)) pa_nil))))) (Evl.pss_cut (ps_if (pt_cmp (pc_eqI (pe_ix (r := rIxL K) ix_list (pv 6) pe_int (fun _ _ => rfl)) pe_int)) (pss_one (ps_asg (pe_op op_add pe_int (pe_call (ok__law_draw T) (hr.mono (by decide)) (by rfl) T.f__law_draw.g T.f__law_draw.F.kp T.f__law_draw.b .nil pass0 (pa_cons (pv 0) (pa_cons (pe_op op_sub (pv 1) pe_int) pa_nil)))) (pg_sub (pv 6) pe_int set_list))) pss_nil) (pss_one (ps_ret (pv 6))))))))))), ?_⟩
  rw [_law_some_figures] at hm
  with_reducible refine x_seq ?_
  with_reducible refine x_asg ?_
  with_reducible refine x_c ?_
  with_reducible refine x_gn ?_
  with_reducible refine x_seq ?_
  with_reducible refine x_asg ?_
  refine ⟨_, rfl, ?_⟩
  with_reducible refine x_gn ?_
  with_reducible refine x_seq ?_
  refine while_n (fun m σ H1 => ∃ (F1 : Hp) (st1 : DkS) (x1 : Int) (x2 : Int), whileK (_law_some_figures_w1 base) m (x1, x2, st1) = some (r, stR) ∧ Sub (F0) F1 ∧ Gr A F0 H F1 H1 ∧ DkAt A H F1 H1 dk st1 ∧ σ = [some (.ref dk), some (.int base), some (.int x1), some (.int x2), none, none, none, none]) fuel ⟨F0, _, (1 : Int), base, hm, (Sub.refl _), G0, dk0, rfl⟩ (fun σ H1 hW => ?_) (fun m1 σ H1 hW => ?_)
  · obtain ⟨F1, st1, x1, x2, h9, _⟩ := hW
    exact no_none h9
  obtain ⟨F1, st1, x1, x2, hm, s1, G1, dk1, rfl⟩ := hW
  obtain ⟨next1, hnx1⟩ : ∃ nx, nx = whileK (_law_some_figures_w1 base) m1 := ⟨_, rfl⟩
  have hm : (_law_some_figures_w1 base) (x1, x2, st1) next1 = some (r, stR) := by rw [hnx1]; exact whileK_s hm
  rw [_law_some_figures_w1] at hm
  with_reducible refine x_B ?_
  with_reducible refine x_cmp ?_
  with_reducible refine x_op ?_
  refine ⟨_, rfl, ?_⟩
  refine ⟨_, rfl, ?_⟩
  obtain ⟨c1, hm⟩ := guardp hm
  refine ⟨_, _, rfl, rfl, c1.w, ?_⟩
  with_reducible refine x_op ?_
  refine ⟨_, _, rfl, rfl, ⟨by decide, by decide, by decide⟩, ?_⟩
  refine ⟨_, _, rfl, rfl, ?_⟩
  refine ⟨_, rfl, ?_⟩
  refine ifD (fun hc => ?_) (fun hc => ?_)
  · replace hm := itep hm hc
    refine ⟨_, fun σ9 H9 h9 => ⟨m1, Nat.lt_succ_self _, h9⟩, ?_⟩
    with_reducible refine x_seq ?_
    with_reducible refine x_asg ?_
    with_reducible refine x_op ?_
    refine ⟨_, rfl, ?_⟩
    refine ⟨_, rfl, ?_⟩
    obtain ⟨c2, hm⟩ := guardp hm
    refine ⟨_, _, rfl, rfl, c2.w, ?_⟩
    with_reducible refine x_gn ?_
    with_reducible refine x_asg ?_
    refine useEv (.int (x1 + (1 : Int))) (by exact (Evl.ev_op (Evl.ev_var rfl) Evl.ev_c Evl.rv_I0)) (fun H2 e1 => ?_)
    have g1 := gr_ex G1.sub e1
    have G2 := G1.step g1
    have dk2 := dk1.step g1
    with_reducible refine x_gn ?_
    rw [hnx1] at hm
    exact ⟨F1, _, (x1 + (1 : Int)), (x2 * base), hm, s1, G2, dk2, rfl⟩
  · replace hm := iten hm (bF hc)
    with_reducible refine x_seq ?_
    with_reducible refine x_asg ?_
    with_reducible refine x_op ?_
    with_reducible refine x_c ?_
    with_reducible refine x_call ?_
    with_reducible refine x_cons ?_
    refine ⟨_, rfl, ?_⟩
    with_reducible refine x_cons ?_
    with_reducible refine x_op ?_
    with_reducible refine x_lst ?_
    with_reducible refine x_cons ?_
    with_reducible refine x_c ?_
    with_reducible refine x_cons ?_
    refine ⟨_, rfl, ?_⟩
    with_reducible refine x_cons ?_
    refine ⟨_, rfl, ?_⟩
    with_reducible refine x_cons ?_
    with_reducible refine x_c ?_
    refine ⟨szle (show 4 ≤ 16777216 from by decide), fun p1 np1 => ?_⟩
    have fr1 : Rs (α := Int) (F1) [(.int 4), (.int x1), (.int x1), (.int 90)] ([(4 : Int), x1, x1, (90 : Int)] : (List Int)) := (Rs_cons (.int _) (Rs_cons (.int _) (Rs_cons (.int _) (Rs_cons (.int _) Rs_nil))))
    have g2 := Gr.newO (o := .lst [(.int 4), (.int x1), (.int x1), (.int 90)]) G1.sub np1
    have o1 := Ow.new (us := [(.int 4), (.int x1), (.int x1), (.int 90)]) G1 np1
    have G3 := G1.step g2
    have dk3 := dk1.step g2
    with_reducible refine x_call ?_
    with_reducible refine x_cons ?_
    refine ⟨_, rfl, ?_⟩
    with_reducible refine x_cons ?_
    with_reducible refine x_c ?_
    obtain ⟨⟨r1, st2⟩, hr1, hm⟩ := bindp hm
    refine ⟨_, _, _, _, _, (4 : Int), r1, st2, rfl, G3.sub, dk3.at_, dk3.nf, (.int _), hr1, fun N1 H3 v1 g3 dk4 d1 => ?_⟩
    have G4 := G3.trans g3
    have o2 := o1.stepA g3 (dk3.out o1)
    have dk5 := dk3.stepA g3 dk4
    obtain rfl := int_of d1
    obtain ⟨x3, hx1, hm⟩ := bindp hm
    obtain ⟨v2, hu1, d2⟩ := Rs_at (Rs_mono g3.ex fr1) hx1
    refine ⟨_, _, _, _, rfl, rfl, .inl (.inl o2.at_), hu1, ?_⟩
    obtain rfl := int_of d2
    obtain ⟨⟨r2, st3⟩, hr2, hm⟩ := bindp hm
    refine ⟨_, _, _, _, _, x3, r2, st3, rfl, G4.sub, dk5.at_, dk5.nf, (.int _), hr2, fun N2 H4 v3 g4 dk6 d3 => ?_⟩
    have G5 := G4.trans g4
    have o3 := o2.stepA g4 (dk5.out o2)
    have dk7 := dk5.stepA g4 dk6
    obtain rfl := int_of d3
    refine ⟨_, _, rfl, rfl, ?_⟩
    with_reducible refine x_gn ?_
    with_reducible refine x_seq ?_
    with_reducible refine x_asg ?_
    with_reducible refine x_call ?_
    with_reducible refine x_cons ?_
    refine ⟨_, rfl, ?_⟩
    with_reducible refine x_cons ?_
    with_reducible refine x_c ?_
    obtain ⟨⟨r3, st4⟩, hr3, hm⟩ := bindp hm
    refine ⟨_, _, _, _, _, (4 : Int), r3, st4, rfl, G5.sub, dk7.at_, dk7.nf, (.int _), hr3, fun N3 H5 v4 g5 dk8 d4 => ?_⟩
    have G6 := G5.trans g5
    have o4 := o3.stepA g5 (dk7.out o3)
    have dk9 := dk7.stepA g5 dk8
    obtain rfl := int_of d4
    with_reducible refine x_gn ?_
    with_reducible refine x_seq ?_
    with_reducible refine x_asg ?_
    with_reducible refine x_lst ?_
    refine ⟨szle (show 0 ≤ 16777216 from by decide), fun p2 np2 => ?_⟩
    have fr2 : Rs (α := Int) (N3) [] ([] : (List Int)) := Rs_nil
    have g6 := Gr.newO (o := .lst []) G6.sub np2
    have o5 := Ow.new (us := []) G6 np2
    have ne1 := o4.ne_new np2
    have G7 := G6.step g6
    have o6 := o4.step g6
    have dk10 := dk9.step g6
    with_reducible refine x_gn ?_
    with_reducible refine x_seq ?_
    with_reducible refine x_for ?_
    with_reducible refine x_rng1 ?_
    with_reducible refine x_cons ?_
    refine ⟨_, rfl, ?_⟩
    obtain ⟨c3, hm⟩ := guardp hm
    refine ⟨_, rfl, c3.lo, c3.hi, ?_⟩
    refine for_rng (lo := 0) (hi := ((1 : Int) + r2)) (by rw [Int.sub_zero]) (fun (ts1 : List Int) σ H6 => ∃ (F2 : Hp) (st5 : DkS) (x4 : (List Int)) (p3 : Addr) (us1 : List V) (y1 : Option V), forK (_law_some_figures_b2 base r3) ts1 (x4, st5) (_law_some_figures_e3 base) = some (r, stR) ∧ Sub (N3) F2 ∧ Gr A F0 H F2 H6 ∧ Ow H F2 H6 p3 us1 ∧ Rs F2 us1 x4 ∧ DkAt A H F2 H6 dk st5 ∧ σ = [some (.ref dk), some (.int base), some (.int x1), some (.int x2), some (.int ((1 : Int) + r2)), some (.int r3), some (.ref p3), y1]) ⟨N3, _, ([] : (List Int)), _, _, _, hm, (Sub.refl _), G7, o5, fr2, dk10, rfl⟩ (fun t1 ts2 σ H1 hW => ?_) (fun σ H1 hW => ?_)
    · skip
      obtain ⟨F2, st5, x4, p3, us1, y1, hm, s2, G8, o7, fr3, dk11, rfl⟩ := hW
      obtain ⟨next2, hnx2⟩ : ∃ nx, nx = fun s => forK (_law_some_figures_b2 base r3) ts2 s (_law_some_figures_e3 base) := ⟨_, rfl⟩
      have hm : (_law_some_figures_b2 base r3) (x4, st5) t1 next2 = some (r, stR) := by rw [hnx2]; exact forK_c hm
      rw [_law_some_figures_b2] at hm
      with_reducible refine x_gn ?_
      with_reducible refine x_drop ?_
      with_reducible refine x_bm ?_
      refine ⟨_, rfl, ?_⟩
      refine ⟨.inl ⟨rfl, _, .inl (.inl o7.at_)⟩, ?_⟩
      with_reducible refine x_cons ?_
      with_reducible refine x_op ?_
      with_reducible refine x_lst ?_
      with_reducible refine x_cons ?_
      with_reducible refine x_call ?_
      with_reducible refine x_cons ?_
      refine ⟨_, rfl, ?_⟩
      with_reducible refine x_cons ?_
      refine ⟨_, rfl, ?_⟩
      obtain ⟨⟨r4, st6⟩, hr4, hm⟩ := bindp hm
      refine ⟨_, _, _, _, _, base, r4, st6, rfl, G8.sub, dk11.at_, dk11.nf, (.int _), hr4, fun N4 H7 v6 g7 dk12 d5 => ?_⟩
      have G9 := G8.trans g7
      have o8 := o7.stepA g7 (dk11.out o7)
      have dk13 := dk11.stepA g7 dk12
      obtain rfl := int_of d5
      with_reducible refine x_cons ?_
      with_reducible refine x_call ?_
      with_reducible refine x_cons ?_
      refine ⟨_, rfl, ?_⟩
      with_reducible refine x_cons ?_
      with_reducible refine x_cb ?_
      with_reducible refine x_cons ?_
      with_reducible refine x_c ?_
      with_reducible refine x_cons ?_
      refine ⟨_, rfl, ?_⟩
      refine ⟨_, _, rfl, ?_⟩
      obtain ⟨⟨r5, st7⟩, hr5, hm⟩ := bindp hm
      refine ⟨_, _, _, _, _, (if base < (2 : Int) then base else (2 : Int)), r5, st7, rfl, G9.sub, dk13.at_, dk13.nf, (.int _), hr5, fun N5 H8 v7 g8 dk14 d6 => ?_⟩
      have G10 := G9.trans g8
      have o9 := o8.stepA g8 (dk13.out o8)
      have dk15 := dk13.stepA g8 dk14
      obtain rfl := int_of d6
      with_reducible refine x_cons ?_
      refine useEv (.int (base - (1 : Int))) (by exact (Evl.ev_op (Evl.ev_var rfl) Evl.ev_c Evl.rv_I0)) (fun H9 e2 => ?_)
      have g9 := gr_ex G10.sub e2
      have G11 := G10.step g9
      have o10 := o9.step g9
      have dk16 := dk15.step g9
      with_reducible refine x_cons ?_
      with_reducible refine x_c ?_
      refine ⟨szle (show 4 ≤ 16777216 from by decide), fun p4 np3 => ?_⟩
      have fr4 : Rs (α := Int) (N5) [(.int r4), (.int r5), (.int (base - (1 : Int))), (.int 0)] ([r4, r5, (base - (1 : Int)), (0 : Int)] : (List Int)) := (Rs_cons (.int _) (Rs_cons (.int _) (Rs_cons (.int _) (Rs_cons (.int _) Rs_nil))))
      have g10 := Gr.newO (o := .lst [(.int r4), (.int r5), (.int (base - (1 : Int))), (.int 0)]) G11.sub np3
      have o11 := Ow.new (us := [(.int r4), (.int r5), (.int (base - (1 : Int))), (.int 0)]) G11 np3
      have ne2 := o10.ne_new np3
      have G12 := G11.step g10
      have o12 := o10.step g10
      have dk17 := dk16.step g10
      refine ⟨_, rfl, ?_⟩
      obtain ⟨x5, hx2, hm⟩ := bindp hm
      obtain ⟨v8, hu2, d7⟩ := Rs_at fr4 hx2
      refine ⟨_, _, _, _, rfl, rfl, .inl (.inl o11.at_), hu2, ?_⟩
      obtain rfl := int_of d7
      obtain ⟨c4, hm⟩ := guardp hm
      refine ⟨_, _, _, rfl, rfl, o12.at_, szl (by rw [Rs_len (Rs_mono g8.ex (Rs_mono g7.ex fr3))]; exact c4), ?_⟩
      have G13 := o12.mutG (o := .lst (us1 ++ [(.int x5)])) G12
      have o13 := o12.mut (ws := us1 ++ [(.int x5)])
      have o14 := o11.other (ws := us1 ++ [(.int x5)]) (Ne.symm (Ne.symm ne2))
      have dk18 := dk17.mut (ws := us1 ++ [(.int x5)]) o12
      have fr5 : Rs (α := Int) (N5) (us1 ++ [(.int x5)]) (x4 ++ [x5]) := Rs_snoc (Rs_mono g8.ex (Rs_mono g7.ex fr3)) (.int _)
      rw [hnx2] at hm
      exact ⟨N5, _, (x4 ++ [x5]), _, _, _, hm, ((s2.trans g7.ex).trans g8.ex), G13, o13, fr5, dk18, rfl⟩
    · skip
      obtain ⟨F2, st5, x4, p3, us1, y1, hm, s3, G14, o15, fr6, dk19, rfl⟩ := hW
      have hm : (_law_some_figures_e3 base) (x4, st5) = some (r, stR) := forK_n hm
      rw [_law_some_figures_e3] at hm
      refine ⟨(fun σ H10 => ∃ (F3 : Hp) (st8 : DkS) (x6 : (List Int)) (p5 : Addr) (us2 : List V), (_law_some_figures_j4) (x6, st8) = some (r, stR) ∧ Sub (F2) F3 ∧ Gr A F0 H F3 H10 ∧ Ow H F3 H10 p5 us2 ∧ Rs F3 us2 x6 ∧ DkAt A H F3 H10 dk st8 ∧ σ = [some (.ref dk), some (.int base), some (.int x1), some (.int x2), some (.int ((1 : Int) + r2)), some (.int r3), some (.ref p5), y1]), ?_, fun σ H1 hW => ?_⟩
      · with_reducible refine x_if ?_
        with_reducible refine x_B ?_
        with_reducible refine x_cmp ?_
        with_reducible refine x_op ?_
        refine ⟨_, rfl, ?_⟩
        with_reducible refine x_c ?_
        obtain ⟨x7, hx3, hm⟩ := bindp hm
        obtain ⟨v9, hu3, d8⟩ := Rs_at fr6 hx3
        refine ⟨_, _, _, _, rfl, rfl, .inl (.inl o15.at_), hu3, ?_⟩
        obtain rfl := int_of d8
        with_reducible refine x_c ?_
        refine ⟨_, _, rfl, rfl, ?_⟩
        refine ⟨_, rfl, ?_⟩
        refine ifD (fun hc => ?_) (fun hc => ?_)
        · replace hm := itep hm hc
          with_reducible refine x_asg ?_
          with_reducible refine x_op ?_
          with_reducible refine x_c ?_
          with_reducible refine x_call ?_
          with_reducible refine x_cons ?_
          refine ⟨_, rfl, ?_⟩
          with_reducible refine x_cons ?_
          refine useEv (.int (base - (1 : Int))) (by exact (Evl.ev_op (Evl.ev_var rfl) Evl.ev_c Evl.rv_I0)) (fun H11 e3 => ?_)
          have g11 := gr_ex G14.sub e3
          have G15 := G14.step g11
          have o16 := o15.step g11
          have dk20 := dk19.step g11
          obtain ⟨⟨r6, st9⟩, hr6, hm⟩ := bindp hm
          refine ⟨_, _, _, _, _, (base - (1 : Int)), r6, st9, rfl, G15.sub, dk20.at_, dk20.nf, (.int _), hr6, fun N6 H12 v10 g12 dk21 d9 => ?_⟩
          have G16 := G15.trans g12
          have o17 := o16.stepA g12 (dk20.out o16)
          have dk22 := dk20.stepA g12 dk21
          obtain rfl := int_of d9
          refine ⟨_, _, rfl, rfl, ?_⟩
          refine ⟨_, rfl, ?_⟩
          with_reducible refine x_c ?_
          obtain ⟨j1, hj1, hm⟩ := bindp hm
          refine ⟨_, _, _, _, rfl, rfl, o17.at_, (by rw [Rs_len (Rs_mono g12.ex fr6)]; exact hj1), ?_⟩
          have G17 := o17.mutG (o := .lst (us1.set j1 (.int ((1 : Int) + r6)))) G16
          have o18 := o17.mut (ws := us1.set j1 (.int ((1 : Int) + r6)))
          have dk23 := dk22.mut (ws := us1.set j1 (.int ((1 : Int) + r6))) o17
          have fr7 : Rs (α := Int) (N6) (us1.set j1 (.int ((1 : Int) + r6))) (x4.set j1 ((1 : Int) + r6)) := Rs_set (Rs_mono g12.ex fr6) (.int _)
          exact ⟨N6, _, (x4.set j1 ((1 : Int) + r6)), _, _, hm, g12.ex, G17, o18, fr7, dk23, rfl⟩
        · replace hm := iten hm (bF hc)
          with_reducible refine x_next ?_
          exact ⟨F2, _, x4, _, _, hm, (Sub.refl _), G14, o15, fr6, dk19, rfl⟩
      · skip
        obtain ⟨F3, st8, x6, p5, us2, hm, s4, G18, o19, fr8, dk24, rfl⟩ := hW
        have hm : (_law_some_figures_j4) (x6, st8) = some (r, stR) := hm
        rw [_law_some_figures_j4] at hm
        with_reducible refine x_ret ?_
        refine ⟨_, rfl, ?_⟩
        have G19 := o19.frz G18
        have ex1 := o19.ex
        have fa1 : (upd (F3) p5 (.lst us2)) p5 = some (.lst us2) := upd_same
        have fr9 := Rs_mono ex1 fr8
        have dk25 := dk24.frz o19
        obtain ⟨rfl, rfl⟩ := pairp hm
        exact q _ _ _ G19 dk25.at_ (mk_lst ((Sub.refl _) _ _ fa1) (Rs_mono (Sub.refl _) fr9)) (fun a9 e9 => by cases e9; exact o19.n0)

def law_b3 (t1 : Int) : DkS → Int → (DkS → Option Bool) → Option Bool
  | st2, t2, next2 => ((_law_some_figures st2 t1).bind fun (r1, st3) => ((_law_right t1 r1).bind fun r2 => (if (!r2) = true then (some false) else ((_law_draw st3 (r1.length : Int)).bind fun (r3, st4) => ((atI r1 r3).bind fun x1 => (if Dv t1 then ((ixN r1.length r3).bind fun j1 => ((_law_right t1 (r1.set j1 (if ((x1 + (1 : Int)) % t1) > (if (decide (r3 = (0 : Int))) = true then (1 : Int) else 0) then ((x1 + (1 : Int)) % t1) else (if (decide (r3 = (0 : Int))) = true then (1 : Int) else 0)))).bind fun r4 => (if (!r4) = true then (some false) else (next2 st4)))) else none))))))
def law_b5 (t1 : Int) : DkS → (List Int) → (DkS → Option Bool) → Option Bool
  | st5, t3, next3 => ((_law_right t1 t3).bind fun r5 => (if (!r5) = true then (some false) else (next3 st5)))
def law_e6 (next1 : (DkS → Option Bool)) : DkS → Option Bool
  | st5 => (next1 st5)
def law_e4 (t1 : Int) (next1 : (DkS → Option Bool)) : DkS → Option Bool
  | st2 => (if Rv ([(t1 - (1 : Int))] : (List Int)).length (90 : Int) then (if Rv ([(0 : Int)] : (List Int)).length (89 : Int) then (if ([(1 : Int)] : (List Int)).length + ((List.replicate (89 : Int).toNat ([(0 : Int)] : (List Int))).flatten).length ≤ 16777216 then (forK (law_b5 t1) (([([(0 : Int)] : (List Int)), ([(t1 - (1 : Int))] : (List Int)), ((List.replicate (90 : Int).toNat ([(t1 - (1 : Int))] : (List Int))).flatten), (([(1 : Int)] : (List Int)) ++ ((List.replicate (89 : Int).toNat ([(0 : Int)] : (List Int))).flatten))] : (List (List Int)))) st2 (law_e6 next1)) else none) else none) else none)
def law_b1 : DkS → Int → (DkS → Option Bool) → Option Bool
  | st1, t1, next1 => (forK (law_b3 t1) (irange 0 (6 : Int)) st1 (law_e4 t1 next1))
def law_e2 : DkS → Option Bool
  | st1 => ((number_by (2 : Int) ([(1 : Int), (0 : Int), (1 : Int), (1 : Int)] : (List Int))).bind fun r6 => (some (decide (r6 = (11 : Int)))))
def law (ns : List Int) : Option Bool :=
  (forK (law_b1) (irange (2 : Int) (17 : Int)) (mkDeck ns) (law_e2))
abbrev N_law : List Str := ["script", "deck", "base", "turn", "figures", "at"]
theorem sc_law : FnScope N_law ["script"] (defScope s_law) := ⟨rfl, rfl, rfl, by decide +kernel, rfl, by decide +kernel, by decide +kernel⟩
def sp_law (K : PySem.W.Frag) : Sp := fun vs H Q _ => ∃ (a : Addr) (ns : List Int), vs = [.ref a] ∧ SqL K H a (ns.map V.int) ∧ law ns = some true ∧ ∀ H2, Q (.bl true) H2
theorem ok_law {P : Program} {w : World} {K : PySem.W.Frag} {mg : Str → Option Value} {base : Heap} (T : Txt K mg) : FnOk P w K mg base CX0 6 T.f_law.f T.f_law.fd ["script"] (sp_law K) := by
  have nd := sc_law.nd
  refine T.f_law.F.ok sc_law (fun vs H Q E h => ?_) (fun cdv A0 outer s Hx vs Q E hr h => ?_)
  · obtain ⟨_, _, rfl, _⟩ := h
    rfl
  obtain ⟨a0, ns, rfl, hS, hm, q⟩ := h
  refine ⟨_, (pss_cons (ps_set (i := 1) nd rfl (by first | exact Or.inl rfl | exact Or.inr rfl) (pe_call (ok__law_deck T) (hr.mono (by decide)) (by rfl) T.f__law_deck.g T.f__law_deck.F.kp T.f__law_deck.b .nil pass0 (pa_cons (pv 0) pa_nil))) (pss_cons (ps_for PassesOwn.never rfl (pi_range2 (by rfl) T.z_range (pa_cons pe_int (pa_cons pe_int pa_nil))) (pg_name (i := 2) nd rfl (by first | exact Or.inl rfl | exact Or.inr rfl)) (pss_cons (ps_for PassesOwn.never rfl (pi_range1 (by rfl) T.z_range (pa_cons pe_int pa_nil)) (pg_name (i := 3) nd rfl (by first | exact Or.inl rfl | exact Or.inr rfl)) (pss_cons (ps_set (i := 4) nd rfl (by first | exact Or.inl rfl | exact Or.inr rfl) (pe_call (ok__law_some_figures T) (hr.mono (by decide)) (by rfl) T.f__law_some_figures.g T.f__law_some_figures.F.kp T.f__law_some_figures.b .nil pass0 (pa_cons (pv 1) (pa_cons (pv 2) pa_nil)))) (pss_cons (ps_if (pt_not (pt_val (pe_call (ok__law_right T) (hr.mono (by decide)) (by rfl) T.f__law_right.g T.f__law_right.F.kp T.f__law_right.b .nil pass0 (pa_cons (pv 2) (pa_cons (pv 4) pa_nil))))) (pss_one (ps_ret pe_bl)) pss_nil) (pss_cons (ps_set (i := 5) nd rfl (by first | exact Or.inl rfl | exact Or.inr rfl) (pe_call (ok__law_draw T) (hr.mono (by decide)) (by rfl) T.f__law_draw.g T.f__law_draw.F.kp T.f__law_draw.b .nil pass0 (pa_cons (pv 1) (pa_cons (pe_callB (r := rLenT K) call_lenT (by rfl) T.z_len PySem.boot_len (pa_cons (pv 4) pa_nil)) pa_nil)))) (pss_cons (ps_asg (pe_callB (call_max2 rfl) (by rfl) T.z_max (by decide +kernel) (pa_cons (pe_callTy call_int1 (by rfl) T.z_int (by decide +kernel) (pa_cons (pe_cmp (pc_eqI (pv 5) pe_int)) pa_nil)) (pa_cons (pe_op op_mod (pe_op op_add (pe_ix (r := rIxL K) ix_list (pv 4) (pv 5) (fun _ _ => rfl)) pe_int) (pv 2)) pa_nil))) (pg_sub (pv 4) (pv 5) set_list)) (pss_one (ps_if (pt_not (pt_val (pe_call (ok__law_right T) (hr.mono (by decide)) (by rfl) T.f__law_right.g T.f__law_right.F.kp T.f__law_right.b .nil pass0 (pa_cons (pv 2) (pa_cons (pv 4) pa_nil))))) (pss_one (ps_ret pe_bl)) pss_nil))))))) (pss_one (ps_for PassesOwn.never rfl (pi_list (pe_lst (pa_cons (pe_lst (pa_cons pe_int pa_nil)) (pa_cons (pe_lst (pa_cons (pe_op op_sub (pv 2) pe_int) pa_nil)) (pa_cons (pe_op op_rep (pe_lst (pa_cons (pe_op op_sub (pv 2) pe_int) pa_nil)) pe_int) (pa_cons (pe_op op_cat (pe_lst (pa_cons pe_int pa_nil)) (pe_op op_rep (pe_lst (pa_cons pe_int pa_nil)) pe_int)) pa_nil)))))) (pg_name (i := 4) nd rfl (by first | exact Or.inl rfl | exact Or.inr rfl)) (pss_one (ps_if (pt_not (pt_val (pe_call (ok__law_right T) (hr.mono (by decide)) (by rfl) T.f__law_right.g T.f__law_right.F.kp T.f__law_right.b .nil pass0 (pa_cons (pv 2) (pa_cons (pv 4) pa_nil))))) (pss_one (ps_ret pe_bl)) pss_nil)))))) (pss_one (ps_ret (pe_cmp (pc_eqI (pe_call (ok_number_by T) (hr.mono (by decide)) (by rfl) T.f_number_by.g T.f_number_by.F.kp T.f_number_by.b .nil pass0 (pa_cons pe_int (pa_cons (pe_lst (pa_cons pe_int (pa_cons pe_int (pa_cons pe_int (pa_cons pe_int pa_nil))))) pa_nil))) pe_int)))))), ?_⟩
  rw [law] at hm
  with_reducible refine x_seq ?_
  with_reducible refine x_asg ?_
  with_reducible refine x_call ?_
  with_reducible refine x_cons ?_
  refine ⟨_, rfl, ?_⟩
  refine ⟨_, ns, rfl, hS, fun H dk A k1 hdk hA => ?_⟩
  with_reducible refine x_gn ?_
  obtain ⟨F0, hF0⟩ : ∃ F : Hp, F = fun _ => none := ⟨_, rfl⟩
  have s0 : Sub F0 H := fun a o e => by rw [hF0] at e; cases e
  have G0 : Gr A F0 H F0 H := Gr.refl s0
  have dk0 : DkAt A H F0 H dk (mkDeck ns) := ⟨hdk, fun a _ => by rw [hF0], fun _ h => hdk.there h⟩
  with_reducible refine x_seq ?_
  with_reducible refine x_for ?_
  with_reducible refine x_rng2 ?_
  with_reducible refine x_cons ?_
  with_reducible refine x_c ?_
  with_reducible refine x_cons ?_
  with_reducible refine x_c ?_
  refine ⟨_, _, rfl, (show Rg2 (2 : Int) (17 : Int) from by decide).ok, ?_⟩
  refine for_rng (lo := (2 : Int)) (hi := (17 : Int)) rfl (fun (ts1 : List Int) σ H1 => ∃ (F1 : Hp) (st1 : DkS) (y1 : Option V) (y2 : Option V) (y3 : Option V) (y4 : Option V), forK (law_b1) ts1 st1 (law_e2) = some true ∧ Sub (F0) F1 ∧ Gr A F0 H F1 H1 ∧ DkAt A H F1 H1 dk st1 ∧ σ = [some (.ref a0), some (.ref dk), y2, y4, y3, y1]) ⟨F0, _, _, _, _, _, hm, (Sub.refl _), G0, dk0, rfl⟩ (fun t1 ts2 σ H1 hW => ?_) (fun σ H1 hW => ?_)
  · skip
    obtain ⟨F1, st1, y1, y2, y3, y4, hm, s1, G1, dk1, rfl⟩ := hW
    obtain ⟨next1, hnx1⟩ : ∃ nx, nx = fun s => forK (law_b1) ts2 s (law_e2) := ⟨_, rfl⟩
    have hm : (law_b1) st1 t1 next1 = some true := by rw [hnx1]; exact forK_c hm
    rw [law_b1] at hm
    with_reducible refine x_gn ?_
    with_reducible refine x_seq ?_
    with_reducible refine x_for ?_
    with_reducible refine x_rng1 ?_
    with_reducible refine x_cons ?_
    with_reducible refine x_c ?_
    refine ⟨_, rfl, (show Rg1 (6 : Int) from by decide).lo, (show Rg1 (6 : Int) from by decide).hi, ?_⟩
    refine for_rng (lo := 0) (hi := (6 : Int)) (by rw [Int.sub_zero]) (fun (ts3 : List Int) σ H2 => ∃ (F2 : Hp) (st2 : DkS) (y5 : Option V) (y6 : Option V) (y7 : Option V), forK (law_b3 t1) ts3 st2 (law_e4 t1 next1) = some true ∧ Sub (F1) F2 ∧ Gr A F0 H F2 H2 ∧ DkAt A H F2 H2 dk st2 ∧ σ = [some (.ref a0), some (.ref dk), some (.int t1), y7, y6, y5]) ⟨F1, _, _, _, _, hm, (Sub.refl _), G1, dk1, rfl⟩ (fun t2 ts4 σ H1 hW => ?_) (fun σ H1 hW => ?_)
    · skip
      obtain ⟨F2, st2, y5, y6, y7, hm, s2, G2, dk2, rfl⟩ := hW
      obtain ⟨next2, hnx2⟩ : ∃ nx, nx = fun s => forK (law_b3 t1) ts4 s (law_e4 t1 next1) := ⟨_, rfl⟩
      have hm : (law_b3 t1) st2 t2 next2 = some true := by rw [hnx2]; exact forK_c hm
      rw [law_b3] at hm
      with_reducible refine x_gn ?_
      with_reducible refine x_seq ?_
      with_reducible refine x_asg ?_
      with_reducible refine x_call ?_
      with_reducible refine x_cons ?_
      refine ⟨_, rfl, ?_⟩
      with_reducible refine x_cons ?_
      refine ⟨_, rfl, ?_⟩
      obtain ⟨⟨r1, st3⟩, hr1, hm⟩ := bindp hm
      refine ⟨_, _, _, _, _, t1, r1, st3, rfl, G2.sub, dk2.at_, dk2.nf, (.int _), hr1, fun N1 H3 v3 g1 dk3 d1 fz1 => ?_⟩
      obtain ⟨a1, us1, rfl, fa1, fr1⟩ := lst_of d1
      have o1 := own_of (α := Int) (xs := []) G2 g1 ( fz1 _ rfl) fa1
      have fr2 := Rs_flatI (F := F2) fr1
      have g2 := g1.flatA G2.sub dk2.nf
      have G3 := G2.trans g2
      have dk4 := dk2.stepA g2 dk3
      with_reducible refine x_gn ?_
      with_reducible refine x_seq ?_
      with_reducible refine x_if ?_
      with_reducible refine x_not ?_
      with_reducible refine x_B ?_
      with_reducible refine x_call ?_
      with_reducible refine x_cons ?_
      refine ⟨_, rfl, ?_⟩
      with_reducible refine x_cons ?_
      refine ⟨_, rfl, ?_⟩
      obtain ⟨r2, hr2, hm⟩ := bindp hm
      refine ⟨upd (F2) a1 (.lst us1), _, _, t1, r1, r2, rfl, o1.sub G3.sub, (RD.mono o1.ex (.int _)), (mk_lst upd_same (Rs_mono o1.ex fr2)), hr2, fun N2 H4 v4 g3 d2 => ?_⟩
      obtain rfl := bl_of d2
      have g4 := g3.flat G3.sub
      have G4 := G3.step g4
      have o2 := o1.step g4
      have dk5 := dk4.step g4
      refine ⟨_, rfl, ?_⟩
      refine ifD (fun hc => ?_) (fun hc => ?_)
      · replace hm := itep hm hc
        with_reducible refine x_ret ?_
        with_reducible refine x_c ?_
        exact ret_true hm q
      · replace hm := iten hm (bF hc)
        with_reducible refine x_next ?_
        with_reducible refine x_seq ?_
        with_reducible refine x_asg ?_
        with_reducible refine x_call ?_
        with_reducible refine x_cons ?_
        refine ⟨_, rfl, ?_⟩
        with_reducible refine x_cons ?_
        refine useEv (.int (r1.length : Int)) (by exact (ev_lenT (Evl.ev_var rfl) o2.at_ fr2)) (fun H5 e1 => ?_)
        have g5 := gr_ex G4.sub e1
        have G5 := G4.step g5
        have o3 := o2.step g5
        have dk6 := dk5.step g5
        obtain ⟨⟨r3, st4⟩, hr3, hm⟩ := bindp hm
        refine ⟨_, _, _, _, _, (r1.length : Int), r3, st4, rfl, G5.sub, dk6.at_, dk6.nf, (.int _), hr3, fun N3 H6 v5 g6 dk7 d3 => ?_⟩
        have G6 := G5.trans g6
        have o4 := o3.stepA g6 (dk6.out o3)
        have dk8 := dk6.stepA g6 dk7
        obtain rfl := int_of d3
        with_reducible refine x_gn ?_
        with_reducible refine x_seq ?_
        with_reducible refine x_asg ?_
        with_reducible refine x_cb ?_
        with_reducible refine x_cons ?_
        with_reducible refine x_cb ?_
        with_reducible refine x_cons ?_
        refine useEv (.bl (decide (r3 = (0 : Int)))) (by exact (ev_cmp (Evl.ev_var rfl) Evl.ev_c)) (fun H7 e2 => ?_)
        have g7 := gr_ex G6.sub e2
        have G7 := G6.step g7
        have o5 := o4.step g7
        have dk9 := dk8.step g7
        refine .inr ⟨_, rfl, ?_⟩
        with_reducible refine x_cons ?_
        with_reducible refine x_op ?_
        with_reducible refine x_op ?_
        with_reducible refine x_op ?_
        refine ⟨_, rfl, ?_⟩
        refine ⟨_, rfl, ?_⟩
        obtain ⟨x1, hx1, hm⟩ := bindp hm
        obtain ⟨v6, hu1, d4⟩ := Rs_at (Rs_mono g6.ex fr2) hx1
        refine ⟨_, _, _, _, rfl, rfl, .inl (.inl o5.at_), hu1, ?_⟩
        obtain rfl := int_of d4
        with_reducible refine x_c ?_
        refine ⟨_, _, rfl, rfl, ?_⟩
        refine ⟨_, rfl, ?_⟩
        obtain ⟨c1, hm⟩ := guardp hm
        refine ⟨_, _, rfl, rfl, c1.p, ?_⟩
        refine ⟨_, _, rfl, ?_⟩
        refine ⟨_, rfl, ?_⟩
        refine ⟨_, rfl, ?_⟩
        obtain ⟨j1, hj1, hm⟩ := bindp hm
        refine ⟨_, _, _, _, rfl, rfl, o5.at_, (by rw [Rs_len (Rs_mono g6.ex fr2)]; exact hj1), ?_⟩
        have G8 := o5.mutG (o := .lst (us1.set j1 (.int (if ((x1 + (1 : Int)) % t1) > (if (decide (r3 = (0 : Int))) = true then (1 : Int) else 0) then ((x1 + (1 : Int)) % t1) else (if (decide (r3 = (0 : Int))) = true then (1 : Int) else 0))))) G7
        have o6 := o5.mut (ws := us1.set j1 (.int (if ((x1 + (1 : Int)) % t1) > (if (decide (r3 = (0 : Int))) = true then (1 : Int) else 0) then ((x1 + (1 : Int)) % t1) else (if (decide (r3 = (0 : Int))) = true then (1 : Int) else 0))))
        have dk10 := dk9.mut (ws := us1.set j1 (.int (if ((x1 + (1 : Int)) % t1) > (if (decide (r3 = (0 : Int))) = true then (1 : Int) else 0) then ((x1 + (1 : Int)) % t1) else (if (decide (r3 = (0 : Int))) = true then (1 : Int) else 0)))) o5
        have fr3 : Rs (α := Int) (N3) (us1.set j1 (.int (if ((x1 + (1 : Int)) % t1) > (if (decide (r3 = (0 : Int))) = true then (1 : Int) else 0) then ((x1 + (1 : Int)) % t1) else (if (decide (r3 = (0 : Int))) = true then (1 : Int) else 0)))) (r1.set j1 (if ((x1 + (1 : Int)) % t1) > (if (decide (r3 = (0 : Int))) = true then (1 : Int) else 0) then ((x1 + (1 : Int)) % t1) else (if (decide (r3 = (0 : Int))) = true then (1 : Int) else 0))) := Rs_set (Rs_mono g6.ex fr2) (.int _)
        with_reducible refine x_if ?_
        with_reducible refine x_not ?_
        with_reducible refine x_B ?_
        with_reducible refine x_call ?_
        with_reducible refine x_cons ?_
        refine ⟨_, rfl, ?_⟩
        with_reducible refine x_cons ?_
        refine ⟨_, rfl, ?_⟩
        obtain ⟨r4, hr4, hm⟩ := bindp hm
        refine ⟨upd (N3) a1 (.lst (us1.set j1 (.int (if ((x1 + (1 : Int)) % t1) > (if (decide (r3 = (0 : Int))) = true then (1 : Int) else 0) then ((x1 + (1 : Int)) % t1) else (if (decide (r3 = (0 : Int))) = true then (1 : Int) else 0))))), _, _, t1, (r1.set j1 (if ((x1 + (1 : Int)) % t1) > (if (decide (r3 = (0 : Int))) = true then (1 : Int) else 0) then ((x1 + (1 : Int)) % t1) else (if (decide (r3 = (0 : Int))) = true then (1 : Int) else 0))), r4, rfl, o6.sub G8.sub, (RD.mono o6.ex (.int _)), (mk_lst upd_same (Rs_mono o6.ex fr3)), hr4, fun N4 H8 v7 g8 d5 => ?_⟩
        obtain rfl := bl_of d5
        have g9 := g8.flat G8.sub
        have G9 := G8.step g9
        have o7 := o6.step g9
        have dk11 := dk10.step g9
        refine ⟨_, rfl, ?_⟩
        refine ifD (fun hc => ?_) (fun hc => ?_)
        · replace hm := itep hm hc
          with_reducible refine x_ret ?_
          with_reducible refine x_c ?_
          exact ret_true hm q
        · replace hm := iten hm (bF hc)
          with_reducible refine x_next ?_
          rw [hnx2] at hm
          exact ⟨N3, _, _, _, _, hm, (s2.trans g6.ex), G9, dk11, rfl⟩
    · skip
      obtain ⟨F2, st2, y5, y6, y7, hm, s3, G10, dk12, rfl⟩ := hW
      have hm : (law_e4 t1 next1) st2 = some true := forK_n hm
      rw [law_e4] at hm
      with_reducible refine x_for ?_
      with_reducible refine x_iter ?_
      with_reducible refine x_lst ?_
      with_reducible refine x_cons ?_
      with_reducible refine x_lst ?_
      with_reducible refine x_cons ?_
      with_reducible refine x_c ?_
      refine ⟨szle (show 1 ≤ 16777216 from by decide), fun p1 np1 => ?_⟩
      have fr4 : Rs (α := Int) (F2) [(.int 0)] ([(0 : Int)] : (List Int)) := (Rs_cons (.int _) Rs_nil)
      have g10 := Gr.newO (o := .lst [(.int 0)]) G10.sub np1
      have o8 := Ow.new (us := [(.int 0)]) G10 np1
      have G11 := G10.step g10
      have dk13 := dk12.step g10
      with_reducible refine x_cons ?_
      with_reducible refine x_lst ?_
      with_reducible refine x_cons ?_
      refine useEv (.int (t1 - (1 : Int))) (by exact (Evl.ev_op (Evl.ev_var rfl) Evl.ev_c Evl.rv_I0)) (fun H9 e3 => ?_)
      have g11 := gr_ex G11.sub e3
      have G12 := G11.step g11
      have o9 := o8.step g11
      have dk14 := dk13.step g11
      refine ⟨szle (show 1 ≤ 16777216 from by decide), fun p2 np2 => ?_⟩
      have fr5 : Rs (α := Int) (F2) [(.int (t1 - (1 : Int)))] ([(t1 - (1 : Int))] : (List Int)) := (Rs_cons (.int _) Rs_nil)
      have g12 := Gr.newO (o := .lst [(.int (t1 - (1 : Int)))]) G12.sub np2
      have o10 := Ow.new (us := [(.int (t1 - (1 : Int)))]) G12 np2
      have ne1 := o9.ne_new np2
      have G13 := G12.step g12
      have o11 := o9.step g12
      have dk15 := dk14.step g12
      with_reducible refine x_cons ?_
      with_reducible refine x_op ?_
      with_reducible refine x_lst ?_
      with_reducible refine x_cons ?_
      refine useEv (.int (t1 - (1 : Int))) (by exact (Evl.ev_op (Evl.ev_var rfl) Evl.ev_c Evl.rv_I0)) (fun H10 e4 => ?_)
      have g13 := gr_ex G13.sub e4
      have G14 := G13.step g13
      have o12 := o11.step g13
      have o13 := o10.step g13
      have dk16 := dk15.step g13
      refine ⟨szle (show 1 ≤ 16777216 from by decide), fun p3 np3 => ?_⟩
      have fr6 : Rs (α := Int) (F2) [(.int (t1 - (1 : Int)))] ([(t1 - (1 : Int))] : (List Int)) := (Rs_cons (.int _) Rs_nil)
      have g14 := Gr.newO (o := .lst [(.int (t1 - (1 : Int)))]) G14.sub np3
      have o14 := Ow.new (us := [(.int (t1 - (1 : Int)))]) G14 np3
      have ne2 := o12.ne_new np3
      have ne3 := o13.ne_new np3
      have G15 := G14.step g14
      have o15 := o12.step g14
      have o16 := o13.step g14
      have dk17 := dk16.step g14
      with_reducible refine x_c ?_
      obtain ⟨c2, hm⟩ := guardp hm
      refine ⟨_, _, _, rfl, rfl, o14.at_, c2.lo, c2.hi, szle (by rw [Rs_len fr6]; exact c2.sz), fun p4 np4 => ?_⟩
      have fr7 : Rs (α := Int) (F2) (List.replicate (90 : Int).toNat [(.int (t1 - (1 : Int)))]).flatten (List.replicate (90 : Int).toNat ([(t1 - (1 : Int))] : (List Int))).flatten := Rs_rep fr6
      have g15 := Gr.newO (o := .lst (List.replicate (90 : Int).toNat [(.int (t1 - (1 : Int)))]).flatten) G15.sub np4
      have o17 := Ow.new (us := (List.replicate (90 : Int).toNat [(.int (t1 - (1 : Int)))]).flatten) G15 np4
      have ne4 := o15.ne_new np4
      have ne5 := o16.ne_new np4
      have ne6 := o14.ne_new np4
      have G16 := G15.step g15
      have o18 := o15.step g15
      have o19 := o16.step g15
      have o20 := o14.step g15
      have dk18 := dk17.step g15
      with_reducible refine x_cons ?_
      with_reducible refine x_op ?_
      with_reducible refine x_lst ?_
      with_reducible refine x_cons ?_
      with_reducible refine x_c ?_
      refine ⟨szle (show 1 ≤ 16777216 from by decide), fun p5 np5 => ?_⟩
      have fr8 : Rs (α := Int) (F2) [(.int 1)] ([(1 : Int)] : (List Int)) := (Rs_cons (.int _) Rs_nil)
      have g16 := Gr.newO (o := .lst [(.int 1)]) G16.sub np5
      have o21 := Ow.new (us := [(.int 1)]) G16 np5
      have ne7 := o18.ne_new np5
      have ne8 := o19.ne_new np5
      have ne9 := o20.ne_new np5
      have ne10 := o17.ne_new np5
      have G17 := G16.step g16
      have o22 := o18.step g16
      have o23 := o19.step g16
      have o24 := o20.step g16
      have o25 := o17.step g16
      have dk19 := dk18.step g16
      with_reducible refine x_op ?_
      with_reducible refine x_lst ?_
      with_reducible refine x_cons ?_
      with_reducible refine x_c ?_
      refine ⟨szle (show 1 ≤ 16777216 from by decide), fun p6 np6 => ?_⟩
      have fr9 : Rs (α := Int) (F2) [(.int 0)] ([(0 : Int)] : (List Int)) := (Rs_cons (.int _) Rs_nil)
      have g17 := Gr.newO (o := .lst [(.int 0)]) G17.sub np6
      have o26 := Ow.new (us := [(.int 0)]) G17 np6
      have ne11 := o22.ne_new np6
      have ne12 := o23.ne_new np6
      have ne13 := o24.ne_new np6
      have ne14 := o25.ne_new np6
      have ne15 := o21.ne_new np6
      have G18 := G17.step g17
      have o27 := o22.step g17
      have o28 := o23.step g17
      have o29 := o24.step g17
      have o30 := o25.step g17
      have o31 := o21.step g17
      have dk20 := dk19.step g17
      with_reducible refine x_c ?_
      obtain ⟨c3, hm⟩ := guardp hm
      refine ⟨_, _, _, rfl, rfl, o26.at_, c3.lo, c3.hi, szle (by rw [Rs_len fr9]; exact c3.sz), fun p7 np7 => ?_⟩
      have fr10 : Rs (α := Int) (F2) (List.replicate (89 : Int).toNat [(.int 0)]).flatten (List.replicate (89 : Int).toNat ([(0 : Int)] : (List Int))).flatten := Rs_rep fr9
      have g18 := Gr.newO (o := .lst (List.replicate (89 : Int).toNat [(.int 0)]).flatten) G18.sub np7
      have o32 := Ow.new (us := (List.replicate (89 : Int).toNat [(.int 0)]).flatten) G18 np7
      have ne16 := o27.ne_new np7
      have ne17 := o28.ne_new np7
      have ne18 := o29.ne_new np7
      have ne19 := o30.ne_new np7
      have ne20 := o31.ne_new np7
      have ne21 := o26.ne_new np7
      have G19 := G18.step g18
      have o33 := o27.step g18
      have o34 := o28.step g18
      have o35 := o29.step g18
      have o36 := o30.step g18
      have o37 := o31.step g18
      have o38 := o26.step g18
      have dk21 := dk20.step g18
      obtain ⟨c4, hm⟩ := guardp hm
      refine ⟨_, _, _, _, rfl, rfl, o37.at_, o32.at_, szle (by rw [Rs_len fr8, Rs_len fr10]; exact c4), fun p8 np8 => ?_⟩
      have fr11 : Rs (α := Int) (F2) ([(.int 1)] ++ (List.replicate (89 : Int).toNat [(.int 0)]).flatten) (([(1 : Int)] : (List Int)) ++ ((List.replicate (89 : Int).toNat ([(0 : Int)] : (List Int))).flatten)) := Rs_app fr8 fr10
      have g19 := Gr.newO (o := .lst ([(.int 1)] ++ (List.replicate (89 : Int).toNat [(.int 0)]).flatten)) G19.sub np8
      have o39 := Ow.new (us := ([(.int 1)] ++ (List.replicate (89 : Int).toNat [(.int 0)]).flatten)) G19 np8
      have ne22 := o33.ne_new np8
      have ne23 := o34.ne_new np8
      have ne24 := o35.ne_new np8
      have ne25 := o36.ne_new np8
      have ne26 := o37.ne_new np8
      have ne27 := o38.ne_new np8
      have ne28 := o32.ne_new np8
      have G20 := G19.step g19
      have o40 := o33.step g19
      have o41 := o34.step g19
      have o42 := o35.step g19
      have o43 := o36.step g19
      have o44 := o37.step g19
      have o45 := o38.step g19
      have o46 := o32.step g19
      have dk22 := dk21.step g19
      have G21 := o40.frz G20
      have ex1 := o40.ex
      have o47 := o41.frzo (Ne.symm ne1) o40
      have o48 := o42.frzo (Ne.symm ne2) o40
      have o49 := o43.frzo (Ne.symm ne4) o40
      have o50 := o44.frzo (Ne.symm ne7) o40
      have o51 := o45.frzo (Ne.symm ne11) o40
      have o52 := o46.frzo (Ne.symm ne16) o40
      have o53 := o39.frzo (Ne.symm ne22) o40
      have fa2 : (upd (F2) p1 (.lst [(.int 0)])) p1 = some (.lst [(.int 0)]) := upd_same
      have fr12 := Rs_mono ex1 fr4
      have dk23 := dk22.frz o40
      have G22 := o47.frz G21
      have ex2 := o47.ex
      have o54 := o48.frzo (Ne.symm ne3) o47
      have o55 := o49.frzo (Ne.symm ne5) o47
      have o56 := o50.frzo (Ne.symm ne8) o47
      have o57 := o51.frzo (Ne.symm ne12) o47
      have o58 := o52.frzo (Ne.symm ne17) o47
      have o59 := o53.frzo (Ne.symm ne23) o47
      have fa3 : (upd (upd (F2) p1 (.lst [(.int 0)])) p2 (.lst [(.int (t1 - (1 : Int)))])) p2 = some (.lst [(.int (t1 - (1 : Int)))]) := upd_same
      have fr13 := Rs_mono ex2 (Rs_mono ex1 fr5)
      have dk24 := dk23.frz o47
      have G23 := o55.frz G22
      have ex3 := o55.ex
      have o60 := o54.frzo (Ne.symm (Ne.symm ne6)) o55
      have o61 := o56.frzo (Ne.symm ne10) o55
      have o62 := o57.frzo (Ne.symm ne14) o55
      have o63 := o58.frzo (Ne.symm ne19) o55
      have o64 := o59.frzo (Ne.symm ne25) o55
      have fa4 : (upd (upd (upd (F2) p1 (.lst [(.int 0)])) p2 (.lst [(.int (t1 - (1 : Int)))])) p4 (.lst (List.replicate (90 : Int).toNat [(.int (t1 - (1 : Int)))]).flatten)) p4 = some (.lst (List.replicate (90 : Int).toNat [(.int (t1 - (1 : Int)))]).flatten) := upd_same
      have fr14 := Rs_mono ex3 (Rs_mono ex2 (Rs_mono ex1 fr7))
      have dk25 := dk24.frz o55
      have G24 := o64.frz G23
      have ex4 := o64.ex
      have o65 := o60.frzo (Ne.symm (Ne.symm ne24)) o64
      have o66 := o61.frzo (Ne.symm (Ne.symm ne26)) o64
      have o67 := o62.frzo (Ne.symm (Ne.symm ne27)) o64
      have o68 := o63.frzo (Ne.symm (Ne.symm ne28)) o64
      have fa5 : (upd (upd (upd (upd (F2) p1 (.lst [(.int 0)])) p2 (.lst [(.int (t1 - (1 : Int)))])) p4 (.lst (List.replicate (90 : Int).toNat [(.int (t1 - (1 : Int)))]).flatten)) p8 (.lst ([(.int 1)] ++ (List.replicate (89 : Int).toNat [(.int 0)]).flatten))) p8 = some (.lst ([(.int 1)] ++ (List.replicate (89 : Int).toNat [(.int 0)]).flatten)) := upd_same
      have fr15 := Rs_mono ex4 (Rs_mono ex3 (Rs_mono ex2 (Rs_mono ex1 fr11)))
      have dk26 := dk25.frz o64
      refine ⟨szle (show 4 ≤ 16777216 from by decide), fun p9 np9 => ?_⟩
      have fr16 : Rs (α := (List Int)) (upd (upd (upd (upd (F2) p1 (.lst [(.int 0)])) p2 (.lst [(.int (t1 - (1 : Int)))])) p4 (.lst (List.replicate (90 : Int).toNat [(.int (t1 - (1 : Int)))]).flatten)) p8 (.lst ([(.int 1)] ++ (List.replicate (89 : Int).toNat [(.int 0)]).flatten))) [(.ref p1), (.ref p2), (.ref p4), (.ref p8)] ([([(0 : Int)] : (List Int)), ([(t1 - (1 : Int))] : (List Int)), ((List.replicate (90 : Int).toNat ([(t1 - (1 : Int))] : (List Int))).flatten), (([(1 : Int)] : (List Int)) ++ ((List.replicate (89 : Int).toNat ([(0 : Int)] : (List Int))).flatten))] : (List (List Int))) := (Rs_cons (mk_lst (((ex2.trans ex3).trans ex4) _ _ fa2) (Rs_mono ((ex2.trans ex3).trans ex4) fr12)) (Rs_cons (mk_lst ((ex3.trans ex4) _ _ fa3) (Rs_mono (ex3.trans ex4) fr13)) (Rs_cons (mk_lst (ex4 _ _ fa4) (Rs_mono ex4 fr14)) (Rs_cons (mk_lst ((Sub.refl _) _ _ fa5) (Rs_mono (Sub.refl _) fr15)) Rs_nil))))
      have g20 := Gr.newO (o := .lst [(.ref p1), (.ref p2), (.ref p4), (.ref p8)]) G24.sub np9
      have o69 := Ow.new (us := [(.ref p1), (.ref p2), (.ref p4), (.ref p8)]) G24 np9
      have ne29 := o65.ne_new np9
      have ne30 := o66.ne_new np9
      have ne31 := o67.ne_new np9
      have ne32 := o68.ne_new np9
      have G25 := G24.step g20
      have o70 := o65.step g20
      have o71 := o66.step g20
      have o72 := o67.step g20
      have o73 := o68.step g20
      have dk27 := dk26.step g20
      have G26 := o69.frz G25
      have ex5 := o69.ex
      have o74 := o70.frzo (Ne.symm (Ne.symm ne29)) o69
      have o75 := o71.frzo (Ne.symm (Ne.symm ne30)) o69
      have o76 := o72.frzo (Ne.symm (Ne.symm ne31)) o69
      have o77 := o73.frzo (Ne.symm (Ne.symm ne32)) o69
      have fa6 : (upd (upd (upd (upd (upd (F2) p1 (.lst [(.int 0)])) p2 (.lst [(.int (t1 - (1 : Int)))])) p4 (.lst (List.replicate (90 : Int).toNat [(.int (t1 - (1 : Int)))]).flatten)) p8 (.lst ([(.int 1)] ++ (List.replicate (89 : Int).toNat [(.int 0)]).flatten))) p9 (.lst [(.ref p1), (.ref p2), (.ref p4), (.ref p8)])) p9 = some (.lst [(.ref p1), (.ref p2), (.ref p4), (.ref p8)]) := upd_same
      have fr17 := Rs_mono ex5 fr16
      have dk28 := dk27.frz o69
      refine ⟨_, rfl, ⟨_, .inl (.inl (G26.sub _ _ fa6))⟩, ?_⟩
      refine for_lst (α := (List Int)) (fun (ts5 : List (List Int)) σ H11 => ∃ (F3 : Hp) (st5 : DkS) (y8 : Option V), forK (law_b5 t1) ts5 st5 (law_e6 next1) = some true ∧ Sub (upd (upd (upd (upd (upd (F2) p1 (.lst [(.int 0)])) p2 (.lst [(.int (t1 - (1 : Int)))])) p4 (.lst (List.replicate (90 : Int).toNat [(.int (t1 - (1 : Int)))]).flatten)) p8 (.lst ([(.int 1)] ++ (List.replicate (89 : Int).toNat [(.int 0)]).flatten))) p9 (.lst [(.ref p1), (.ref p2), (.ref p4), (.ref p8)])) F3 ∧ Gr A F0 H F3 H11 ∧ DkAt A H F3 H11 dk st5 ∧ σ = [some (.ref a0), some (.ref dk), some (.int t1), y7, y8, y5]) (Rs_mono (Sub.refl _) fr17) ⟨_, _, _, hm, (Sub.refl _), G26, dk28, rfl⟩ (fun _ _ _ h => ?_) (fun t3 ts6 v8 σ H1 hv3 hW => ?_) (fun σ H1 hW => ?_)
      · obtain ⟨F3, st5, y8, _, s9, G9, _⟩ := h
        exact G9.sub _ _ (s9 _ _ ((Sub.refl _) _ _ fa6))
      · skip
        obtain ⟨F3, st5, y8, hm, s4, G27, dk29, rfl⟩ := hW
        obtain ⟨next3, hnx3⟩ : ∃ nx, nx = fun s => forK (law_b5 t1) ts6 s (law_e6 next1) := ⟨_, rfl⟩
        have hm : (law_b5 t1) st5 t3 next3 = some true := by rw [hnx3]; exact forK_c hm
        rw [law_b5] at hm
        obtain ⟨a2, us2, rfl, fa7, fr18⟩ := lst_of hv3
        with_reducible refine x_gn ?_
        with_reducible refine x_if ?_
        with_reducible refine x_not ?_
        with_reducible refine x_B ?_
        with_reducible refine x_call ?_
        with_reducible refine x_cons ?_
        refine ⟨_, rfl, ?_⟩
        with_reducible refine x_cons ?_
        refine ⟨_, rfl, ?_⟩
        obtain ⟨r5, hr5, hm⟩ := bindp hm
        refine ⟨_, _, _, t1, t3, r5, rfl, G27.sub, (.int _), (mk_lst (s4 _ _ fa7) (Rs_mono s4 fr18)), hr5, fun N5 H12 v9 g21 d6  => ?_⟩
        have G28 := G27.step g21
        have dk30 := dk29.step g21
        obtain rfl := bl_of d6
        refine ⟨_, rfl, ?_⟩
        refine ifD (fun hc => ?_) (fun hc => ?_)
        · replace hm := itep hm hc
          with_reducible refine x_ret ?_
          with_reducible refine x_c ?_
          exact ret_true hm q
        · replace hm := iten hm (bF hc)
          with_reducible refine x_next ?_
          rw [hnx3] at hm
          exact ⟨N5, _, _, hm, (s4.trans g21.ex), G28, dk30, rfl⟩
      · skip
        obtain ⟨F3, st5, y8, hm, s5, G29, dk31, rfl⟩ := hW
        have hm : (law_e6 next1) st5 = some true := forK_n hm
        rw [law_e6] at hm
        rw [hnx1] at hm
        exact ⟨F3, _, _, _, _, _, hm, (((((((s1.trans s3).trans ex1).trans ex2).trans ex3).trans ex4).trans ex5).trans s5), G29, dk31, rfl⟩
  · skip
    obtain ⟨F1, st1, y1, y2, y3, y4, hm, s6, G30, dk32, rfl⟩ := hW
    have hm : (law_e2) st1 = some true := forK_n hm
    rw [law_e2] at hm
    with_reducible refine x_ret ?_
    with_reducible refine x_cmp ?_
    with_reducible refine x_call ?_
    with_reducible refine x_cons ?_
    with_reducible refine x_c ?_
    with_reducible refine x_cons ?_
    with_reducible refine x_lst ?_
    with_reducible refine x_cons ?_
    with_reducible refine x_c ?_
    with_reducible refine x_cons ?_
    with_reducible refine x_c ?_
    with_reducible refine x_cons ?_
    with_reducible refine x_c ?_
    with_reducible refine x_cons ?_
    with_reducible refine x_c ?_
    refine ⟨szle (show 4 ≤ 16777216 from by decide), fun p10 np10 => ?_⟩
    have fr19 : Rs (α := Int) (F1) [(.int 1), (.int 0), (.int 1), (.int 1)] ([(1 : Int), (0 : Int), (1 : Int), (1 : Int)] : (List Int)) := (Rs_cons (.int _) (Rs_cons (.int _) (Rs_cons (.int _) (Rs_cons (.int _) Rs_nil))))
    have g22 := Gr.newO (o := .lst [(.int 1), (.int 0), (.int 1), (.int 1)]) G30.sub np10
    have o78 := Ow.new (us := [(.int 1), (.int 0), (.int 1), (.int 1)]) G30 np10
    have G31 := G30.step g22
    have dk33 := dk32.step g22
    have G32 := o78.frz G31
    have ex6 := o78.ex
    have fa8 : (upd (F1) p10 (.lst [(.int 1), (.int 0), (.int 1), (.int 1)])) p10 = some (.lst [(.int 1), (.int 0), (.int 1), (.int 1)]) := upd_same
    have fr20 := Rs_mono ex6 fr19
    have dk34 := dk33.frz o78
    obtain ⟨r6, hr6, hm⟩ := bindp hm
    refine ⟨_, _, _, (2 : Int), ([(1 : Int), (0 : Int), (1 : Int), (1 : Int)] : (List Int)), r6, rfl, G32.sub, (.int _), (mk_lst ((Sub.refl _) _ _ fa8) (Rs_mono (Sub.refl _) fr20)), hr6, fun N6 H13 v10 g23 d7  => ?_⟩
    have G33 := G32.step g23
    have dk35 := dk34.step g23
    obtain rfl := int_of d7
    with_reducible refine x_c ?_
    refine ⟨_, _, rfl, rfl, ?_⟩
    exact ret_true hm q

/-! ### mathematics, with no program in sight -/
section
/-- an answer is there, and it is so -/
def Ok {α : Type} (o : Option α) (Q : α → Prop) : Prop := ∃ x, o = some x ∧ Q x
variable {α β S ρ : Type} {Q : ρ → Prop}
theorem Ok.mk {x : α} {Q : α → Prop} (h : Q x) : Ok (some x) Q := ⟨x, rfl, h⟩
theorem Ok.bind {o : Option α} {f : α → Option ρ} {P : α → Prop} (h : Ok o P) (k : ∀ x, P x → Ok (f x) Q) : Ok (o.bind f) Q := by
  obtain ⟨x, rfl, p⟩ := h
  exact k x p
theorem Ok.mono {o : Option ρ} {P : ρ → Prop} (h : Ok o P) (k : ∀ x, P x → Q x) : Ok o Q := by
  obtain ⟨x, e, p⟩ := h
  exact ⟨x, e, k x p⟩
theorem Ok.guard {c : Prop} [Decidable c] {a : Option ρ} (hc : c) (h : Ok a Q) : Ok (if c then a else none) Q := by rw [if_pos hc]; exact h
theorem Ok.ite {c : Prop} [Decidable c] {a b : Option ρ} (h1 : c → Ok a Q) (h2 : ¬ c → Ok b Q) : Ok (if c then a else b) Q := by
  by_cases h : c
  · rw [if_pos h]; exact h1 h
  · rw [if_neg h]; exact h2 h
theorem Ok.eq {o : Option ρ} {x : ρ} (h : Ok o (· = x)) : o = some x := by
  obtain ⟨y, e, rfl⟩ := h
  exact e
theorem Ok.of {o : Option ρ} {x : ρ} (h : o = some x) (q : Q x) : Ok o Q := ⟨x, h, q⟩
theorem forK_ok {f : S → α → (S → Option ρ) → Option ρ} {K : S → Option ρ} {P : S → Prop} : ∀ {xs : List α} {s : S}, P s →
    (∀ s x next, x ∈ xs → P s → (∀ s', P s' → Ok (next s') Q) → Ok (f s x next) Q) → (∀ s, P s → Ok (K s) Q) → Ok (forK f xs s K) Q
  | [], s, h0, _, hK => hK s h0
  | x :: xs, s, h0, hs, hK => hs s x _ List.mem_cons_self h0 fun s' h' => forK_ok h' (fun s y next hy => hs s y next (List.mem_cons_of_mem _ hy)) hK
/-- with what has been gone through -/
theorem forK_okI {f : S → α → (S → Option ρ) → Option ρ} {K : S → Option ρ} {P : List α → S → Prop} {xs : List α} {s : S} (h0 : P [] s)
    (hs : ∀ pre x post s next, xs = pre ++ x :: post → P pre s → (∀ s', P (pre ++ [x]) s' → Ok (next s') Q) → Ok (f s x next) Q) (hK : ∀ s, P xs s → Ok (K s) Q) : Ok (forK f xs s K) Q := by
  have all : ∀ (post pre : List α) (s : S), xs = pre ++ post → P pre s → Ok (forK f post s K) Q := by
    intro post
    induction post with
    | nil => intro pre s e h; rw [List.append_nil] at e; subst e; exact hK s h
    | cons x post ih =>
      intro pre s e h
      exact hs pre x post s _ e h fun s' h' => ih (pre ++ [x]) s' (by rw [e, List.append_assoc]; rfl) h'
  exact all xs [] s rfl h0
theorem whileK_ok {f : S → (S → Option ρ) → Option ρ} {P : S → Prop} (μ : S → Nat) (h : ∀ s next, P s → (∀ s', P s' → μ s' < μ s → Ok (next s') Q) → Ok (f s next) Q) :
    ∀ (m : Nat) (s : S), P s → μ s < m → Ok (whileK f m s) Q
  | 0, _, _, hm => absurd hm (Nat.not_lt_zero _)
  | m + 1, s, hp, hm => h s _ hp fun s' hp' hl => whileK_ok μ h m s' hp' (Nat.lt_of_lt_of_le hl (Nat.le_of_lt_succ hm))
/-- a loop that leaves early or goes on -/
theorem forK_stop {f : S → α → (S → Option ρ) → Option ρ} {K : S → Option ρ} {p : α → Bool} {c : Option ρ} {s : S} (h : ∀ x next, f s x next = if p x = true then c else next s) : ∀ xs : List α, forK f xs s K = if xs.any p = true then c else K s
  | [] => rfl
  | x :: xs => by
    show f s x _ = _
    rw [h, forK_stop h xs, List.any_cons]
    cases p x <;> simp
theorem forK_fold {f : S → α → (S → Option ρ) → Option ρ} {K : S → Option ρ} {g : S → α → S} (h : ∀ s x next, f s x next = next (g s x)) : ∀ (xs : List α) (s : S), forK f xs s K = K (xs.foldl g s)
  | [], _ => rfl
  | x :: xs, s => by
    show f s x _ = _
    rw [h]; exact forK_fold h xs _
/-- a comprehension whose element and test are total -/
theorem forK_fm {f : List β → α → (List β → Option ρ) → Option ρ} {K : List β → Option ρ} {p : α → Bool} {g : α → β} {B : Nat} (h : ∀ acc x next, acc.length < B → f acc x next = if p x = true then next (acc ++ [g x]) else next acc) :
    ∀ (xs : List α) (acc : List β), acc.length + xs.length ≤ B → forK f xs acc K = K (acc ++ (xs.filter p).map g)
  | [], acc, _ => by rw [List.filter_nil, List.map_nil, List.append_nil]; rfl
  | x :: xs, acc, hB => by
    rw [List.length_cons] at hB
    show f acc x _ = _
    rw [h acc x _ (by omega), List.filter_cons]
    cases hp : p x with
    | true =>
      rw [if_pos rfl, if_pos rfl, List.map_cons]
      have := forK_fm (K := K) h xs (acc ++ [g x]) (by rw [List.length_append, List.length_singleton]; omega)
      rw [List.append_assoc] at this
      exact this
    | false =>
      rw [if_neg Bool.false_ne_true, if_neg Bool.false_ne_true]
      exact forK_fm h xs acc (by omega)
end
theorem irange_mem {lo hi x : Int} : x ∈ irange lo hi ↔ lo ≤ x ∧ x < hi := by
  unfold irange
  rw [List.mem_map]
  constructor
  · rintro ⟨i, hi', rfl⟩
    rw [List.mem_range] at hi'
    omega
  · intro h
    exact ⟨(x - lo).toNat, by rw [List.mem_range]; omega, by omega⟩
theorem sz_ok {n : Nat} (h : n < 100000) : n < 16777216 := by omega
theorem Mv_of {i j : Int} {a b : Nat} (ha : i.natAbs < 2 ^ a) (hb : j.natAbs < 2 ^ b) (h0 : 0 < a) (h1 : 0 < b) (h : a + b ≤ 1000000) : Mv i j := wide_mul ha hb h0 h1 h
theorem Dv_small {j : Int} (h : 0 < j) (h2 : j < 2 ^ 64) : Dv j := (wide_div (i := 0) (b := 64) h (by omega) (by decide) (by decide) : CDivW 0 j)
theorem Dv_of {j : Int} {b : Nat} (h : 0 < j) (h2 : j.natAbs < 2 ^ b) (h0 : 0 < b) (h9 : b ≤ 9000) : Dv j := (wide_div (i := 0) h h2 h0 h9 : CDivW 0 j)

/-! #### draws -/
def DkOk (st : DkS) : Prop := st.1 ≠ []
theorem mkDeck_ok (ns : List Int) : DkOk (mkDeck ns) := by
  unfold DkOk mkDeck
  have h : 1 ≤ deckLen ns := by unfold deckLen; omega
  intro e
  have := congrArg List.length e
  simp at this
  omega
theorem draw_ok {st : DkS} {many : Int} (h : DkOk st) (h0 : 0 < many) (h1 : many < 2 ^ 64) : Ok (_law_draw st many) fun p => (0 ≤ p.1 ∧ p.1 < many) ∧ DkOk p.2 := by
  unfold _law_draw
  refine Ok.guard (Dv_small h0 h1) ?_
  have hl : 0 < st.1.length := List.length_pos_iff.mpr h
  have e1 := Int.emod_nonneg st.2 (show (st.1.length : Int) ≠ 0 by omega)
  have e2 := Int.emod_lt_of_pos st.2 (show (0 : Int) < (st.1.length : Int) by omega)
  have hi : (st.2 % (st.1.length : Int)).toNat < st.1.length := by omega
  rw [List.getElem?_eq_getElem hi]
  show Ok (if _ then _ else _) _
  have ok2 : ∀ p : Int × Int × Int, DkOk (st.1.set (st.2 % (st.1.length : Int)).toNat p, st.2 + 1) := fun p e => by
    have := congrArg List.length e
    simp only [List.length_set, List.length_nil] at this
    omega
  refine Ok.ite (fun _ => ?_) (fun _ => ?_)
  · exact Ok.mk ⟨⟨Int.emod_nonneg _ (by omega), Int.emod_lt_of_pos _ h0⟩, ok2 _⟩
  · exact Ok.mk ⟨⟨Int.emod_nonneg _ (by omega), Int.emod_lt_of_pos _ h0⟩, ok2 _⟩

/-! #### figures of numbers -/
/-- how many binary places -/
def lg (n : Int) : Nat := if n ≤ 0 then 0 else Nat.log2 n.toNat + 1
theorem lg_le {n : Int} {k : Nat} (h : n < 2 ^ k) : lg n ≤ k := by
  unfold lg
  by_cases h0 : n ≤ 0
  · rw [if_pos h0]; exact Nat.zero_le _
  · rw [if_neg h0]
    have h1 : n.toNat < 2 ^ k := by
      have : ((2 ^ k : Nat) : Int) = 2 ^ k := by push_cast; rfl
      omega
    have := (Nat.log2_lt (n := n.toNat) (k := k) (by omega)).mpr h1
    omega
theorem lt_lg (n : Int) : n < 2 ^ lg n := by
  unfold lg
  by_cases h0 : n ≤ 0
  · rw [if_pos h0]; show n < 1; omega
  · rw [if_neg h0]
    have h1 := Nat.lt_log2_self (n := n.toNat)
    have : ((2 ^ (Nat.log2 n.toNat + 1) : Nat) : Int) = 2 ^ (Nat.log2 n.toNat + 1) := by push_cast; rfl
    omega
theorem lg_div {n b : Int} (hn : 0 < n) (hb : 2 ≤ b) : lg (n / b) < lg n := by
  have h1 := lt_lg n
  have hk : 0 < lg n := by unfold lg; rw [if_neg (by omega)]; omega
  obtain ⟨k, e⟩ : ∃ k, lg n = k + 1 := ⟨lg n - 1, by omega⟩
  rw [e] at h1 ⊢
  have h2 : n / b < 2 ^ k := by
    refine Int.ediv_lt_of_lt_mul (by omega) ?_
    have p : (0 : Int) ≤ 2 ^ k := Int.le_of_lt (Int.pow_pos (by decide))
    have := Int.mul_le_mul_of_nonneg_left hb p
    rw [Int.pow_succ] at h1
    omega
  have := lg_le h2
  omega

theorem ediv_lt_self {b n : Int} (hb : 2 ≤ b) (hn : 0 < n) : n / b < n := by
  refine Int.ediv_lt_of_lt_mul (by omega) ?_
  have := Int.mul_le_mul_of_nonneg_left hb (show 0 ≤ n by omega)
  omega
def digs (b n : Int) : List Int := if h : b < 2 ∨ n < b then [n] else digs b (n / b) ++ [n % b]
termination_by n.toNat
decreasing_by
  have h1 := ediv_lt_self (b := b) (n := n) (by omega) (by omega)
  have h2 : 0 ≤ n / b := Int.ediv_nonneg (by omega) (by omega)
  omega
theorem digs_lt {b n : Int} (h : n < b) : digs b n = [n] := by rw [digs, dif_pos (.inr h)]
theorem digs_ge {b n : Int} (hb : 2 ≤ b) (h : b ≤ n) : digs b n = digs b (n / b) ++ [n % b] := by rw [digs, dif_neg (by omega)]
theorem digs_step {b n : Int} (hb : 2 ≤ b) (hn : 0 ≤ n) : digs b n = (if 0 < n / b then digs b (n / b) else []) ++ [n % b] := by
  by_cases h : n < b
  · rw [digs_lt h, Int.ediv_eq_zero_of_lt hn h, Int.emod_eq_of_lt hn h]; rfl
  · have : 1 ≤ n / b := Int.le_ediv_of_mul_le (by omega) (by omega)
    rw [digs_ge hb (by omega), if_pos (show 0 < n / b by omega)]
/-- so many figures of n -/
def dp (b : Int) : Nat → Int → List Int
  | 0, _ => []
  | j + 1, n => (n / b ^ j) :: dp b j (n % b ^ j)
theorem emod_mul_ediv {n b c : Int} (hb : 0 < b) (hc : 0 < c) : (n % (b * c)) / b = (n / b) % c := by
  have h1 := Int.emod_add_mul_ediv n b
  have h2 := Int.emod_add_mul_ediv (n / b) c
  have r1 := Int.emod_nonneg n (show b ≠ 0 by omega)
  have r2 := Int.emod_lt_of_pos n hb
  have r3 := Int.emod_nonneg (n / b) (show c ≠ 0 by omega)
  have r4 := Int.emod_lt_of_pos (n / b) hc
  have e : n % (b * c) = n % b + b * ((n / b) % c) := by
    have := (Int.ediv_emod_unique (a := n) (b := b * c) (r := n % b + b * ((n / b) % c)) (q := n / b / c) (Int.mul_pos hb hc)).mpr ⟨by
      rw [Int.mul_assoc, Int.add_assoc, ← Int.mul_add, h2, h1], by
      have := Int.mul_nonneg (show (0 : Int) ≤ b by omega) r3
      omega, by
      have q1 : b * ((n / b) % c) ≤ b * (c - 1) := Int.mul_le_mul_of_nonneg_left (by omega) (by omega)
      rw [Int.mul_sub, Int.mul_one] at q1
      omega⟩
    exact this.2
  rw [e, Int.add_mul_ediv_left _ _ (by omega), Int.ediv_eq_zero_of_lt r1 r2, Int.zero_add]
theorem dp_snoc {b : Int} (hb : 0 < b) : ∀ (j : Nat) (n : Int), 0 ≤ n → n < b ^ (j + 1) → dp b (j + 1) n = dp b j (n / b) ++ [n % b]
  | 0, n, h0, h => by
    rw [Int.pow_succ, Int.pow_zero, Int.one_mul] at h
    show [n / b ^ 0] = [] ++ [n % b]
    rw [Int.pow_zero, Int.ediv_one, Int.emod_eq_of_lt h0 h]; rfl
  | j + 1, n, h0, h => by
    have hp : 0 < b ^ (j + 1) := Int.pow_pos hb
    show (n / b ^ (j + 1)) :: dp b (j + 1) (n % b ^ (j + 1)) = (n / b / b ^ j) :: dp b j (n / b % b ^ j) ++ [n % b]
    rw [dp_snoc hb j _ (Int.emod_nonneg _ (by omega)) (Int.emod_lt_of_pos _ hp), Int.pow_succ, Int.mul_comm (b ^ j) b, emod_mul_ediv hb (Int.pow_pos hb), Int.emod_emod_of_dvd n (Int.dvd_mul_right b (b ^ j)), Int.ediv_ediv_of_nonneg (by omega)]
    rfl
theorem dp_digs {b : Int} (hb : 2 ≤ b) : ∀ (j : Nat) (n : Int), 0 ≤ n → n < b ^ (j + 1) → (b ^ j ≤ n ∨ j = 0) → digs b n = dp b (j + 1) n
  | 0, n, h0, h, _ => by
    rw [Int.pow_succ, Int.pow_zero, Int.one_mul] at h
    rw [digs_lt h]
    show [n] = [n / b ^ 0]
    rw [Int.pow_zero, Int.ediv_one]
  | j + 1, n, h0, h, h1 => by
    have h2 : b ^ (j + 1) ≤ n := by rcases h1 with h | h; exact h; cases h
    have hbj : 0 < b ^ j := Int.pow_pos (by omega)
    have h3 : b ≤ n := by
      rw [Int.pow_succ] at h2
      have := Int.mul_le_mul_of_nonneg_right (show 1 ≤ b ^ j by omega) (show 0 ≤ b by omega)
      omega
    rw [digs_ge hb h3, dp_snoc (by omega) _ n h0 h, dp_digs hb j (n / b) (Int.ediv_nonneg h0 (by omega)) (Int.ediv_lt_of_lt_mul (by omega) (by rw [← Int.pow_succ]; exact h)) (.inl (Int.le_ediv_of_mul_le (by omega) (by rw [← Int.pow_succ]; exact h2)))]
theorem natAbs_lt {n : Int} {k : Nat} (h0 : 0 ≤ n) (h : n < 2 ^ k) : n.natAbs < 2 ^ k := by
  have : ((2 ^ k : Nat) : Int) = 2 ^ k := by push_cast; rfl
  omega
theorem pow_mono {b : Int} (hb : 1 ≤ b) {i j : Nat} (h : i ≤ j) : b ^ i ≤ b ^ j := by
  obtain ⟨k, rfl⟩ : ∃ k, j = i + k := ⟨j - i, by omega⟩
  induction k with
  | zero => exact Int.le_refl _
  | succ k ih =>
    have h1 := ih (by omega)
    have h2 : 0 < b ^ (i + k) := Int.pow_pos (by omega)
    rw [← Nat.add_assoc, Int.pow_succ]
    have := Int.mul_le_mul_of_nonneg_left hb (show 0 ≤ b ^ (i + k) by omega)
    omega
theorem one_lt_p {k : Nat} (h : k ≠ 0) : (1 : Int) < 2 ^ k := by
  have := Nat.one_lt_two_pow h
  have e : ((2 ^ k : Nat) : Int) = 2 ^ k := by push_cast; rfl
  omega
/-! #### bases, numbers -/
theorem is_whole_eq (x : Int) : is_whole x = some true := rfl
theorem is_base_eq {b : Int} (h : 2 ≤ b) (h2 : b ≤ 16) : is_base b = some true := by
  unfold is_base
  rw [is_whole_eq, Option.bind_some, if_pos rfl, if_pos (decide_eq_true h), decide_eq_true h2]
theorem need_base_eq {b : Int} (h : 2 ≤ b) (h2 : b ≤ 16) : need_base b = some () := by
  unfold need_base
  rw [is_base_eq h h2]; rfl
/-! #### lists of figures -/
def Figs (b : Int) (ds : List Int) : Prop := ∀ d ∈ ds, 0 ≤ d ∧ d < b
theorem Figs.nil {b : Int} : Figs b [] := fun d h => nomatch h
theorem Figs.app {b : Int} {x y : List Int} (h : Figs b x) (k : Figs b y) : Figs b (x ++ y) := fun d hd => (List.mem_append.mp hd).elim (h d) (k d)
theorem Figs.one {b d : Int} (h : 0 ≤ d ∧ d < b) : Figs b [d] := fun x hx => by rw [List.mem_singleton.mp hx]; exact h
theorem Figs.left {b : Int} {x y : List Int} (h : Figs b (x ++ y)) : Figs b x := fun d hd => h d (List.mem_append_left _ hd)
theorem Figs.right {b : Int} {x y : List Int} (h : Figs b (x ++ y)) : Figs b y := fun d hd => h d (List.mem_append_right _ hd)
theorem is_figure_eq {b x : Int} (h0 : 0 ≤ x) (h : x < b) : is_figure b x = some true := by
  unfold is_figure
  rw [is_whole_eq, Option.bind_some, if_pos rfl, if_pos (decide_eq_true h0), decide_eq_true h]
theorem are_figures_eq {b : Int} {ds : List Int} (h : Figs b ds) : are_figures b ds = some true := by
  unfold are_figures
  refine Ok.eq (forK_ok (P := fun s => s = []) rfl (fun s x next hx hP hN => ?_) (fun s hP => ?_))
  · subst hP
    rw [are_figures_c1, is_figure_eq (h x hx).1 (h x hx).2, Option.bind_some, if_neg (by decide)]
    exact hN _ rfl
  · subst hP
    rw [are_figures_k2]
    exact Ok.mk (eqT_iff.mpr rfl)
/-- the number of a list of figures -/
def val (b : Int) (ds : List Int) : Int := ds.foldl (fun a d => a * b + d) 0
theorem val_snoc (b : Int) (ds : List Int) (d : Int) : val b (ds ++ [d]) = val b ds * b + d := by unfold val; rw [List.foldl_append]; rfl
theorem val_rev_bound {b : Int} (hb : 0 < b) : ∀ rs : List Int, Figs b rs → 0 ≤ val b rs.reverse ∧ val b rs.reverse < b ^ rs.length
  | [], _ => ⟨Int.le_refl _, by show (0 : Int) < b ^ 0; rw [Int.pow_zero]; decide⟩
  | d :: rs, h => by
    obtain ⟨i1, i2⟩ := val_rev_bound hb rs fun x hx => h x (List.mem_cons_of_mem _ hx)
    obtain ⟨d1, d2⟩ := h d List.mem_cons_self
    rw [List.reverse_cons, val_snoc, List.length_cons, Int.pow_succ]
    have m1 := Int.mul_nonneg i1 (Int.le_of_lt hb)
    have m2 := Int.mul_le_mul_of_nonneg_right (show val b rs.reverse ≤ b ^ rs.length - 1 by omega) (Int.le_of_lt hb)
    rw [Int.sub_mul, Int.one_mul] at m2
    omega
theorem Figs.rev {b : Int} {ds : List Int} (h : Figs b ds) : Figs b ds.reverse := fun x hx => h x (List.mem_reverse.mp hx)
theorem val_bound {b : Int} (hb : 0 < b) {ds : List Int} (h : Figs b ds) : 0 ≤ val b ds ∧ val b ds < b ^ ds.length := by
  have := val_rev_bound hb ds.reverse h.rev
  rw [List.reverse_reverse, List.length_reverse] at this
  exact this
theorem val_cons_rev (b d : Int) : ∀ rs : List Int, val b (d :: rs.reverse) = d * b ^ rs.length + val b rs.reverse
  | [] => by
    show 0 * b + d = d * b ^ 0 + 0
    rw [Int.pow_zero, Int.zero_mul, Int.mul_one, Int.zero_add, Int.add_zero]
  | e :: rs => by
    rw [List.reverse_cons, ← List.cons_append, val_snoc, val_cons_rev b d rs, val_snoc, List.length_cons, Int.pow_succ, Int.add_mul, Int.mul_assoc, Int.add_assoc]
theorem val_cons (b d : Int) (ds : List Int) : val b (d :: ds) = d * b ^ ds.length + val b ds := by
  have := val_cons_rev b d ds.reverse
  rw [List.reverse_reverse, List.length_reverse] at this
  exact this
theorem pow16 {b : Int} (h0 : 0 ≤ b) (h : b ≤ 16) : ∀ n : Nat, b ^ n ≤ 2 ^ (4 * n)
  | 0 => by rw [Int.pow_zero, Nat.mul_zero, Int.pow_zero]; exact Int.le_refl _
  | n + 1 => by
    have i := pow16 h0 h n
    have p : (0 : Int) ≤ 2 ^ (4 * n) := Int.le_of_lt (Int.pow_pos (by decide))
    rw [Int.pow_succ, show 4 * (n + 1) = 4 * n + 4 from rfl, Int.pow_add]
    exact Int.mul_le_mul i (by omega) h0 p
theorem pow2_le {b : Int} (h : 2 ≤ b) : ∀ n : Nat, (2 : Int) ^ n ≤ b ^ n
  | 0 => by rw [Int.pow_zero, Int.pow_zero]; exact Int.le_refl _
  | n + 1 => by
    rw [Int.pow_succ, Int.pow_succ]
    exact Int.mul_le_mul (pow2_le h n) h (by decide) (Int.le_of_lt (Int.pow_pos (by omega)))
theorem val_lt {b : Int} (hb : 2 ≤ b) (h2 : b ≤ 16) {ds : List Int} (h : Figs b ds) {n : Nat} (hl : ds.length ≤ n) : (val b ds).natAbs < 2 ^ (4 * n + 1) := by
  obtain ⟨v1, v2⟩ := val_bound (by omega) h
  have := pow16 (by omega) h2 ds.length
  refine natAbs_lt v1 ?_
  have p1 : (2 : Int) ^ (4 * ds.length) ≤ 2 ^ (4 * n + 1) := pow_mono (by decide) (by omega)
  omega
theorem worth_eq {b : Int} (hb : 2 ≤ b) (h2 : b ≤ 16) {ds : List Int} (h : Figs b ds) (hl : ds.length ≤ 9000) : worth b ds = some (val b ds) := by
  unfold worth
  refine Ok.eq (forK_okI (P := fun pre s => s = val b pre) rfl (fun pre x post s next e hP hN => ?_) (fun s hP => ?_))
  · subst hP
    rw [worth_b1]
    subst e
    refine Ok.guard (Mv_of (val_lt hb h2 h.left (n := 9000) ?_) (natAbs_lt (k := 5) (by omega) (by omega)) (by decide) (by decide) (by decide)) (hN _ (val_snoc ..).symm)
    rw [List.length_append] at hl; omega
  · subst hP; rw [worth_e2]; exact Ok.mk rfl
theorem atI0 {α : Type} (x : α) (xs : List α) : atI (x :: xs) 0 = some x := by
  unfold atI ixN
  rw [if_pos (by decide), if_pos (by rw [List.length_cons]; omega)]
  rfl
theorem ixN_lt {n : Nat} {i : Int} (h0 : 0 ≤ i) (h : i < n) : ixN n i = some i.toNat := by
  unfold ixN
  rw [if_pos h0, if_pos h]
theorem atI_lt {α : Type} {xs : List α} {i : Int} (h0 : 0 ≤ i) (h : i < xs.length) : ∃ x, atI xs i = some x ∧ xs[i.toNat]? = some x ∧ x ∈ xs := by
  have hl : i.toNat < xs.length := by omega
  refine ⟨xs[i.toNat], ?_, List.getElem?_eq_getElem hl, List.getElem_mem hl⟩
  unfold atI
  rw [ixN_lt h0 h, Option.bind_some, List.getElem?_eq_getElem hl]
/-- figures of a number: no 0 ahead -/
def Num (b : Int) (ds : List Int) : Prop := ∃ d t, ds = d :: t ∧ (t = [] ∨ d ≠ 0) ∧ Figs b ds
theorem number_by_eq {b : Int} (hb : 2 ≤ b) (h2 : b ≤ 16) {ds : List Int} (h : Num b ds) (hl : ds.length ≤ 9000) : number_by b ds = some (val b ds) := by
  obtain ⟨d, t, rfl, hd, hf⟩ := h
  unfold number_by
  rw [need_base_eq hb h2, Option.bind_some, are_figures_eq hf, Option.bind_some, if_neg (by decide), if_neg (by rw [eqT_iff]; exact (fun z => nomatch z)), worth_eq hb h2 hf hl]
  refine Ok.eq (Ok.ite (fun hc => ?_) (fun _ => Ok.mk rfl))
  rw [atI0, Option.bind_some, if_neg]
  · exact Ok.mk rfl
  · rw [decide_eq_true_eq]
    rcases hd with rfl | hd
    · exact absurd (of_decide_eq_true hc) (by rw [List.length_singleton]; decide)
    · exact hd
/-! #### the law -/
theorem law_right_ok {b : Int} (hb : 2 ≤ b) (h2 : b ≤ 16) {ds : List Int} (h : Num b ds) (hl : ds.length ≤ 90) : _law_right b ds = some true := by
  have hf : Figs b ds := by obtain ⟨d, t, rfl, _, hf⟩ := h; exact hf
  unfold _law_right
  refine Ok.eq (forK_okI (P := fun pre s => s.1 = val b pre.reverse ∧ s.2 = b ^ pre.length) ⟨rfl, by show (1 : Int) = b ^ 0; rw [Int.pow_zero]⟩ (fun pre x post s next e hP hN => ?_) (fun s hP => ?_))
  · obtain ⟨x1, x2⟩ := s
    obtain ⟨rfl, rfl⟩ := hP
    have hx := hf.rev
    rw [e] at hx
    obtain ⟨hx0, hx1⟩ := hx x (List.mem_append_right _ List.mem_cons_self)
    have hl' : pre.length ≤ 90 := by
      have := congrArg List.length e
      rw [List.length_reverse, List.length_append] at this
      omega
    have hp : 0 < b ^ pre.length := Int.pow_pos (by omega)
    have hs : (b ^ pre.length).natAbs < 2 ^ 361 := natAbs_lt (by omega) (by
      have a1 := pow16 (by omega) h2 pre.length
      have a2 : (2 : Int) ^ (4 * pre.length) ≤ 2 ^ 360 := pow_mono (by decide) (by omega)
      have a3 : (2 : Int) ^ 360 < 2 ^ 361 := by decide
      omega)
    rw [_law_right_b1]
    refine Ok.guard (Mv_of hs (natAbs_lt (k := 5) (by omega) (by omega)) (by decide) (by decide) (by decide)) (Ok.guard (Mv_of hs (natAbs_lt (k := 5) (by omega) (by omega)) (by decide) (by decide) (by decide)) (hN _ ⟨?_, ?_⟩))
    · show val b pre.reverse + b ^ pre.length * x = val b (pre ++ [x]).reverse
      rw [List.reverse_append, List.reverse_singleton, List.singleton_append, val_cons_rev, Int.mul_comm, Int.add_comm]
    · show b ^ pre.length * b = b ^ (pre ++ [x]).length
      rw [List.length_append, List.length_singleton, Int.pow_succ]
  · obtain ⟨x1, x2⟩ := s
    obtain ⟨p1, _⟩ := hP
    have p1 : x1 = val b ds.reverse.reverse := p1
    rw [List.reverse_reverse] at p1
    subst p1
    rw [_law_right_e2]
    refine forK_ok (P := fun _ => True) trivial (fun s x next _ _ hN => ?_) fun s _ => Ok.mk rfl
    rw [_law_right_b3, number_by_eq hb h2 h (by omega), Option.bind_some, if_neg (by rw [decide_eq_true rfl]; decide), eqT_iff.mpr rfl, if_neg (by decide)]
    exact hN _ trivial
theorem some_figures_ok {st : DkS} {b : Int} (hb : 2 ≤ b) (h2 : b ≤ 16) (h : DkOk st) : Ok (_law_some_figures st b) fun p => (Num b p.1 ∧ p.1.length ≤ 90) ∧ DkOk p.2 := by
  have e26 : ((10 : Int) ^ (26 : Int).toNat) = 100000000000000000000000000 := by decide
  unfold _law_some_figures
  refine whileK_ok (P := fun s => ∃ j : Nat, s.1 = (j : Int) + 1 ∧ s.2.1 = b ^ (j + 1) ∧ j < 87 ∧ DkOk s.2.2) (fun s => (100 - s.1).toNat) (fun s next hP hN => ?_) _ _ ⟨0, rfl, by show b = b ^ (0 + 1); rw [Int.pow_succ, Int.pow_zero, Int.one_mul], by decide, h⟩ (by show (100 - (1 : Int)).toNat < fuel; decide)
  obtain ⟨x1, x2, st1⟩ := s
  obtain ⟨j, p1, p2, p3, p4⟩ := hP
  have p1 : x1 = (j : Int) + 1 := p1
  have p2 : x2 = b ^ (j + 1) := p2
  have p4 : DkOk st1 := p4
  have hp : 0 < b ^ (j + 1) := Int.pow_pos (by omega)
  have mv : Mv x2 b := by
    rw [p2]
    refine Mv_of (a := 361) (natAbs_lt (by omega) ?_) (natAbs_lt (k := 5) (by omega) (by omega)) (by decide) (by decide) (by decide)
    have a1 := pow16 (by omega) h2 (j + 1)
    have a2 : (2 : Int) ^ (4 * (j + 1)) ≤ 2 ^ 360 := pow_mono (by decide) (by omega)
    have a3 : (2 : Int) ^ 360 < 2 ^ 361 := by decide
    omega
  rw [_law_some_figures_w1, e26]
  refine Ok.guard mv (Ok.ite (fun hc => ?_) (fun _ => ?_))
  · have hc : x2 * b < 100000000000000000000000000 := of_decide_eq_true hc
    refine Ok.guard mv (hN _ ⟨j + 1, ?_, ?_, ?_, p4⟩ ?_)
    · show x1 + 1 = ((j + 1 : Nat) : Int) + 1
      rw [p1]; push_cast; rfl
    · show x2 * b = b ^ (j + 1 + 1)
      rw [p2, Int.pow_succ b (j + 1)]
    · rw [p2, ← Int.pow_succ] at hc
      apply Classical.byContradiction
      intro hn
      have a1 : (2 : Int) ^ 87 ≤ 2 ^ (j + 1 + 1) := pow_mono (by decide) (by omega)
      have a2 := pow2_le hb (j + 1 + 1)
      have a3 : (100000000000000000000000000 : Int) < 2 ^ 87 := by decide
      exact absurd (Int.lt_of_le_of_lt (Int.le_trans a1 a2) (Int.lt_trans hc a3)) (Int.lt_irrefl _)
    · show (100 - (x1 + 1)).toNat < (100 - x1).toNat
      omega
  · refine (draw_ok p4 (by decide) (by decide)).bind fun ⟨r1, st2⟩ ⟨⟨b1, b2⟩, h3⟩ => ?_
    have b1 : 0 ≤ r1 := b1
    have b2 : r1 < 4 := b2
    refine Ok.bind (P := fun x => 1 ≤ x ∧ x ≤ 90) ?_ fun x3 hx => ?_
    · rcases (show r1 = 0 ∨ r1 = 1 ∨ r1 = 2 ∨ r1 = 3 by omega) with rfl | rfl | rfl | rfl
      · exact ⟨_, rfl, by omega, by omega⟩
      · exact ⟨_, rfl, by omega, by omega⟩
      · exact ⟨_, rfl, by omega, by omega⟩
      · exact ⟨_, rfl, by omega, by omega⟩
    refine (draw_ok h3 (by omega) (by omega)).bind fun ⟨r2, st3⟩ ⟨⟨b3, b4⟩, h4⟩ => ?_
    have b3 : 0 ≤ r2 := b3
    have b4 : r2 < x3 := b4
    refine (draw_ok h4 (by decide) (by decide)).bind fun ⟨r3, st4⟩ ⟨⟨b5, b6⟩, h5⟩ => ?_
    have b5 : 0 ≤ r3 := b5
    have b6 : r3 < 4 := b6
    refine Ok.guard ⟨by omega, by omega⟩ ?_
    refine forK_okI (P := fun pre s => s.1.length = pre.length ∧ Figs b s.1 ∧ DkOk s.2) ⟨rfl, Figs.nil, h5⟩ (fun pre x post s next e hP hN => ?_) (fun s hP => ?_)
    · obtain ⟨x4, st5⟩ := s
      obtain ⟨q1, q2, q3⟩ := hP
      have q1 : x4.length = pre.length := q1
      have hl : pre.length < 90 := by
        have := congrArg List.length e
        rw [irange_len, List.length_append, List.length_cons] at this
        omega
      rw [_law_some_figures_b2]
      refine (draw_ok q3 (by omega) (by omega)).bind fun ⟨r4, st6⟩ ⟨⟨c1, c2⟩, h6⟩ => ?_
      have c1 : 0 ≤ r4 := c1
      have c2 : r4 < b := c2
      rw [if_neg (show ¬ b < 2 by omega)]
      refine (draw_ok h6 (by decide) (by decide)).bind fun ⟨r5, st7⟩ ⟨⟨c3, c4⟩, h7⟩ => ?_
      have c3 : 0 ≤ r5 := c3
      have c4 : r5 < 2 := c4
      refine Ok.bind (P := fun x => 0 ≤ x ∧ x < b) ?_ fun x5 hx5 => ?_
      · rcases (show r3 = 0 ∨ r3 = 1 ∨ r3 = 2 ∨ r3 = 3 by omega) with rfl | rfl | rfl | rfl
        · exact ⟨_, rfl, by omega, by omega⟩
        · exact ⟨_, rfl, by omega, by omega⟩
        · exact ⟨_, rfl, by omega, by omega⟩
        · exact ⟨_, rfl, by omega, by omega⟩
      refine Ok.guard (by omega) (hN _ ⟨?_, Figs.app q2 (Figs.one hx5), h7⟩)
      show (x4 ++ [x5]).length = (pre ++ [x]).length
      rw [List.length_append, List.length_append, q1]; rfl
    · obtain ⟨x4, st5⟩ := s
      obtain ⟨q1, q2, q3⟩ := hP
      have q1 : x4.length = (irange 0 (1 + r2)).length := q1
      have q2 : Figs b x4 := q2
      rw [irange_len] at q1
      obtain ⟨d, t, rfl⟩ : ∃ d t, x4 = d :: t := by
        cases x4 with
        | nil => rw [List.length_nil] at q1; omega
        | cons d t => exact ⟨d, t, rfl⟩
      rw [List.length_cons] at q1
      rw [_law_some_figures_e3, atI0, Option.bind_some]
      refine Ok.ite (fun hc => ?_) (fun hc => ?_)
      · refine (draw_ok q3 (by omega) (by omega)).bind fun ⟨r6, st9⟩ ⟨⟨c1, c2⟩, h6⟩ => ?_
        have c1 : 0 ≤ r6 := c1
        have c2 : r6 < b - 1 := c2
        dsimp only
        rw [ixN_lt (by decide) (by rw [List.length_cons]; omega), Option.bind_some]
        refine Ok.mk ⟨⟨⟨1 + r6, t, rfl, .inr (by omega), fun x hx => ?_⟩, ?_⟩, h6⟩
        · rcases List.mem_cons.mp (show x ∈ (1 + r6) :: t from hx) with e | e
          · omega
          · exact q2 x (List.mem_cons_of_mem _ e)
        · show t.length + 1 ≤ 90; omega
      · rw [decide_eq_true_eq] at hc
        exact Ok.mk ⟨⟨⟨d, t, rfl, .inr hc, q2⟩, by show t.length + 1 ≤ 90; omega⟩, q3⟩
theorem rep_flat (n : Nat) (x : Int) : (List.replicate n [x]).flatten = List.replicate n x := by
  induction n with
  | zero => rfl
  | succ n ih => rw [List.replicate_succ, List.flatten_cons, ih, List.replicate_succ]; rfl
theorem law_true (ns : List Int) : law ns = some true := by
  unfold law
  refine Ok.eq (forK_ok (P := DkOk) (mkDeck_ok ns) (fun st b next hb hst hN => ?_) fun st hst => ?_)
  · have hb := irange_mem.mp hb
    rw [law_b1]
    refine forK_ok (P := DkOk) hst (fun st2 x next2 hx hst2 hN2 => ?_) fun st2 hst2 => ?_
    · rw [law_b3]
      refine (some_figures_ok (by omega) (by omega) hst2).bind fun ⟨r1, st3⟩ ⟨⟨hr, hl⟩, h3⟩ => ?_
      have hr : Num b r1 := hr
      have hl : r1.length ≤ 90 := hl
      dsimp only
      rw [law_right_ok (by omega) (by omega) hr hl, Option.bind_some, if_neg (by decide)]
      obtain ⟨d, t, rfl, hd, hf⟩ := hr
      refine (draw_ok h3 (by rw [List.length_cons]; omega) (by omega)).bind fun ⟨r3, st4⟩ ⟨⟨c1, c2⟩, h4⟩ => ?_
      have c1 : 0 ≤ r3 := c1
      have c2 : r3 < ((d :: t).length : Int) := c2
      obtain ⟨x1, e1, e2, e3⟩ := atI_lt c1 c2
      have hx1 := hf x1 e3
      dsimp only
      rw [e1, Option.bind_some]
      refine Ok.guard (Dv_small (by omega) (by omega)) ?_
      rw [ixN_lt c1 c2, Option.bind_some]
      have f1 := Int.emod_nonneg (x1 + 1) (show b ≠ 0 by omega)
      have f2 := Int.emod_lt_of_pos (x1 + 1) (show 0 < b by omega)
      obtain ⟨y, hy⟩ : ∃ y, y = (if ((x1 + (1 : Int)) % b) > (if (decide (r3 = (0 : Int))) = true then (1 : Int) else 0) then ((x1 + (1 : Int)) % b) else (if (decide (r3 = (0 : Int))) = true then (1 : Int) else 0)) := ⟨_, rfl⟩
      rw [← hy]
      have y1 : 0 ≤ y ∧ y < b ∧ (r3 = 0 → y ≠ 0) := by
        by_cases z : r3 = 0
        · simp only [decide_eq_true z, ↓reduceIte] at hy
          split at hy <;> omega
        · simp only [decide_eq_false z, Bool.false_eq_true, ↓reduceIte] at hy
          split at hy <;> omega
      have hn : Num b ((d :: t).set r3.toNat y) := by
        have hfs : Figs b ((d :: t).set r3.toNat y) := fun z hz => by
          rcases List.mem_or_eq_of_mem_set hz with h | h
          · exact hf z h
          · rw [h]; exact ⟨y1.1, y1.2.1⟩
        by_cases z : r3 = 0
        · subst z
          exact ⟨y, t, rfl, .inr (y1.2.2 rfl), hfs⟩
        · obtain ⟨k, hk⟩ : ∃ k, r3.toNat = k + 1 := ⟨r3.toNat - 1, by omega⟩
          rw [hk] at hfs ⊢
          refine ⟨d, t.set k y, rfl, hd.imp (fun h => ?_) id, hfs⟩
          subst h; rfl
      rw [law_right_ok (by omega) (by omega) hn (by rw [List.length_set]; exact hl), Option.bind_some, if_neg (by decide)]
      exact hN2 _ h4
    · rw [law_e4]
      refine Ok.guard ⟨⟨by decide, by decide⟩, ?_⟩ (Ok.guard ⟨⟨by decide, by decide⟩, ?_⟩ (Ok.guard ?_ ?_))
      · rw [List.length_singleton]; decide
      · rw [List.length_singleton]; decide
      · rw [rep_flat, List.length_replicate, List.length_singleton]; decide
      · rw [rep_flat, rep_flat]
        refine forK_ok (P := DkOk) hst2 (fun st5 ds next3 hds hst5 hN3 => ?_) fun s hs => by rw [law_e6]; exact hN _ hs
        have fr : ∀ (n : Nat) (x : Int), 0 ≤ x ∧ x < b → Figs b (List.replicate n x) := fun n x hx y hy => by rw [(List.mem_replicate.mp hy).2]; exact hx
        have : Num b ds ∧ ds.length ≤ 90 := by
          simp only [List.mem_cons, List.not_mem_nil, or_false] at hds
          rcases hds with rfl | rfl | rfl | rfl
          · exact ⟨⟨0, [], rfl, .inl rfl, Figs.one (by omega)⟩, by decide⟩
          · exact ⟨⟨b - 1, [], rfl, .inl rfl, Figs.one (by omega)⟩, by show 1 ≤ 90; decide⟩
          · exact ⟨⟨b - 1, List.replicate 89 (b - 1), rfl, .inr (by omega), fr 90 _ (by omega)⟩, by rw [List.length_replicate]; decide⟩
          · exact ⟨⟨1, List.replicate 89 0, rfl, .inr (by decide), Figs.app (Figs.one (by omega)) (fr _ _ (by omega))⟩, by rw [List.length_append, List.length_replicate]; decide⟩
        rw [law_b5, law_right_ok (by omega) (by omega) this.1 this.2, Option.bind_some, if_neg (by decide)]
        exact hN3 _ hst5
  · rw [law_e2, number_by_eq (by decide) (by decide) ⟨1, [0, 1, 1], rfl, .inr (by decide), by unfold Figs; decide⟩ (by decide), Option.bind_some]
    exact Ok.mk (by decide)

theorem all_mk {l : PySem.W.OpenLaw} {w : World} {K : PySem.W.Frag} {h : Heap} {mg : Str → Option Value} {fa : Addr}
    (X : K.In h) (G : h.Ns mainGlobals mg) (hfa : mg "law" = some (.ref fa))
    {f__law_deck : Addr} {od__law_deck an__law_deck : Option Addr} {sl__law_deck : Array (Option Value)} {oc__law_deck kV__law_deck dc__law_deck pm__law_deck cd__law_deck ct__law_deck : Value}
    (a__law_deck : PySem.W.nsIn K mainGlobals "_law_deck" = some (some (.ref f__law_deck)))
    (l__law_deck : K.lookup f__law_deck = some ⟨oc__law_deck, od__law_deck, .func (PySem.W.fnOf "_law_deck" "_law_deck" (defArgs s__law_deck) (defBody s__law_deck) (defScope s__law_deck) .none kV__law_deck dc__law_deck pm__law_deck an__law_deck cd__law_deck ct__law_deck), sl__law_deck⟩)
    (c__law_deck : PySem.W.codeIn K cd__law_deck "_law_deck" = true) (k__law_deck : PySem.W.keepIn K (.ref f__law_deck) = true)
    {f__law_draw : Addr} {od__law_draw an__law_draw : Option Addr} {sl__law_draw : Array (Option Value)} {oc__law_draw kV__law_draw dc__law_draw pm__law_draw cd__law_draw ct__law_draw : Value}
    (a__law_draw : PySem.W.nsIn K mainGlobals "_law_draw" = some (some (.ref f__law_draw)))
    (l__law_draw : K.lookup f__law_draw = some ⟨oc__law_draw, od__law_draw, .func (PySem.W.fnOf "_law_draw" "_law_draw" (defArgs s__law_draw) (defBody s__law_draw) (defScope s__law_draw) .none kV__law_draw dc__law_draw pm__law_draw an__law_draw cd__law_draw ct__law_draw), sl__law_draw⟩)
    (c__law_draw : PySem.W.codeIn K cd__law_draw "_law_draw" = true) (k__law_draw : PySem.W.keepIn K (.ref f__law_draw) = true)
    {f_is_whole : Addr} {od_is_whole an_is_whole : Option Addr} {sl_is_whole : Array (Option Value)} {oc_is_whole kV_is_whole dc_is_whole pm_is_whole cd_is_whole ct_is_whole : Value}
    (a_is_whole : PySem.W.nsIn K mainGlobals "is_whole" = some (some (.ref f_is_whole)))
    (l_is_whole : K.lookup f_is_whole = some ⟨oc_is_whole, od_is_whole, .func (PySem.W.fnOf "is_whole" "is_whole" (defArgs s_is_whole) (defBody s_is_whole) (defScope s_is_whole) .none kV_is_whole dc_is_whole pm_is_whole an_is_whole cd_is_whole ct_is_whole), sl_is_whole⟩)
    (c_is_whole : PySem.W.codeIn K cd_is_whole "is_whole" = true) (k_is_whole : PySem.W.keepIn K (.ref f_is_whole) = true)
    {f_is_figure : Addr} {od_is_figure an_is_figure : Option Addr} {sl_is_figure : Array (Option Value)} {oc_is_figure kV_is_figure dc_is_figure pm_is_figure cd_is_figure ct_is_figure : Value}
    (a_is_figure : PySem.W.nsIn K mainGlobals "is_figure" = some (some (.ref f_is_figure)))
    (l_is_figure : K.lookup f_is_figure = some ⟨oc_is_figure, od_is_figure, .func (PySem.W.fnOf "is_figure" "is_figure" (defArgs s_is_figure) (defBody s_is_figure) (defScope s_is_figure) .none kV_is_figure dc_is_figure pm_is_figure an_is_figure cd_is_figure ct_is_figure), sl_is_figure⟩)
    (c_is_figure : PySem.W.codeIn K cd_is_figure "is_figure" = true) (k_is_figure : PySem.W.keepIn K (.ref f_is_figure) = true)
    {f_are_figures : Addr} {od_are_figures an_are_figures : Option Addr} {sl_are_figures : Array (Option Value)} {oc_are_figures kV_are_figures dc_are_figures pm_are_figures cd_are_figures ct_are_figures : Value}
    (a_are_figures : PySem.W.nsIn K mainGlobals "are_figures" = some (some (.ref f_are_figures)))
    (l_are_figures : K.lookup f_are_figures = some ⟨oc_are_figures, od_are_figures, .func (PySem.W.fnOf "are_figures" "are_figures" (defArgs s_are_figures) (defBody s_are_figures) (defScope s_are_figures) .none kV_are_figures dc_are_figures pm_are_figures an_are_figures cd_are_figures ct_are_figures), sl_are_figures⟩)
    (c_are_figures : PySem.W.codeIn K cd_are_figures "are_figures" = true) (k_are_figures : PySem.W.keepIn K (.ref f_are_figures) = true)
    {f_is_base : Addr} {od_is_base an_is_base : Option Addr} {sl_is_base : Array (Option Value)} {oc_is_base kV_is_base dc_is_base pm_is_base cd_is_base ct_is_base : Value}
    (a_is_base : PySem.W.nsIn K mainGlobals "is_base" = some (some (.ref f_is_base)))
    (l_is_base : K.lookup f_is_base = some ⟨oc_is_base, od_is_base, .func (PySem.W.fnOf "is_base" "is_base" (defArgs s_is_base) (defBody s_is_base) (defScope s_is_base) .none kV_is_base dc_is_base pm_is_base an_is_base cd_is_base ct_is_base), sl_is_base⟩)
    (c_is_base : PySem.W.codeIn K cd_is_base "is_base" = true) (k_is_base : PySem.W.keepIn K (.ref f_is_base) = true)
    {f_need_base : Addr} {od_need_base an_need_base : Option Addr} {sl_need_base : Array (Option Value)} {oc_need_base kV_need_base dc_need_base pm_need_base cd_need_base ct_need_base : Value}
    (a_need_base : PySem.W.nsIn K mainGlobals "need_base" = some (some (.ref f_need_base)))
    (l_need_base : K.lookup f_need_base = some ⟨oc_need_base, od_need_base, .func (PySem.W.fnOf "need_base" "need_base" (defArgs s_need_base) (defBody s_need_base) (defScope s_need_base) .none kV_need_base dc_need_base pm_need_base an_need_base cd_need_base ct_need_base), sl_need_base⟩)
    (c_need_base : PySem.W.codeIn K cd_need_base "need_base" = true) (k_need_base : PySem.W.keepIn K (.ref f_need_base) = true)
    {f_worth : Addr} {od_worth an_worth : Option Addr} {sl_worth : Array (Option Value)} {oc_worth kV_worth dc_worth pm_worth cd_worth ct_worth : Value}
    (a_worth : PySem.W.nsIn K mainGlobals "worth" = some (some (.ref f_worth)))
    (l_worth : K.lookup f_worth = some ⟨oc_worth, od_worth, .func (PySem.W.fnOf "worth" "worth" (defArgs s_worth) (defBody s_worth) (defScope s_worth) .none kV_worth dc_worth pm_worth an_worth cd_worth ct_worth), sl_worth⟩)
    (c_worth : PySem.W.codeIn K cd_worth "worth" = true) (k_worth : PySem.W.keepIn K (.ref f_worth) = true)
    {f_number_by : Addr} {od_number_by an_number_by : Option Addr} {sl_number_by : Array (Option Value)} {oc_number_by kV_number_by dc_number_by pm_number_by cd_number_by ct_number_by : Value}
    (a_number_by : PySem.W.nsIn K mainGlobals "number_by" = some (some (.ref f_number_by)))
    (l_number_by : K.lookup f_number_by = some ⟨oc_number_by, od_number_by, .func (PySem.W.fnOf "number_by" "number_by" (defArgs s_number_by) (defBody s_number_by) (defScope s_number_by) .none kV_number_by dc_number_by pm_number_by an_number_by cd_number_by ct_number_by), sl_number_by⟩)
    (c_number_by : PySem.W.codeIn K cd_number_by "number_by" = true) (k_number_by : PySem.W.keepIn K (.ref f_number_by) = true)
    {f__law_right : Addr} {od__law_right an__law_right : Option Addr} {sl__law_right : Array (Option Value)} {oc__law_right kV__law_right dc__law_right pm__law_right cd__law_right ct__law_right : Value}
    (a__law_right : PySem.W.nsIn K mainGlobals "_law_right" = some (some (.ref f__law_right)))
    (l__law_right : K.lookup f__law_right = some ⟨oc__law_right, od__law_right, .func (PySem.W.fnOf "_law_right" "_law_right" (defArgs s__law_right) (defBody s__law_right) (defScope s__law_right) .none kV__law_right dc__law_right pm__law_right an__law_right cd__law_right ct__law_right), sl__law_right⟩)
    (c__law_right : PySem.W.codeIn K cd__law_right "_law_right" = true) (k__law_right : PySem.W.keepIn K (.ref f__law_right) = true)
    {f__law_some_figures : Addr} {od__law_some_figures an__law_some_figures : Option Addr} {sl__law_some_figures : Array (Option Value)} {oc__law_some_figures kV__law_some_figures dc__law_some_figures pm__law_some_figures cd__law_some_figures ct__law_some_figures : Value}
    (a__law_some_figures : PySem.W.nsIn K mainGlobals "_law_some_figures" = some (some (.ref f__law_some_figures)))
    (l__law_some_figures : K.lookup f__law_some_figures = some ⟨oc__law_some_figures, od__law_some_figures, .func (PySem.W.fnOf "_law_some_figures" "_law_some_figures" (defArgs s__law_some_figures) (defBody s__law_some_figures) (defScope s__law_some_figures) .none kV__law_some_figures dc__law_some_figures pm__law_some_figures an__law_some_figures cd__law_some_figures ct__law_some_figures), sl__law_some_figures⟩)
    (c__law_some_figures : PySem.W.codeIn K cd__law_some_figures "_law_some_figures" = true) (k__law_some_figures : PySem.W.keepIn K (.ref f__law_some_figures) = true)
    {f_law : Addr} {od_law an_law : Option Addr} {sl_law : Array (Option Value)} {oc_law kV_law dc_law pm_law cd_law ct_law : Value}
    (a_law : PySem.W.nsIn K mainGlobals "law" = some (some (.ref f_law)))
    (l_law : K.lookup f_law = some ⟨oc_law, od_law, .func (PySem.W.fnOf "law" "law" (defArgs s_law) (defBody s_law) (defScope s_law) .none kV_law dc_law pm_law an_law cd_law ct_law), sl_law⟩)
    (c_law : PySem.W.codeIn K cd_law "law" = true) (k_law : PySem.W.keepIn K (.ref f_law) = true)
    {t_LEAST_BASE : Tok} (g_LEAST_BASE : PySem.W.nsIn K mainGlobals "LEAST_BASE" = some (some (.int 2 t_LEAST_BASE)))
    {t_MOST_BASE : Tok} (g_MOST_BASE : PySem.W.nsIn K mainGlobals "MOST_BASE" = some (some (.int 16 t_MOST_BASE)))
    (z_bool : PySem.W.nsIn K mainGlobals "bool" = some none)
    (z_int : PySem.W.nsIn K mainGlobals "int" = some none)
    (z_isinstance : PySem.W.nsIn K mainGlobals "isinstance" = some none)
    (z_len : PySem.W.nsIn K mainGlobals "len" = some none)
    (z_list : PySem.W.nsIn K mainGlobals "list" = some none)
    (z_max : PySem.W.nsIn K mainGlobals "max" = some none)
    (z_min : PySem.W.nsIn K mainGlobals "min" = some none)
    (z_range : PySem.W.nsIn K mainGlobals "range" = some none) :
    ∃ fd : FuncData, (∀ (s : Shared) (v : Value), BindsTo s fd ⟨[v], []⟩ [("script", v)]) ∧ ∀ base : Heap, K.In base → base.Ns mainGlobals mg → FnOk l.prog w K mg base CX0 6 fa fd ["script"] (sp_law K) := by
  have e := hfa.symm.trans (PySem.W.mg_of X G a_law)
  cases e
  let T : Txt K mg := {
    f__law_deck := ⟨_, _, fun_mk l__law_deck c__law_deck k__law_deck, PySem.W.mg_of X G a__law_deck, (fun_mk (st := s__law_deck) l__law_deck c__law_deck k__law_deck).binds (ps := ["script"]) (fun _ _ _ _ _ _ us hl => match us, hl with | [_], _ => rfl)⟩,
    f__law_draw := ⟨_, _, fun_mk l__law_draw c__law_draw k__law_draw, PySem.W.mg_of X G a__law_draw, (fun_mk (st := s__law_draw) l__law_draw c__law_draw k__law_draw).binds (ps := ["deck", "many"]) (fun _ _ _ _ _ _ us hl => match us, hl with | [_, _], _ => rfl)⟩,
    f_is_whole := ⟨_, _, fun_mk l_is_whole c_is_whole k_is_whole, PySem.W.mg_of X G a_is_whole, (fun_mk (st := s_is_whole) l_is_whole c_is_whole k_is_whole).binds (ps := ["thing"]) (fun _ _ _ _ _ _ us hl => match us, hl with | [_], _ => rfl)⟩,
    f_is_figure := ⟨_, _, fun_mk l_is_figure c_is_figure k_is_figure, PySem.W.mg_of X G a_is_figure, (fun_mk (st := s_is_figure) l_is_figure c_is_figure k_is_figure).binds (ps := ["base", "thing"]) (fun _ _ _ _ _ _ us hl => match us, hl with | [_, _], _ => rfl)⟩,
    f_are_figures := ⟨_, _, fun_mk l_are_figures c_are_figures k_are_figures, PySem.W.mg_of X G a_are_figures, (fun_mk (st := s_are_figures) l_are_figures c_are_figures k_are_figures).binds (ps := ["base", "thing"]) (fun _ _ _ _ _ _ us hl => match us, hl with | [_, _], _ => rfl)⟩,
    f_is_base := ⟨_, _, fun_mk l_is_base c_is_base k_is_base, PySem.W.mg_of X G a_is_base, (fun_mk (st := s_is_base) l_is_base c_is_base k_is_base).binds (ps := ["thing"]) (fun _ _ _ _ _ _ us hl => match us, hl with | [_], _ => rfl)⟩,
    f_need_base := ⟨_, _, fun_mk l_need_base c_need_base k_need_base, PySem.W.mg_of X G a_need_base, (fun_mk (st := s_need_base) l_need_base c_need_base k_need_base).binds (ps := ["thing"]) (fun _ _ _ _ _ _ us hl => match us, hl with | [_], _ => rfl)⟩,
    f_worth := ⟨_, _, fun_mk l_worth c_worth k_worth, PySem.W.mg_of X G a_worth, (fun_mk (st := s_worth) l_worth c_worth k_worth).binds (ps := ["base", "figures"]) (fun _ _ _ _ _ _ us hl => match us, hl with | [_, _], _ => rfl)⟩,
    f_number_by := ⟨_, _, fun_mk l_number_by c_number_by k_number_by, PySem.W.mg_of X G a_number_by, (fun_mk (st := s_number_by) l_number_by c_number_by k_number_by).binds (ps := ["base", "figures"]) (fun _ _ _ _ _ _ us hl => match us, hl with | [_, _], _ => rfl)⟩,
    f__law_right := ⟨_, _, fun_mk l__law_right c__law_right k__law_right, PySem.W.mg_of X G a__law_right, (fun_mk (st := s__law_right) l__law_right c__law_right k__law_right).binds (ps := ["base", "handed"]) (fun _ _ _ _ _ _ us hl => match us, hl with | [_, _], _ => rfl)⟩,
    f__law_some_figures := ⟨_, _, fun_mk l__law_some_figures c__law_some_figures k__law_some_figures, PySem.W.mg_of X G a__law_some_figures, (fun_mk (st := s__law_some_figures) l__law_some_figures c__law_some_figures k__law_some_figures).binds (ps := ["deck", "base"]) (fun _ _ _ _ _ _ us hl => match us, hl with | [_, _], _ => rfl)⟩,
    f_law := ⟨_, _, fun_mk l_law c_law k_law, PySem.W.mg_of X G a_law, (fun_mk (st := s_law) l_law c_law k_law).binds (ps := ["script"]) (fun _ _ _ _ _ _ us hl => match us, hl with | [_], _ => rfl)⟩,
    c_LEAST_BASE := ⟨t_LEAST_BASE, PySem.W.mg_of X G g_LEAST_BASE⟩,
    c_MOST_BASE := ⟨t_MOST_BASE, PySem.W.mg_of X G g_MOST_BASE⟩,
    z_bool := PySem.W.mg_none_of X G z_bool,
    z_int := PySem.W.mg_none_of X G z_int,
    z_isinstance := PySem.W.mg_none_of X G z_isinstance,
    z_len := PySem.W.mg_none_of X G z_len,
    z_list := PySem.W.mg_none_of X G z_list,
    z_max := PySem.W.mg_none_of X G z_max,
    z_min := PySem.W.mg_none_of X G z_min,
    z_range := PySem.W.mg_none_of X G z_range }
  exact ⟨T.f_law.fd, fun s v => .of_eq rfl, fun base _ _ => ok_law T⟩
end My
open PySem PySem.W PyProof.Rows
set_option maxHeartbeats 0 in
theorem PySem.Challenge.cw_lackstretch_k02_numbers_of_figures_holds : PySem.Challenge.rw_lackstretch_k02_numbers_of_figures.Holds := by
  w_on; o_law; k_head; (case hw => w_witness2)
  k_fill
  refine L2.walk_of (l := PySem.Challenge.rw_lackstretch_k02_numbers_of_figures) (n := 63) (k := 6) (x := "script") (CX := fun _ => L2.CX0) (sp := fun w => My.sp_law _) rfl (by decide) rfl ⟨rfl, by decide, by decide⟩ (fun w h Y => PySem.W.kIn_of Y) ?F (fun _ _ a ns hl _ hS => ⟨a, ns, rfl, hS, My.law_true ns, fun _ => rfl⟩) (fun _ _ _ _ _ h => h)
  case F =>
    intro w mg fa h KX G hmg
    refine' My.all_mk KX G hmg ?a__law_deck ?l__law_deck ?c__law_deck ?k__law_deck ?a__law_draw ?l__law_draw ?c__law_draw ?k__law_draw ?a_is_whole ?l_is_whole ?c_is_whole ?k_is_whole ?a_is_figure ?l_is_figure ?c_is_figure ?k_is_figure ?a_are_figures ?l_are_figures ?c_are_figures ?k_are_figures ?a_is_base ?l_is_base ?c_is_base ?k_is_base ?a_need_base ?l_need_base ?c_need_base ?k_need_base ?a_worth ?l_worth ?c_worth ?k_worth ?a_number_by ?l_number_by ?c_number_by ?k_number_by ?a__law_right ?l__law_right ?c__law_right ?k__law_right ?a__law_some_figures ?l__law_some_figures ?c__law_some_figures ?k__law_some_figures ?a_law ?l_law ?c_law ?k_law ?g_LEAST_BASE ?g_MOST_BASE ?z_bool ?z_int ?z_isinstance ?z_len ?z_list ?z_max ?z_min ?z_range
    (case a__law_deck => k_is); (case l__law_deck => k_is); (case c__law_deck => k_is); (case k__law_deck => k_is); (case a__law_draw => k_is); (case l__law_draw => k_is); (case c__law_draw => k_is); (case k__law_draw => k_is); (case a_is_whole => k_is); (case l_is_whole => k_is); (case c_is_whole => k_is); (case k_is_whole => k_is); (case a_is_figure => k_is); (case l_is_figure => k_is); (case c_is_figure => k_is); (case k_is_figure => k_is); (case a_are_figures => k_is); (case l_are_figures => k_is); (case c_are_figures => k_is); (case k_are_figures => k_is); (case a_is_base => k_is); (case l_is_base => k_is); (case c_is_base => k_is); (case k_is_base => k_is); (case a_need_base => k_is); (case l_need_base => k_is); (case c_need_base => k_is); (case k_need_base => k_is); (case a_worth => k_is); (case l_worth => k_is); (case c_worth => k_is); (case k_worth => k_is); (case a_number_by => k_is); (case l_number_by => k_is); (case c_number_by => k_is); (case k_number_by => k_is); (case a__law_right => k_is); (case l__law_right => k_is); (case c__law_right => k_is); (case k__law_right => k_is); (case a__law_some_figures => k_is); (case l__law_some_figures => k_is); (case c__law_some_figures => k_is); (case k__law_some_figures => k_is); (case a_law => k_is); (case l_law => k_is); (case c_law => k_is); (case k_law => k_is); (case g_LEAST_BASE => k_is); (case g_MOST_BASE => k_is); (case z_bool => k_is); (case z_int => k_is); (case z_isinstance => k_is); (case z_len => k_is); (case z_list => k_is); (case z_max => k_is); (case z_min => k_is); (case z_range => k_is)
