import PyProof.Rows.All
import Wide.All
import OpenK.AllK
import Wide.FinOn
import HandS.ForMost
import HandS.Wide
import HandS.WideMore
import HandS.Style
import HandS.Evl
import HandS.Deep
import HandS.SortOrd
import HandS.IsInst
import HandS.TupLe
import HandS.TupAny
import HandS.Conv
import HandS.More
import KE.SortData
import KE.DataCmp
import PySem.Challenge.RW_lackstretch_k08_all_stands_and_steps
set_option Elab.async false
set_option linter.all false
set_option maxRecDepth 100000
set_option maxHeartbeats 4000000
/-! ### my base: typed data in the heap -/
namespace My
open PySem PySem.Spec PyProof.Rows L2

/-! #### data that stands in a frozen heap -/
mutual
inductive RD (F : Hp) : V → PyData → Prop
  | non : RD F .non .none
  | bl (b : Bool) : RD F (.bl b) (.bool b)
  | int (i : Int) : RD F (.int i) (.int i)
  | str (x : Str) : RD F (.str x) (.str x)
  | lst {a : Addr} {us : List V} {ds : List PyData} : F a = some (.lst us) → RDs F us ds → RD F (.ref a) (.list ds)
  | tup {a : Addr} {us : List V} {ds : List PyData} : F a = some (.tup us) → RDs F us ds → RD F (.ref a) (.tuple ds)
inductive RDs (F : Hp) : List V → List PyData → Prop
  | nil : RDs F [] []
  | cons {v : V} {us : List V} {d : PyData} {ds : List PyData} : RD F v d → RDs F us ds → RDs F (v :: us) (d :: ds)
end

def Sub (F H : Hp) : Prop := ∀ a o, F a = some o → H a = some o
theorem Sub.refl (H : Hp) : Sub H H := fun _ _ h => h
theorem Sub.trans {H H1 H2 : Hp} (a : Sub H H1) (b : Sub H1 H2) : Sub H H2 := fun x o h => b x o (a x o h)
theorem Sub.new {H : Hp} {p : Addr} {o : HO} (h : H p = none) : Sub H (upd H p o) := fun a u e => by
  rw [upd_ne (ne_of_none e h)]; exact e
theorem Sub.upd {F H : Hp} {p : Addr} {o : HO} (s : Sub F H) : Sub (upd F p o) (upd H p o) := fun a u e => by
  by_cases h : a = p
  · subst h; rw [upd_same] at e ⊢; exact e
  · rw [upd_ne h] at e ⊢; exact s a u e
theorem Sub.mut {F H : Hp} {p : Addr} {o : HO} (s : Sub F H) (h : F p = none) : Sub F (L2.upd H p o) := fun a u e => by
  rw [upd_ne (ne_of_none e h)]; exact s a u e
theorem Sub.none {F H : Hp} {p : Addr} (s : Sub F H) (h : H p = none) : F p = none := by
  cases e : F p with
  | none => rfl
  | some o => rw [s p o e] at h; cases h

mutual
theorem RD.mono {F N : Hp} (s : Sub F N) : ∀ {d : PyData} {v : V}, RD F v d → RD N v d
  | _, _, .non => .non
  | _, _, .bl b => .bl b
  | _, _, .int i => .int i
  | _, _, .str x => .str x
  | _, _, .lst h r => .lst (s _ _ h) (RDs.mono s r)
  | _, _, .tup h r => .tup (s _ _ h) (RDs.mono s r)
theorem RDs.mono {F N : Hp} (s : Sub F N) : ∀ {ds : List PyData} {us : List V}, RDs F us ds → RDs N us ds
  | _, _, .nil => .nil
  | _, _, .cons h r => .cons (RD.mono s h) (RDs.mono s r)
end
mutual
theorem RD.dp {F H : Hp} {K : PySem.W.Frag} (s : Sub F H) : ∀ {d : PyData} {v : V}, RD F v d → Dp K H v d
  | _, _, .non => .non
  | _, _, .bl b => .bl b
  | _, _, .int i => .int i
  | _, _, .str x => .str x
  | _, _, .lst h r => .lst (.inl (.inl (s _ _ h))) (RDs.dp s r)
  | _, _, .tup h r => .tup (.inl (.inl (s _ _ h))) (RDs.dp s r)
theorem RDs.dp {F H : Hp} {K : PySem.W.Frag} (s : Sub F H) : ∀ {ds : List PyData} {us : List V}, RDs F us ds → DpAll K H us ds
  | _, _, .nil => .nil
  | _, _, .cons h r => .cons (RD.dp s h) (RDs.dp s r)
end
theorem RDs.len {F : Hp} : ∀ {us : List V} {ds : List PyData}, RDs F us ds → us.length = ds.length
  | _, _, .nil => rfl
  | _, _, .cons _ r => by simp [RDs.len r]
theorem RDs.append {F : Hp} : ∀ {us ws : List V} {ds es : List PyData}, RDs F us ds → RDs F ws es → RDs F (us ++ ws) (ds ++ es)
  | _, _, _, _, .nil, s => s
  | _, _, _, _, .cons h r, s => .cons h (RDs.append r s)
theorem RDs.get {F : Hp} : ∀ {us : List V} {ds : List PyData} {i : Nat} {d : PyData}, RDs F us ds → ds[i]? = some d → ∃ u, us[i]? = some u ∧ RD F u d
  | _, _, _, _, .nil, e => by simp at e
  | _, _, 0, _, .cons h _, e => by simp at e; subst e; exact ⟨_, rfl, h⟩
  | _, _, i + 1, _, .cons _ r, e => by
    obtain ⟨u, h1, h2⟩ := RDs.get (i := i) r (by simpa using e)
    exact ⟨u, by simpa using h1, h2⟩
theorem RDs.get' {F : Hp} {us : List V} {ds : List PyData} {i : Nat} {u : V} (r : RDs F us ds) (e : us[i]? = some u) : ∃ d, ds[i]? = some d ∧ RD F u d := by
  have hl := r.len
  have h1 : i < us.length := (List.getElem?_eq_some_iff.mp e).1
  obtain ⟨u', e', h⟩ := r.get (i := i) (d := ds[i]'(by omega)) (List.getElem?_eq_getElem (by omega))
  rw [e] at e'; cases e'
  exact ⟨_, List.getElem?_eq_getElem (by omega), h⟩
theorem RDs.take {F : Hp} : ∀ {us : List V} {ds : List PyData} (n : Nat), RDs F us ds → RDs F (us.take n) (ds.take n)
  | _, _, 0, _ => by simp; exact .nil
  | _, _, _ + 1, .nil => .nil
  | _, _, n + 1, .cons h r => .cons h (RDs.take n r)
theorem RDs.drop {F : Hp} : ∀ {us : List V} {ds : List PyData} (n : Nat), RDs F us ds → RDs F (us.drop n) (ds.drop n)
  | _, _, 0, r => r
  | _, _, _ + 1, .nil => .nil
  | _, _, n + 1, .cons _ r => RDs.drop n r
theorem RDs.reverse {F : Hp} {us : List V} {ds : List PyData} (r : RDs F us ds) : RDs F us.reverse ds.reverse := by
  induction us generalizing ds with
  | nil => cases r; exact .nil
  | cons u us ih =>
    cases r with
    | cons h r => rw [List.reverse_cons, List.reverse_cons]; exact (ih r).append (.cons h .nil)
theorem RDs.set {F : Hp} : ∀ {us : List V} {ds : List PyData} {u : V} {d : PyData} (n : Nat), RDs F us ds → RD F u d → RDs F (us.set n u) (ds.set n d)
  | _, _, _, _, _, .nil, _ => .nil
  | _, _, _, _, 0, .cons _ r, h => .cons h r
  | _, _, _, _, n + 1, .cons h' r, h => .cons h' (RDs.set n r h)
theorem RDs.eraseIdx {F : Hp} : ∀ {us : List V} {ds : List PyData} (n : Nat), RDs F us ds → RDs F (us.eraseIdx n) (ds.eraseIdx n)
  | _, _, _, .nil => by simp; exact .nil
  | _, _, 0, .cons _ r => r
  | _, _, n + 1, .cons h r => .cons h (RDs.eraseIdx n r)

/-! #### typed data -/
class TD (α : Type) where
  d : α → PyData
  dep : Nat
  lay : ∀ x, (d x).canLay0 = true
  dle : ∀ x, (d x).depth ≤ dep
instance : TD Int := ⟨.int, 0, fun _ => rfl, fun _ => Nat.zero_le _⟩
instance : TD Bool := ⟨.bool, 0, fun _ => rfl, fun _ => Nat.zero_le _⟩
instance : TD Unit := ⟨fun _ => .none, 0, fun _ => rfl, fun _ => Nat.zero_le _⟩
theorem layAll {α : Type} [TD α] : ∀ xs : List α, PyData.canLayAll0 (xs.map TD.d) = true
  | [] => by simp [PyData.canLayAll0]
  | x :: xs => by simp [PyData.canLayAll0, TD.lay x, layAll xs]
theorem depAll {α : Type} [TD α] : ∀ xs : List α, PyData.depthAll (xs.map TD.d) ≤ TD.dep α
  | [] => by simp [PyData.depthAll]
  | x :: xs => by
    have h1 := depAll xs
    have h2 := TD.dle x
    simp only [List.map_cons, PyData.depthAll]
    omega
instance {α : Type} [TD α] : TD (List α) := ⟨fun xs => .list (xs.map TD.d), TD.dep α + 1, fun xs => by simp only [PyData.canLay0]; exact layAll xs, fun xs => by
  have := depAll xs
  simp only [PyData.depth]; omega⟩
instance {α β : Type} [TD α] [TD β] : TD (α × β) := ⟨fun p => .tuple [TD.d p.1, TD.d p.2], TD.dep α + TD.dep β + 1, fun p => by simp [PyData.canLay0, PyData.canLayAll0, TD.lay], fun p => by
  have h1 := TD.dle p.1
  have h2 := TD.dle p.2
  simp only [PyData.depth, PyData.depthAll]; omega⟩
instance {α : Type} [TD α] : TD (Option α) := ⟨fun o => match o with | some x => TD.d x | none => .none, TD.dep α, fun o => by cases o; exact rfl; exact TD.lay _, fun o => by cases o; exact Nat.zero_le _; exact TD.dle _⟩
abbrev R {α : Type} [TD α] (F : Hp) (v : V) (x : α) : Prop := RD F v (TD.d x)
abbrev Rs {α : Type} [TD α] (F : Hp) (us : List V) (xs : List α) : Prop := RDs F us (xs.map TD.d)


theorem TD.shaped {α : Type} [TD α] (h : TD.dep α ≤ 60) (x : α) : SeqAt.shaped (TD.d x) = true := by
  have h1 := TD.dle x
  show ((TD.d x).canLay0 && decide ((TD.d x).depth ≤ 64)) = true
  rw [Bool.and_eq_true]
  exact ⟨TD.lay x, decide_eq_true (by omega)⟩
class TE' (α : Type) [TD α] where
  eqv : ∀ x y : α, PyData.eqv (TD.d x) (TD.d y) = true ↔ x = y
def eqT {α : Type} [TD α] (x y : α) : Bool := PyData.eqv (TD.d x) (TD.d y)
def memT {α : Type} [TD α] (x : α) (xs : List α) : Bool := xs.any fun y => eqT y x
theorem eqT_iff {α : Type} [TD α] [TE' α] {x y : α} : eqT x y = true ↔ x = y := TE'.eqv x y
theorem eqT_no {α : Type} [TD α] [TE' α] {x y : α} : eqT x y = false ↔ x ≠ y := by rw [← Bool.not_eq_true, eqT_iff]
theorem memT_iff {α : Type} [TD α] [TE' α] {x : α} {xs : List α} : memT x xs = true ↔ x ∈ xs := by
  unfold memT
  rw [List.any_eq_true]
  exact ⟨fun ⟨y, h1, h2⟩ => by rw [← eqT_iff.mp h2]; exact h1, fun h => ⟨x, h, eqT_iff.mpr rfl⟩⟩
theorem memT_no {α : Type} [TD α] [TE' α] {x : α} {xs : List α} : memT x xs = false ↔ x ∉ xs := by rw [← Bool.not_eq_true, memT_iff]
theorem eqvT {α : Type} [TD α] (x y : α) : PyData.eqv (TD.d x) (TD.d y) = eqT x y := rfl
instance : TE' Int := ⟨fun x y => by show (x == y) = true ↔ _; simp⟩
instance : TE' Bool := ⟨fun x y => by show (x == y) = true ↔ _; simp⟩
instance : TE' Unit := ⟨fun x y => by simp [TD.d, PyData.eqv]⟩
theorem eqvAll_map {α : Type} [TD α] [TE' α] : ∀ xs ys : List α, PyData.eqvAll (xs.map TD.d) (ys.map TD.d) = true ↔ xs = ys
  | [], [] => by simp [PyData.eqvAll]
  | [], y :: ys => by simp [PyData.eqvAll]
  | x :: xs, [] => by simp [PyData.eqvAll]
  | x :: xs, y :: ys => by
    simp only [List.map_cons, PyData.eqvAll, Bool.and_eq_true, eqvAll_map xs ys, TE'.eqv, List.cons.injEq]
instance {α : Type} [TD α] [TE' α] : TE' (List α) := ⟨fun xs ys => by
  show PyData.eqv (.list _) (.list _) = true ↔ _
  simp only [PyData.eqv]; exact eqvAll_map xs ys⟩
instance {α β : Type} [TD α] [TE' α] [TD β] [TE' β] : TE' (α × β) := ⟨fun p q => by
  show PyData.eqv (.tuple [_, _]) (.tuple [_, _]) = true ↔ _
  obtain ⟨a, b⟩ := p; obtain ⟨c, e⟩ := q
  simp [PyData.eqv, PyData.eqvAll, TE'.eqv]⟩
/-- data that is never None -/
class NN (α : Type) [TD α] where
  nn : ∀ x : α, (PyData.eqv (TD.d x) .none = false ∧ PyData.eqv .none (TD.d x) = false) ∧ TD.d x ≠ .none
instance : NN Int := ⟨fun _ => ⟨⟨rfl, rfl⟩, fun h => nomatch h⟩⟩
instance : NN Bool := ⟨fun _ => ⟨⟨rfl, rfl⟩, fun h => nomatch h⟩⟩
instance {α : Type} [TD α] : NN (List α) := ⟨fun _ => ⟨⟨rfl, rfl⟩, fun h => nomatch h⟩⟩
instance {α β : Type} [TD α] [TD β] : NN (α × β) := ⟨fun _ => ⟨⟨rfl, rfl⟩, fun h => nomatch h⟩⟩
instance {α : Type} [TD α] [TE' α] [NN α] : TE' (Option α) := ⟨fun p q => by
  cases p with
  | none => cases q with
    | none => show PyData.eqv .none .none = true ↔ _; simp [PyData.eqv]
    | some y => show PyData.eqv .none (TD.d y) = true ↔ _; rw [(NN.nn y).1.2]; simp
  | some x => cases q with
    | none => show PyData.eqv (TD.d x) .none = true ↔ _; rw [(NN.nn x).1.1]; simp
    | some y => show PyData.eqv (TD.d x) (TD.d y) = true ↔ _; rw [TE'.eqv]; simp⟩

/-! #### how heaps grow -/
abbrev NA : Addr → Prop := fun _ => False
structure Gr (A : Addr → Prop) (F H N H' : Hp) : Prop where
  keep : ∀ a o, ¬ A a → H a = some o → H' a = some o
  there : ∀ a, H a ≠ none → H' a ≠ none
  ex : Sub F N
  sub : Sub N H'
  own : ∀ a, H a ≠ none → F a = none → N a = none
section
variable {A : Addr → Prop} {F0 H0 F H N H' : Hp} {p : Addr} {o : HO} {us : List V}
theorem Gr.refl (s : Sub F H) : Gr A F H F H := ⟨fun _ _ _ h => h, fun _ h => h, Sub.refl F, s, fun _ _ h => h⟩
theorem Gr.trans (G : Gr A F0 H0 F H) (g : Gr A F H N H') : Gr A F0 H0 N H' :=
  ⟨fun a o na h => g.keep a o na (G.keep a o na h), fun a h => g.there a (G.there a h), G.ex.trans g.ex, g.sub, fun a h f => g.own a (G.there a h) (G.own a h f)⟩
theorem Gr.na (g : Gr NA F H N H') : Gr A F H N H' := ⟨fun a o _ h => g.keep a o id h, g.there, g.ex, g.sub, g.own⟩
theorem Gr.step (G : Gr A F0 H0 F H) (g : Gr NA F H N H') : Gr A F0 H0 N H' := G.trans g.na
theorem Gr.fresh (G : Gr A F0 H0 F H) (hp : H p = none) : H0 p = none := by
  cases e : H0 p with
  | none => rfl
  | some o => exact absurd hp (G.there p (by rw [e]; exact (fun z => nomatch z)))
theorem Gr.new (s : Sub F H) (hp : H p = none) : Gr NA F H (upd F p o) (upd H p o) :=
  ⟨fun a u _ h => Sub.new hp a u h, fun a h => by
    cases e : H a with
    | none => exact absurd e h
    | some u => rw [Sub.new hp a u e]; exact (fun z => nomatch z), Sub.new (s.none hp), s.upd, fun a h f => by
    have : a ≠ p := fun z => by subst z; exact h hp
    rw [upd_ne this]; exact f⟩
theorem Gr.newO (s : Sub F H) (hp : H p = none) : Gr NA F H F (upd H p o) :=
  ⟨fun a u _ h => Sub.new hp a u h, fun a h => by
    cases e : H a with
    | none => exact absurd e h
    | some u => rw [Sub.new hp a u e]; exact (fun z => nomatch z), Sub.refl F, s.trans (Sub.new hp), fun a h f => f⟩
theorem Gr.mut (G : Gr A F0 H0 F H) (h0 : H0 p = none) (f : F p = none) : Gr A F0 H0 F (upd H p o) :=
  ⟨fun a u na h => by rw [upd_ne (ne_of_none h h0)]; exact G.keep a u na h, fun a h => by
    by_cases e : a = p
    · subst e; rw [upd_same]; exact (fun z => nomatch z)
    · rw [upd_ne e]; exact G.there a h, G.ex, G.sub.mut f, G.own⟩
theorem Gr.frz (G : Gr A F0 H0 F H) (ho : H p = some o) (h0 : H0 p = none) (f : F p = none) : Gr A F0 H0 (upd F p o) H :=
  ⟨G.keep, G.there, G.ex.trans (Sub.new f), fun a u e => by
    by_cases z : a = p
    · subst z; rw [upd_same] at e; cases e; exact ho
    · rw [upd_ne z] at e; exact G.sub a u e, fun a h e => by
    have : a ≠ p := fun z => by subst z; exact h h0
    rw [upd_ne this]; exact G.own a h e⟩
/-- a flat answer: the frozen part may stay as it was -/
theorem Gr.flat {Fc : Hp} (g : Gr NA Fc H N H') (s : Sub F H) : Gr NA F H F H' := ⟨g.keep, g.there, Sub.refl F, fun a o e => g.keep a o id (s a o e), fun _ _ f => f⟩
/-- an owned list -/
theorem Gr.flatA {Fc : Hp} (g : Gr A Fc H N H') (s : Sub F H) (nf : ∀ a, A a → F a = none) : Gr A F H F H' := ⟨g.keep, g.there, Sub.refl F, fun a o e => g.keep a o (fun h => by rw [nf a h] at e; exact nomatch e) (s a o e), fun _ _ f => f⟩
structure Ow (H0 F H : Hp) (p : Addr) (us : List V) : Prop where
  at_ : H p = some (.lst us)
  nf : F p = none
  n0 : H0 p = none
theorem Ow.new (G : Gr A F0 H0 F H) (hp : H p = none) : Ow H0 F (upd H p (.lst us)) p us := ⟨upd_same, G.sub.none hp, G.fresh hp⟩
theorem Ow.step (w : Ow H0 F H p us) (g : Gr NA F H N H') : Ow H0 N H' p us := ⟨g.keep p _ id w.at_, g.own p (by rw [w.at_]; exact (fun z => nomatch z)) w.nf, w.n0⟩
theorem Ow.mut {ws : List V} (w : Ow H0 F H p us) : Ow H0 F (upd H p (.lst ws)) p ws := ⟨upd_same, w.nf, w.n0⟩
theorem Ow.other {q : Addr} {ws : List V} (w : Ow H0 F H p us) (h : q ≠ p) : Ow H0 F (upd H q (.lst ws)) p us := ⟨by rw [upd_ne h.symm]; exact w.at_, w.nf, w.n0⟩
theorem Ow.ne_new {q : Addr} (w : Ow H0 F H p us) (hq : H q = none) : p ≠ q := ne_of_none w.at_ hq
theorem Ow.mutG (w : Ow H0 F H p us) (G : Gr A F0 H0 F H) : Gr A F0 H0 F (upd H p o) := G.mut w.n0 w.nf
theorem Ow.frz (w : Ow H0 F H p us) (G : Gr A F0 H0 F H) : Gr A F0 H0 (upd F p (.lst us)) H := G.frz w.at_ w.n0 w.nf
theorem Ow.sub (w : Ow H0 F H p us) (s : Sub F H) : Sub (upd F p (.lst us)) H := fun a u e => by
    by_cases z : a = p
    · subst z; rw [upd_same] at e; cases e; exact w.at_
    · rw [upd_ne z] at e; exact s a u e
theorem Ow.ex (w : Ow H0 F H p us) : Sub F (upd F p (.lst us)) := Sub.new w.nf
end

/-! #### taking facts apart -/
section
variable {α β : Type} [TD α] [TD β] {F H : Hp} {v : V}
theorem int_of {x : Int} (h : R F v x) : v = .int x := by cases h; rfl
theorem bl_of {x : Bool} (h : R F v x) : v = .bl x := by cases h; rfl
theorem non_of {x : Unit} (h : R F v x) : v = .non := by cases h; rfl
theorem lst_of {xs : List α} (h : R F v xs) : ∃ a us, v = .ref a ∧ F a = some (.lst us) ∧ Rs F us xs := by
  cases h with | lst h r => exact ⟨_, _, rfl, h, r⟩
theorem lst_ref {a : Addr} {xs : List α} (h : R F (.ref a) xs) : ∃ us, F a = some (.lst us) ∧ Rs F us xs := by
  obtain ⟨b, us, e, fa, fr⟩ := lst_of h
  cases e
  exact ⟨us, fa, fr⟩
theorem tup2_of {p : α × β} (h : R F v p) : ∃ a v1 v2, v = .ref a ∧ F a = some (.tup [v1, v2]) ∧ R F v1 p.1 ∧ R F v2 p.2 := by
  cases h with | tup h r => cases r with | cons h1 r => cases r with | cons h2 r => cases r; exact ⟨_, _, _, rfl, h, h1, h2⟩
theorem mk_lst {a : Addr} {us : List V} {xs : List α} (h : F a = some (.lst us)) (r : Rs F us xs) : R F (.ref a) xs := .lst h r
theorem mk_tup2 {a : Addr} {v1 v2 : V} {p : α × β} (h : F a = some (.tup [v1, v2])) (h1 : R F v1 p.1) (h2 : R F v2 p.2) : R F (.ref a) p := .tup h (.cons h1 (.cons h2 .nil))
theorem Rs_len {us : List V} {xs : List α} (r : Rs F us xs) : us.length = xs.length := by rw [r.len, List.length_map]
theorem Rs_nil : Rs (α := α) F [] [] := .nil
theorem Rs_cons {u : V} {us : List V} {x : α} {xs : List α} (h : R F u x) (r : Rs F us xs) : Rs F (u :: us) (x :: xs) := .cons h r
theorem Rs_app {us ws : List V} {xs ys : List α} (r : Rs F us xs) (s : Rs F ws ys) : Rs F (us ++ ws) (xs ++ ys) := by
  unfold Rs; rw [List.map_append]; exact r.append s
theorem Rs_snoc {us : List V} {u : V} {xs : List α} {x : α} (r : Rs F us xs) (h : R F u x) : Rs F (us ++ [u]) (xs ++ [x]) := Rs_app r (.cons h .nil)
theorem Rs_rev {us : List V} {xs : List α} (r : Rs F us xs) : Rs F us.reverse xs.reverse := by
  unfold Rs; rw [List.map_reverse]; exact r.reverse
theorem Rs_mono {N : Hp} {us : List V} {xs : List α} (s : Sub F N) (r : Rs F us xs) : Rs N us xs := RDs.mono s r
theorem Rs_int {us : List V} {xs : List Int} (r : Rs F us xs) : us = xs.map V.int := by
  induction xs generalizing us with
  | nil => cases r; rfl
  | cons x xs ih => cases r with | cons h r => cases h; rw [List.map_cons, ih r]
theorem int_Rs : ∀ xs : List Int, Rs F (xs.map V.int) xs
  | [] => .nil
  | x :: xs => .cons (.int x) (int_Rs xs)
end
/-- xs[i], the item and its fact -/
def ixOk {α : Type} (xs : List α) (i : Int) (x : α) : Prop := atI xs i = some x
theorem Rs_at {α : Type} [TD α] {F : Hp} {us : List V} {xs : List α} (r : Rs F us xs) {i : Int} {x : α} (h : atI xs i = some x) : ∃ u, atI us i = some u ∧ R F u x := by
  unfold atI at h ⊢
  rw [Rs_len r]
  cases e : ixN xs.length i with
  | none => rw [e] at h; cases h
  | some k =>
    rw [e] at h
    have h' : xs[k]? = some x := h
    obtain ⟨u, h1, h2⟩ := RDs.get (i := k) (d := TD.d x) r (by rw [List.getElem?_map, h']; rfl)
    exact ⟨u, h1, h2⟩

/-! #### mirrors: loops -/
def forK {S α ρ : Type} (f : S → α → (S → Option ρ) → Option ρ) : List α → S → (S → Option ρ) → Option ρ
  | [], s, K => K s
  | x :: xs, s, K => f s x fun s' => forK f xs s' K
def whileK {S ρ : Type} (f : S → (S → Option ρ) → Option ρ) : Nat → S → Option ρ
  | 0, _ => none
  | m + 1, s => f s (whileK f m)
def fuel : Nat := 1000000
theorem forK_c {S α ρ : Type} {f : S → α → (S → Option ρ) → Option ρ} {x : α} {xs : List α} {s : S} {K : S → Option ρ} {r : ρ} (h : forK f (x :: xs) s K = some r) : f s x (fun s' => forK f xs s' K) = some r := h
theorem forK_n {S α ρ : Type} {f : S → α → (S → Option ρ) → Option ρ} {s : S} {K : S → Option ρ} {r : ρ} (h : forK f [] s K = some r) : K s = some r := h
theorem whileK_s {S ρ : Type} {f : S → (S → Option ρ) → Option ρ} {m : Nat} {s : S} {r : ρ} (h : whileK f (m + 1) s = some r) : f s (whileK f m) = some r := h
def irange (lo hi : Int) : List Int := (List.range (hi - lo).toNat).map fun i : Nat => lo + (i : Int)
section
variable {α ρ : Type} {c : Prop} [Decidable c] {a b : Option ρ} {r : ρ}
theorem itep (h : (if c then a else b) = some r) (hc : c) : a = some r := by rw [if_pos hc] at h; exact h
theorem iten (h : (if c then a else b) = some r) (hc : ¬ c) : b = some r := by rw [if_neg hc] at h; exact h
theorem guardp (h : (if c then a else none) = some r) : c ∧ a = some r := by
  by_cases hc : c
  · exact ⟨hc, itep h hc⟩
  · rw [if_neg hc] at h; cases h
theorem bindp {x : Option α} {f : α → Option ρ} (h : x.bind f = some r) : ∃ y, x = some y ∧ f y = some r := by
  cases x with
  | none => cases h
  | some y => exact ⟨y, rfl, h⟩
theorem ifD {c : Bool} {A B : Prop} (h1 : c = true → A) (h2 : c = false → B) : if c = true then A else B := by
  cases c with
  | true => rw [if_pos rfl]; exact h1 rfl
  | false => rw [if_neg Bool.false_ne_true]; exact h2 rfl
theorem dT {c : Prop} [Decidable c] (h : decide c = true) : c := of_decide_eq_true h
theorem dF {c : Prop} [Decidable c] (h : decide c = false) : ¬ c := of_decide_eq_false h
theorem ndT {c : Prop} [Decidable c] (h : (!decide c) = true) : ¬ c := of_decide_eq_false (by rw [Bool.not_eq_true'] at h; exact h)
theorem ndF {c : Prop} [Decidable c] (h : (!decide c) = false) : c := of_decide_eq_true (by rw [Bool.not_eq_false'] at h; exact h)
theorem bF {c : Bool} (h : c = false) : ¬ c = true := by rw [h]; exact Bool.false_ne_true
end

/-! #### loops read -/
section
variable {K : PySem.W.Frag} {g : TG} {tb : TS} {D : Ends} {σ : L2.St} {H : Hp} {α : Type} [TD α]
theorem while_m {c : TT} (W : Nat → L2.St → Hp → Prop) (m : Nat) (h0 : W m σ H) (hz : ∀ σ H, ¬ W 0 σ H)
    (hs : ∀ m σ H, W (m + 1) σ H → c σ H fun b H1 => if b = true then tb { D with nx := W m, ct := W m, bk := D.nx } σ H1 else D.nx σ H1) (mono : ∀ σ H Q Q', (∀ b H1, Q b H1 → Q' b H1) → c σ H Q → c σ H Q') : tWhile c tb D σ H := by
  refine ⟨W, ⟨m, h0⟩, fun m σ H h => ?_⟩
  cases m with
  | zero => exact absurd h (hz σ H)
  | succ m =>
    refine mono σ H _ _ (fun b H1 q => ?_) (hs m σ H h)
    cases b with
    | true => exact ⟨W m, fun σ' H' h => ⟨m, Nat.lt_succ_self m, h⟩, q⟩
    | false => exact q
theorem while_n {c : TT} (W : Nat → L2.St → Hp → Prop) (m : Nat) (h0 : W m σ H) (hz : ∀ σ H, ¬ W 0 σ H)
    (hs : ∀ m σ H, W (m + 1) σ H → c σ H fun b H1 => if b = true then ∃ N : L2.St → Hp → Prop, (∀ σ' H', N σ' H' → ∃ m', m' < m + 1 ∧ W m' σ' H') ∧ tb { D with nx := N, ct := N, bk := D.nx } σ H1 else D.nx σ H1) : tWhile c tb D σ H := by
  refine ⟨W, ⟨m, h0⟩, fun m σ H h => ?_⟩
  cases m with
  | zero => exact absurd h (hz σ H)
  | succ m => exact hs m σ H h
theorem drop_cons {α : Type} {xs : List α} {i : Nat} {x : α} (h : xs[i]? = some x) : xs.drop i = x :: xs.drop (i + 1) := by
  obtain ⟨h1, h2⟩ := List.getElem?_eq_some_iff.mp h
  rw [← h2]; exact List.drop_eq_getElem_cons h1
theorem for_lst {a : Addr} {us : List V} {xs : List α} {F : Hp} (W : List α → L2.St → Hp → Prop) (fr : Rs F us xs) (h0 : W xs σ H) (hf : ∀ ts σ H, W ts σ H → H a = some (.lst us))
    (hs : ∀ x ts v σ H, R F v x → W (x :: ts) σ H → g v σ H fun σ2 H2 => tb { D with nx := W ts, ct := W ts, bk := D.nx } σ2 H2) (hd : ∀ σ H, W [] σ H → D.nx σ H) :
    ∃ W : Nat → Nat → L2.St → Hp → Prop, (∃ m, W 0 m σ H) ∧ ∀ i m σ H, W i m σ H →
      ((Itl K a).stop i H ∧ D.nx σ H) ∨ ((Itl K a).go i H ∧ ∃ N : L2.St → Hp → Prop, (∀ σ' H', N σ' H' → ∃ m', m' < m ∧ W (i + 1) m' σ' H') ∧ ∀ x H', (Itl K a).yld i H x H' → g x σ H' fun σ2 H2 => tb { D with nx := N, ct := N, bk := D.nx } σ2 H2) := by
  have hl := Rs_len fr
  refine for_list (xs := us) (fun i σ H => W (xs.drop i) σ H) (by rw [List.drop_zero]; exact h0) (fun i σ H _ h => .inl (.inl (hf _ σ H h))) (fun i v σ H e h => ?_) fun σ H h => ?_
  · obtain ⟨d, e1, e2⟩ := fr.get' e
    have h1 : i < xs.length := by have := (List.getElem?_eq_some_iff.mp e).1; omega
    have e3 : xs[i]? = some xs[i] := List.getElem?_eq_getElem h1
    rw [List.getElem?_map, e3] at e1
    cases e1
    have h' : W (xs.drop i) σ H := h
    rw [drop_cons e3] at h'
    exact hs _ _ v σ H e2 h'
  · have h' : W (xs.drop us.length) σ H := h
    rw [hl, List.drop_length] at h'
    exact hd σ H h'
theorem irange_len (lo hi : Int) : (irange lo hi).length = (hi - lo).toNat := by unfold irange; simp
theorem irange_get {lo hi : Int} {i : Nat} (h : i < (hi - lo).toNat) : (irange lo hi)[i]? = some (lo + i) := by unfold irange; simp [h]
def irangeC (lo hi c : Int) : List Int := (List.range (Builtin.Range.rangeSize lo hi c).toNat).map fun i : Nat => lo + (i : Int) * c
theorem irangeC_len (lo hi c : Int) : (irangeC lo hi c).length = (Builtin.Range.rangeSize lo hi c).toNat := by unfold irangeC; simp
theorem irangeC_get {lo hi c : Int} {i : Nat} (h : i < (Builtin.Range.rangeSize lo hi c).toNat) : (irangeC lo hi c)[i]? = some (lo + (i : Int) * c) := by unfold irangeC; simp [h]
def RgD (i j c : Int) : Prop := c ≠ 0 ∧ c.natAbs < 1073741824 ∧ Builtin.Range.small i j c = true ∧ 0 ≤ Builtin.Range.rangeSize i j c
instance (i j c : Int) : Decidable (RgD i j c) := inferInstanceAs (Decidable (_ ∧ _))
theorem RgD.ok {i j c : Int} (h : RgD i j c) : RgC i j c (Builtin.Range.rangeSize i j c).toNat := ⟨h.1, h.2.1, h.2.2.1, (Int.toNat_of_nonneg h.2.2.2).symm⟩
theorem for_rngC {lo hi c : Int} (W : List Int → L2.St → Hp → Prop) (h0 : W (irangeC lo hi c) σ H)
    (hs : ∀ x ts σ H, W (x :: ts) σ H → g (.int x) σ H fun σ2 H2 => tb { D with nx := W ts, ct := W ts, bk := D.nx } σ2 H2) (hd : ∀ σ H, W [] σ H → D.nx σ H) :
    ∃ W : Nat → Nat → L2.St → Hp → Prop, (∃ m, W 0 m σ H) ∧ ∀ i m σ H, W i m σ H →
      ((Itc lo c (Builtin.Range.rangeSize lo hi c).toNat).stop i H ∧ D.nx σ H) ∨ ((Itc lo c (Builtin.Range.rangeSize lo hi c).toNat).go i H ∧ ∃ N : L2.St → Hp → Prop, (∀ σ' H', N σ' H' → ∃ m', m' < m ∧ W (i + 1) m' σ' H') ∧ ∀ x H', (Itc lo c (Builtin.Range.rangeSize lo hi c).toNat).yld i H x H' → g x σ H' fun σ2 H2 => tb { D with nx := N, ct := N, bk := D.nx } σ2 H2) := by
  refine for_rangeC (fun i σ H => W ((irangeC lo hi c).drop i) σ H) (by rw [List.drop_zero]; exact h0) (fun i σ H hi' h => ?_) fun σ H h => ?_
  · have h' : W ((irangeC lo hi c).drop i) σ H := h
    rw [drop_cons (irangeC_get hi')] at h'
    exact hs _ _ σ H h'
  · have h' : W ((irangeC lo hi c).drop (Builtin.Range.rangeSize lo hi c).toNat) σ H := h
    rw [← irangeC_len, List.drop_length] at h'
    exact hd σ H h'
theorem for_rng {lo hi : Int} {n : Nat} (hn : n = (hi - lo).toNat) (W : List Int → L2.St → Hp → Prop) (h0 : W (irange lo hi) σ H)
    (hs : ∀ x ts σ H, W (x :: ts) σ H → g (.int x) σ H fun σ2 H2 => tb { D with nx := W ts, ct := W ts, bk := D.nx } σ2 H2) (hd : ∀ σ H, W [] σ H → D.nx σ H) :
    ∃ W : Nat → Nat → L2.St → Hp → Prop, (∃ m, W 0 m σ H) ∧ ∀ i m σ H, W i m σ H →
      ((Itr lo n).stop i H ∧ D.nx σ H) ∨ ((Itr lo n).go i H ∧ ∃ N : L2.St → Hp → Prop, (∀ σ' H', N σ' H' → ∃ m', m' < m ∧ W (i + 1) m' σ' H') ∧ ∀ x H', (Itr lo n).yld i H x H' → g x σ H' fun σ2 H2 => tb { D with nx := N, ct := N, bk := D.nx } σ2 H2) := by
  subst hn
  refine for_range (fun i σ H => W ((irange lo hi).drop i) σ H) (by rw [List.drop_zero]; exact h0) (fun i σ H hi' h => ?_) fun σ H h => ?_
  · have h' : W ((irange lo hi).drop i) σ H := h
    rw [drop_cons (irange_get hi')] at h'
    exact hs _ _ σ H h'
  · have h' : W ((irange lo hi).drop (hi - lo).toNat) σ H := h
    rw [← irange_len, List.drop_length] at h'
    exact hd σ H h'
variable {tt : TT} {te : TE} {vs : List Nat} {H1 : Hp} {Dl : Addr} {Qd : Hp → Prop}
theorem lc_lst {a : Addr} {us : List V} {xs : List α} {F : Hp} (W : List α → Hp → Prop) (fr : Rs F us xs) (h0 : W xs (upd H1 Dl (.lst []))) (hf : ∀ ts H, W ts H → H a = some (.lst us))
    (hs : ∀ x ts v H, R F v x → W (x :: ts) H → g v (wipe σ vs) H fun σ2 H2 => wipe σ2 vs = wipe σ vs ∧ tt σ2 H2 fun b H3 =>
        if b = true then te σ2 H3 fun y H4 => ∃ acc, H4 Dl = some (HO.lst acc) ∧ acc.length < sizeLine ∧ W ts (upd H4 Dl (HO.lst (acc ++ [y]))) else W ts H3) (hd : ∀ H, W [] H → Qd H) :
    ∃ W : Nat → Nat → Hp → Prop, (∃ m, W 0 m (upd H1 Dl (HO.lst []))) ∧ ∀ (i m : Nat) (H : Hp), W i m H → (Itl K a).stop i H ∧ Qd H ∨
      (Itl K a).go i H ∧ ∃ Nx : Hp → Prop, (∀ (H' : Hp), Nx H' → ∃ m', m' < m ∧ W (i + 1) m' H') ∧ ∀ (x : V) (H' : Hp), (Itl K a).yld i H x H' →
        g x (wipe σ vs) H' fun σ2 H2 => wipe σ2 vs = wipe σ vs ∧ tt σ2 H2 fun b H3 => if b = true then te σ2 H3 fun y H4 => ∃ acc, H4 Dl = some (HO.lst acc) ∧ acc.length < sizeLine ∧ Nx (upd H4 Dl (HO.lst (acc ++ [y]))) else Nx H3 := by
  have hl := Rs_len fr
  refine lc_list (xs := us) (fun i H => W (xs.drop i) H) (by rw [List.drop_zero]; exact h0) (fun i H _ h => .inl (.inl (hf _ H h))) (fun i v H e h => ?_) fun H h => ?_
  · obtain ⟨d, e1, e2⟩ := fr.get' e
    have h1 : i < xs.length := by have := (List.getElem?_eq_some_iff.mp e).1; omega
    have e3 : xs[i]? = some xs[i] := List.getElem?_eq_getElem h1
    rw [List.getElem?_map, e3] at e1
    cases e1
    have h' : W (xs.drop i) H := h
    rw [drop_cons e3] at h'
    exact hs _ _ v H e2 h'
  · have h' : W (xs.drop us.length) H := h
    rw [hl, List.drop_length] at h'
    exact hd H h'
/-- with which value it is -/
theorem lc_lstM {a : Addr} {us : List V} {xs : List α} {F : Hp} (W : List α → Hp → Prop) (fr : Rs F us xs) (h0 : W xs (upd H1 Dl (.lst []))) (hf : ∀ ts H, W ts H → H a = some (.lst us))
    (hs : ∀ x ts v H, R F v x → v ∈ us → W (x :: ts) H → g v (wipe σ vs) H fun σ2 H2 => wipe σ2 vs = wipe σ vs ∧ tt σ2 H2 fun b H3 =>
        if b = true then te σ2 H3 fun y H4 => ∃ acc, H4 Dl = some (HO.lst acc) ∧ acc.length < sizeLine ∧ W ts (upd H4 Dl (HO.lst (acc ++ [y]))) else W ts H3) (hd : ∀ H, W [] H → Qd H) :
    ∃ W : Nat → Nat → Hp → Prop, (∃ m, W 0 m (upd H1 Dl (HO.lst []))) ∧ ∀ (i m : Nat) (H : Hp), W i m H → (Itl K a).stop i H ∧ Qd H ∨
      (Itl K a).go i H ∧ ∃ Nx : Hp → Prop, (∀ (H' : Hp), Nx H' → ∃ m', m' < m ∧ W (i + 1) m' H') ∧ ∀ (x : V) (H' : Hp), (Itl K a).yld i H x H' →
        g x (wipe σ vs) H' fun σ2 H2 => wipe σ2 vs = wipe σ vs ∧ tt σ2 H2 fun b H3 => if b = true then te σ2 H3 fun y H4 => ∃ acc, H4 Dl = some (HO.lst acc) ∧ acc.length < sizeLine ∧ Nx (upd H4 Dl (HO.lst (acc ++ [y]))) else Nx H3 := by
  have hl := Rs_len fr
  refine lc_list (xs := us) (fun i H => W (xs.drop i) H) (by rw [List.drop_zero]; exact h0) (fun i H _ h => .inl (.inl (hf _ H h))) (fun i v H e h => ?_) fun H h => ?_
  · obtain ⟨d, e1, e2⟩ := fr.get' e
    have h1 : i < xs.length := by have := (List.getElem?_eq_some_iff.mp e).1; omega
    have e3 : xs[i]? = some xs[i] := List.getElem?_eq_getElem h1
    rw [List.getElem?_map, e3] at e1
    cases e1
    have h' : W (xs.drop i) H := h
    rw [drop_cons e3] at h'
    exact hs _ _ v H e2 (List.mem_of_getElem? e) h'
  · have h' : W (xs.drop us.length) H := h
    rw [hl, List.drop_length] at h'
    exact hd H h'
theorem lc_rng {lo hi : Int} {n : Nat} (hn : n = (hi - lo).toNat) (W : List Int → Hp → Prop) (h0 : W (irange lo hi) (upd H1 Dl (.lst [])))
    (hs : ∀ x ts H, W (x :: ts) H → g (.int x) (wipe σ vs) H fun σ2 H2 => wipe σ2 vs = wipe σ vs ∧ tt σ2 H2 fun b H3 =>
        if b = true then te σ2 H3 fun y H4 => ∃ acc, H4 Dl = some (HO.lst acc) ∧ acc.length < sizeLine ∧ W ts (upd H4 Dl (HO.lst (acc ++ [y]))) else W ts H3) (hd : ∀ H, W [] H → Qd H) :
    ∃ W : Nat → Nat → Hp → Prop, (∃ m, W 0 m (upd H1 Dl (HO.lst []))) ∧ ∀ (i m : Nat) (H : Hp), W i m H → (Itr lo n).stop i H ∧ Qd H ∨
      (Itr lo n).go i H ∧ ∃ Nx : Hp → Prop, (∀ (H' : Hp), Nx H' → ∃ m', m' < m ∧ W (i + 1) m' H') ∧ ∀ (x : V) (H' : Hp), (Itr lo n).yld i H x H' →
        g x (wipe σ vs) H' fun σ2 H2 => wipe σ2 vs = wipe σ vs ∧ tt σ2 H2 fun b H3 => if b = true then te σ2 H3 fun y H4 => ∃ acc, H4 Dl = some (HO.lst acc) ∧ acc.length < sizeLine ∧ Nx (upd H4 Dl (HO.lst (acc ++ [y]))) else Nx H3 := by
  subst hn
  refine lc_range (fun i H => W ((irange lo hi).drop i) H) (by rw [List.drop_zero]; exact h0) (fun i H hi' h => ?_) fun H h => ?_
  · have h' : W ((irange lo hi).drop i) H := h
    rw [drop_cons (irange_get hi')] at h'
    exact hs _ _ H h'
  · have h' : W ((irange lo hi).drop (hi - lo).toNat) H := h
    rw [← irange_len, List.drop_length] at h'
    exact hd H h'
end

/-! #### operators of my own -/
section
variable {X : Cx}
def rEqT (α : Type) [TD α] [TE' α] : R2 := fun x y H Q => ∃ (F : Hp) (a b : α), Sub F H ∧ R F x a ∧ R F y b ∧ Q (.bl (eqT a b)) H
def rNeT (α : Type) [TD α] [TE' α] : R2 := fun x y H Q => ∃ (F : Hp) (a b : α), Sub F H ∧ R F x a ∧ R F y b ∧ Q (.bl (!eqT a b)) H
theorem op_eqT {α : Type} [TD α] [TE' α] (hd : TD.dep α ≤ 60) (hu : X.A.units + 64 < cLine) : OpR X (compareOp .Eq) (rEqT α) := by
  intro pins s σ H x y v u Q I rx ry h
  obtain ⟨F, a, b, sb, ha, hb, q⟩ := h
  exact op_eqD hu pins s σ H x y v u Q I rx ry ⟨_, _, ha.dp sb, hb.dp sb, TD.shaped hd a, TD.shaped hd b, by rw [eqvT]; exact q⟩
theorem op_neT {α : Type} [TD α] [TE' α] (hd : TD.dep α ≤ 60) (hu : X.A.units + 64 < cLine) : OpR X (compareOp .NotEq) (rNeT α) := by
  intro pins s σ H x y v u Q I rx ry h
  obtain ⟨F, a, b, sb, ha, hb, q⟩ := h
  exact op_neD hu pins s σ H x y v u Q I rx ry ⟨_, _, ha.dp sb, hb.dp sb, TD.shaped hd a, TD.shaped hd b, by rw [eqvT]; exact q⟩
theorem any_eq {α : Type} [TD α] (x : α) (xs : List α) : ((xs.map TD.d).any fun z => PyData.eqv z (TD.d x)) = memT x xs := by
  unfold memT
  rw [List.any_map]
  rfl
def rInT (α : Type) [TD α] [TE' α] : R2 := fun x y H Q => ∃ (F : Hp) (a : α) (b : List α), Sub F H ∧ R F x a ∧ R F y b ∧ Q (.bl (memT a b)) H
def rNiT (α : Type) [TD α] [TE' α] : R2 := fun x y H Q => ∃ (F : Hp) (a : α) (b : List α), Sub F H ∧ R F x a ∧ R F y b ∧ Q (.bl (!memT a b)) H
theorem op_inT {α : Type} [TD α] [TE' α] (hd : TD.dep α ≤ 50) (hu : X.A.units + 65 < cLine) : OpR X (compareOp .In) (rInT α) := by
  intro pins s σ H x y v u Q I rx ry h
  obtain ⟨F, a, b, sb, ha, hb, q⟩ := h
  exact op_inD hu pins s σ H x y v u Q I rx ry ⟨_, _, ha.dp sb, hb.dp sb, TD.shaped (by omega) a, TD.shaped (α := List α) (by show TD.dep α + 1 ≤ 60; omega) b, by rw [any_eq]; exact q⟩
theorem op_niT {α : Type} [TD α] [TE' α] (hd : TD.dep α ≤ 50) (hu : X.A.units + 65 < cLine) : OpR X (compareOp .NotIn) (rNiT α) := by
  intro pins s σ H x y v u Q I rx ry h
  obtain ⟨F, a, b, sb, ha, hb, q⟩ := h
  exact op_notInD hu pins s σ H x y v u Q I rx ry ⟨_, _, ha.dp sb, hb.dp sb, TD.shaped (by omega) a, TD.shaped (α := List α) (by show TD.dep α + 1 ≤ 60; omega) b, by rw [any_eq]; exact q⟩
end
theorem hu64 {A : Around} {k : Nat} (hr : Room k A) : A.units + 64 < cLine := by have := hr.un; omega
theorem hu65 {A : Around} {k : Nat} (hr : Room k A) : A.units + 65 < cLine := by have := hr.un; omega
theorem szl {n : Nat} (h : n < 16777216) : n < sizeLine := by rw [sizeLine_eq]; exact h
theorem szle {n : Nat} (h : n ≤ 16777216) : n ≤ sizeLine := by rw [sizeLine_eq]; exact h

/-- a divisor, two factors that the model carries -/
def Dv (j : Int) : Prop := 0 < j ∧ j.natAbs.log2 < 9000
instance (j : Int) : Decidable (Dv j) := inferInstanceAs (Decidable (_ ∧ _))
theorem Dv.w {i j : Int} (h : Dv j) : CDivW i j := h
theorem Dv.p {j : Int} (h : Dv j) : 0 < j := h.1
theorem Dv.of {j : Int} (h : 0 < j) (h2 : j < 2 ^ 9000) : Dv j := by
  refine ⟨h, ?_⟩
  have e : j.natAbs < 2 ^ 9000 := by omega
  rw [Nat.log2_lt (by omega)]; exact e
def Mv (i j : Int) : Prop := i.natAbs.log2 + j.natAbs.log2 < 1000000
instance (i j : Int) : Decidable (Mv i j) := inferInstanceAs (Decidable (_ < _))
theorem Mv.w {i j : Int} (h : Mv i j) : CMulW i j := h


/-! #### readings opened one layer -/
section
variable {K : PySem.W.Frag} {σ : L2.St} {H : Hp} {D : Ends} {t u : TS} {te ta tb tc : TE} {tt tu : TT} {g : TG} {r r' : R2} {Q : VK} {QB : Bool → Hp → Prop} {QA : List V → Hp → Prop} {tA : TA}
theorem x_seq (h : t { D with nx := u D } σ H) : tSeq t u D σ H := h
theorem x_yes (h : QB true H) : tYes σ H QB := h
theorem x_nopart {QO : Option Int → Hp → Prop} (h : QO none H) : tNoPart σ H QO := h
theorem x_c {v : V} (h : Q v H) : tC v σ H Q := h
theorem x_gn {i : Nat} {v : V} {QS : L2.St → Hp → Prop} (h : QS (σ.set i (some v)) H) : gName i v σ H QS := h
theorem x_next (h : D.nx σ H) : tNext D σ H := h
theorem x_par {i j : Nat} (h : tA σ H fun vs H1 => ∃ v w, vs = [v, w] ∧ D.nx ((σ.set i (some v)).set j (some w)) H1) : tPar i j tA D σ H := h
theorem x_if (h : tt σ H fun b H1 => if b = true then t D σ H1 else u D σ H1) : tIfS tt t u D σ H := h
theorem x_asg (h : te σ H fun x H1 => g x σ H1 D.nx) : tAsg te g D σ H := h
theorem x_drop (h : te σ H fun _ H1 => D.nx σ H1) : tDrop te D σ H := h
theorem x_ret (h : te σ H D.rt) : tRet te D σ H := h
theorem x_op (h : ta σ H fun x H1 => tb σ H1 fun y H2 => r x y H2 Q) : tOp r ta tb σ H Q := h
theorem x_un {r : V → Hp → VK → Prop} (h : ta σ H fun x H1 => r x H1 Q) : tUn r ta σ H Q := h
theorem x_cmp {p : Int → Int → Bool} (h : ta σ H fun x H1 => tb σ H1 fun y H2 => ∃ i j, x = .int i ∧ y = .int j ∧ Q (.bl (p i j)) H2) : tCmp p ta tb σ H Q := h
theorem x_cons {tr : TA} (h : ta σ H fun x H1 => tr σ H1 fun xs H2 => QA (x :: xs) H2) : tCons ta tr σ H QA := h
theorem x_lst (h : tA σ H fun xs H1 => xs.length ≤ sizeLine ∧ ∀ p, H1 p = none → Q (.ref p) (upd H1 p (.lst xs))) : tLst tA σ H Q := h
theorem x_tup (h : tA σ H fun xs H1 => xs.length ≤ sizeLine ∧ ∀ p, H1 p = none → Q (.ref p) (upd H1 p (.tup xs))) : tTup tA σ H Q := h
theorem x_call {sp : Sp} {dvs : List V} {E : XK} (h : tA σ H fun vs H1 => sp (vs ++ dvs) H1 Q E) : tCall sp dvs E tA σ H Q := h
theorem x_cb {r : List V → Hp → VK → Prop} (h : tA σ H fun vs H1 => r vs H1 Q) : tCB r tA σ H Q := h
theorem x_B (h : te σ H fun x H1 => ∃ c, x = .bl c ∧ QB c H1) : tB te σ H QB := h
theorem x_test (h : te σ H fun x H1 => ∃ c, x = .bl c ∧ QB c H1) : tTest te σ H QB := h
theorem x_not (h : tt σ H fun c H1 => QB (!c) H1) : tNot tt σ H QB := h
theorem x_and (h : tt σ H fun c H1 => if c = true then tu σ H1 QB else QB false H1) : tAnd tt tu σ H QB := h
theorem x_or (h : tt σ H fun c H1 => if c = true then QB true H1 else tu σ H1 QB) : tOr tt tu σ H QB := h
theorem x_andV (h : ta σ H fun x H1 => ∃ c, x = .bl c ∧ if c = true then tb σ H1 Q else Q (.bl false) H1) : tAndV ta tb σ H Q := h
theorem x_orV (h : ta σ H fun x H1 => ∃ c, x = .bl c ∧ if c = true then Q (.bl true) H1 else tb σ H1 Q) : tOrV ta tb σ H Q := h
theorem x_notV (h : ta σ H fun x H1 => ∃ c, x = .bl c ∧ Q (.bl (!c)) H1) : tNotV ta σ H Q := h
theorem x_chain (h : ta σ H fun x H1 => tb σ H1 fun y H2 => r x y H2 fun z H3 => ∃ k, z = .bl k ∧ (if k = true then tc σ H3 fun w' H4 => r' y w' H4 Q else Q (.bl false) H3)) : tChain r r' ta tb tc σ H Q := h
theorem x_ife (h : tt σ H fun c H1 => if c = true then ta σ H1 Q else tb σ H1 Q) : tIf tt ta tb σ H Q := h
theorem x_sl {r : V → Option Int → Option Int → Hp → VK → Prop} {tl th : TO} (h : te σ H fun x H1 => tl σ H1 fun l H2 => th σ H2 fun u H3 => r x l u H3 Q) : tSl r te tl th σ H Q := h
theorem x_part {QO : Option Int → Hp → Prop} (h : te σ H fun x H1 => ∃ i, x = .int i ∧ QO (some i) H1) : tPart te σ H QO := h
theorem x_revL (h : te σ H fun x H1 => ∃ a xs, x = .ref a ∧ SqL K H1 a xs ∧ ∀ p, H1 p = none → Q (.ref p) (upd H1 p (.lst xs.reverse))) : tRevL K te σ H Q := h
theorem x_bm {T : String} {r : V → List V → Hp → VK → Prop} (h : te σ H fun x H1 => tyV K T x H1 ∧ tA σ H1 fun xs H2 => r x xs H2 Q) : tBM K T r te tA σ H Q := h
theorem x_bm0 {T : String} {r : V → List V → Hp → VK → Prop} (h : te σ H fun x H1 => tyV K T x H1 ∧ r x [] H1 Q) : tBM0 K T r te σ H Q := h
theorem x_isN (h : ta σ H fun x H1 => Q (.bl (decide (x = .non))) H1) : tIsN ta σ H Q := h
theorem x_notN (h : ta σ H fun x H1 => Q (.bl (!decide (x = .non))) H1) : tNotN ta σ H Q := h
theorem x_isN' (h : ta σ H fun x H1 => ∃ b, decide (x = .non) = b ∧ Q (.bl b) H1) : tIsN ta σ H Q := by
  have e : (fun (x : V) (H1 : Hp) => ∃ b, decide (x = .non) = b ∧ Q (.bl b) H1) = fun x H1 => Q (.bl (decide (x = .non))) H1 := funext fun x => funext fun H1 => propext ⟨fun ⟨b, e, q⟩ => by rw [e]; exact q, fun q => ⟨_, rfl, q⟩⟩
  rw [e] at h
  exact h
theorem x_notN' (h : ta σ H fun x H1 => ∃ b, (!decide (x = .non)) = b ∧ Q (.bl b) H1) : tNotN ta σ H Q := by
  have e : (fun (x : V) (H1 : Hp) => ∃ b, (!decide (x = .non)) = b ∧ Q (.bl b) H1) = fun x H1 => Q (.bl (!decide (x = .non))) H1 := funext fun x => funext fun H1 => propext ⟨fun ⟨b, e, q⟩ => by rw [e]; exact q, fun q => ⟨_, rfl, q⟩⟩
  rw [e] at h
  exact h
theorem x_rng1 {R : It → Hp → Prop} (h : tA σ H fun vs H1 => ∃ j : Int, vs = [.int j] ∧ -(2 ^ 62) ≤ j ∧ j < 2 ^ 62 ∧ R (Itr 0 j.toNat) H1) : iRng1 tA σ H R := h
theorem x_rng2 {R : It → Hp → Prop} (h : tA σ H fun vs H1 => ∃ i j : Int, vs = [.int i, .int j] ∧ (-(2 ^ 62) ≤ i ∧ i < 2 ^ 62 ∧ -(2 ^ 62) ≤ j ∧ j < 2 ^ 62) ∧ R (Itr i (j - i).toNat) H1) : iRng2 tA σ H R := h
theorem x_rng3 {R : It → Hp → Prop} (h : tA σ H fun vs H1 => ∃ (i j c : Int) (n : Nat), vs = [.int i, .int j, .int c] ∧ RgC i j c n ∧ R (Itc i c n) H1) : iRng3 tA σ H R := h
theorem x_iter {R : It → Hp → Prop} (h : te σ H fun x H1 => ∃ a, x = .ref a ∧ (∃ xs, SqL K H1 a xs) ∧ R (Itl K a) H1) : iList K te σ H R := h
theorem x_for {wi : TI} (h : wi σ H fun J H1 => ∃ W : Nat → Nat → L2.St → Hp → Prop, (∃ m, W 0 m σ H1) ∧ ∀ i m σ H, W i m σ H →
  (J.stop i H ∧ D.nx σ H) ∨ (J.go i H ∧ ∃ N : L2.St → Hp → Prop, (∀ σ' H', N σ' H' → ∃ m', m' < m ∧ W (i + 1) m' σ' H') ∧ ∀ x H', J.yld i H x H' → g x σ H' fun σ2 H2 => t { D with nx := N, ct := N, bk := D.nx } σ2 H2)) : tFor wi g t D σ H := h
theorem x_lc {wi : TI} {vs : List Nat} (h : wi σ H fun J H1 => ∀ Dl, H1 Dl = none → ∃ W : Nat → Nat → Hp → Prop, (∃ m, W 0 m (upd H1 Dl (.lst []))) ∧ ∀ i m H, W i m H → J.stop i H ∧ Q (.ref Dl) H ∨ J.go i H ∧ ∃ Nx : Hp → Prop, (∀ (H' : Hp), Nx H' → ∃ m', m' < m ∧ W (i + 1) m' H') ∧ ∀ (x : V) (H' : Hp), J.yld i H x H' →
        g x (wipe σ vs) H' fun σ2 H2 => wipe σ2 vs = wipe σ vs ∧ tt σ2 H2 fun b H3 => if b = true then te σ2 H3 fun y H4 => ∃ acc, H4 Dl = some (HO.lst acc) ∧ acc.length < sizeLine ∧ Nx (upd H4 Dl (HO.lst (acc ++ [y]))) else Nx H3) : tLc wi g tt te vs σ H Q := h
end

/-! #### order and sorted, of data of one type -/
class SO (α : Type) [TD α] where
  alike : ∀ x y : α, PySem.W.alike (TD.d x) (TD.d y) = true
  nn : ∀ x : α, TD.d x ≠ .none
  kind : (∀ x : α, ∃ y r, TD.d x = .tuple (y :: r)) ∨ ∀ (x : α) xs, TD.d x ≠ .tuple xs
instance : SO Int := ⟨fun _ _ => by simp [TD.d, PySem.W.alike], (fun _ h => nomatch h), .inr fun _ _ h => nomatch h⟩
theorem alikeAll_of {α : Type} [TD α] [SO α] : ∀ xs ys : List α, PySem.W.alikeAll (xs.map TD.d) (ys.map TD.d) = true
  | [], _ => by simp [PySem.W.alikeAll]
  | _ :: _, [] => by simp [PySem.W.alikeAll]
  | x :: xs, y :: ys => by
    rw [List.map_cons, List.map_cons, PySem.W.alikeAll, alikeAll_of xs ys, SO.alike]; rfl
instance {α : Type} [TD α] [SO α] : SO (List α) := ⟨fun xs ys => by
  show PySem.W.alike (.list _) (.list _) = true
  rw [PySem.W.alike]; exact alikeAll_of xs ys, (fun _ h => nomatch h), .inr fun _ _ h => nomatch h⟩
instance {α β : Type} [TD α] [SO α] [TD β] [SO β] : SO (α × β) := ⟨fun p q => by
  show PySem.W.alike (.tuple [_, _]) (.tuple [_, _]) = true
  simp [PySem.W.alike, PySem.W.alikeAll, SO.alike], (fun _ h => nomatch h), .inl fun p => ⟨_, _, rfl⟩⟩
def ltT {α : Type} [TD α] (x y : α) : Bool := PySem.W.dataLt (TD.d x) (TD.d y)
def sortT {α : Type} [TD α] (xs : List α) : List α := xs.mergeSort (PySem.W.dataLe false TD.d)
theorem sortT_len {α : Type} [TD α] (xs : List α) : (sortT xs).length = xs.length := List.length_mergeSort _
def rGeT (α : Type) [TD α] : R2 := fun x y H Q => ∃ (F : Hp) (a b : α), Sub F H ∧ R F x a ∧ R F y b ∧ Q (.bl (!ltT a b)) H
def rLeT' (α : Type) [TD α] : R2 := fun x y H Q => ∃ (F : Hp) (a b : α), Sub F H ∧ R F x a ∧ R F y b ∧ Q (.bl (!ltT b a)) H
def rLtT' (α : Type) [TD α] : R2 := fun x y H Q => ∃ (F : Hp) (a b : α), Sub F H ∧ R F x a ∧ R F y b ∧ Q (.bl (ltT a b)) H
def rGtT (α : Type) [TD α] : R2 := fun x y H Q => ∃ (F : Hp) (a b : α), Sub F H ∧ R F x a ∧ R F y b ∧ Q (.bl (ltT b a)) H
section
variable {X : Cx} {α : Type} [TD α] [SO α]
theorem op_geT' (hd : TD.dep α ≤ 60) (hu : X.A.units + 64 < cLine) : OpR X (compareOp .GtE) (rGeT α) := by
  intro pins s σ H x y v u Q I rx ry h
  obtain ⟨F, a, b, sb, ha, hb, q⟩ := h
  obtain ⟨as, r1⟩ := Dp.reads I _ x v (ha.dp (K := X.K) sb) rx
  obtain ⟨bs, r2⟩ := Dp.reads I _ y u (hb.dp (K := X.K) sb) ry
  have h1 := TD.dle a
  exact PySem.W.ge_data r1 r2 (SO.alike a b) (SO.nn a) (by omega) ⟨.bl _, H, I, rfl, q⟩
theorem op_leT' (hd : TD.dep α ≤ 60) (hu : X.A.units + 64 < cLine) : OpR X (compareOp .LtE) (rLeT' α) := by
  intro pins s σ H x y v u Q I rx ry h
  obtain ⟨F, a, b, sb, ha, hb, q⟩ := h
  obtain ⟨as, r1⟩ := Dp.reads I _ x v (ha.dp (K := X.K) sb) rx
  obtain ⟨bs, r2⟩ := Dp.reads I _ y u (hb.dp (K := X.K) sb) ry
  have h1 := TD.dle a
  exact PySem.W.le_data r1 r2 (SO.alike a b) (SO.nn a) (by omega) ⟨.bl _, H, I, rfl, q⟩
theorem op_ltT' (hd : TD.dep α ≤ 60) (hu : X.A.units + 64 < cLine) : OpR X (compareOp .Lt) (rLtT' α) := by
  intro pins s σ H x y v u Q I rx ry h
  obtain ⟨F, a, b, sb, ha, hb, q⟩ := h
  obtain ⟨as, r1⟩ := Dp.reads I _ x v (ha.dp (K := X.K) sb) rx
  obtain ⟨bs, r2⟩ := Dp.reads I _ y u (hb.dp (K := X.K) sb) ry
  have h1 := TD.dle a
  exact PySem.W.lt_data r1 r2 (SO.alike a b) (SO.nn a) (by omega) ⟨.bl _, H, I, rfl, q⟩
theorem op_gtT' (hd : TD.dep α ≤ 60) (hu : X.A.units + 64 < cLine) : OpR X (compareOp .Gt) (rGtT α) := by
  intro pins s σ H x y v u Q I rx ry h
  obtain ⟨F, a, b, sb, ha, hb, q⟩ := h
  obtain ⟨as, r1⟩ := Dp.reads I _ x v (ha.dp (K := X.K) sb) rx
  obtain ⟨bs, r2⟩ := Dp.reads I _ y u (hb.dp (K := X.K) sb) ry
  have h1 := TD.dle a
  exact PySem.W.gt_data r1 r2 (SO.alike a b) (SO.nn a) (by omega) ⟨.bl _, H, I, rfl, q⟩
/-- the values stand for the items -/
theorem each_of {F : Hp} : ∀ {us : List V} {vs : List Value} {xs : List α}, Vals us vs → Rs F us xs → PySem.W.EachIs (fun v x => ∃ u, RelV u v ∧ R F u x) vs xs
  | _, _, [], r, q => by
    cases q
    cases r; exact .nil
  | _, _, x :: xs, r, q => by
    cases q with
    | cons h1 h2 => cases r with | cons r1 r2 => exact .cons ⟨_, r1, h1⟩ (each_of r2 h2)
theorem of_each {F : Hp} : ∀ {vs : List Value} {xs : List α}, PySem.W.EachIs (fun v x => ∃ u, RelV u v ∧ R F u x) vs xs → ∃ us, Vals us vs ∧ Rs F us xs
  | _, _, .nil => ⟨[], .nil, .nil⟩
  | _, _, .cons ⟨u, h1, h2⟩ t => by
    obtain ⟨us, a, b⟩ := of_each t
    exact ⟨u :: us, .cons h1 a, .cons h2 b⟩
def rSortedT (α : Type) [TD α] : List V → Hp → VK → Prop := fun vs H Q => ∃ (a : Addr) (us : List V) (F : Hp) (xs : List α), vs = [.ref a] ∧ H a = some (.lst us) ∧ Sub F H ∧ Rs F us xs ∧ xs.length ≤ 16777216 ∧
  ∀ p ws, H p = none → Rs F ws (sortT xs) → Q (.ref p) (upd H p (.lst ws))
theorem call_sortedT (hd : TD.dep α ≤ 60) (hu : X.A.units + 200 < cLine) : CallR X (.builtin "sorted") (rSortedT α) := by
  intro pins s σ H vs us0 Q I r h
  obtain ⟨a, us, F, xs, rfl, ha, sb, hr, hl, q⟩ := h
  have hS : SqL X.K H a us := .inl (.inl ha)
  obtain ⟨its, rv, hli, _⟩ := I.list hS
  rw [Vals.ref1 r]
  have e1 := each_of rv hr
  have reads : PySem.W.EachIs (fun v x => ∃ as, Reads s.heap v (TD.d x) as) its xs := e1.mono fun v x ⟨u, r1, r2⟩ => Dp.reads I _ u v (r2.dp (K := X.K) sb) r1
  refine PySem.W.sorted_data (enc := TD.d) (R := fun v x => ∃ u, RelV u v ∧ R F u x) hli.isList e1 reads (PySem.W.AllAlike.of SO.alike) ?_ (by rw [sizeLine_eq]; exact hl) (fun x _ => ?_) fun out hlen eo => ?_
  · rcases SO.kind (α := α) with k | k
    · exact PySem.W.Sortable.tuples k
    · exact PySem.W.Sortable.others fun x => ⟨SO.nn x, k x⟩
  · have h1 := TD.dle x
    omega
  · obtain ⟨ws, w1, w2⟩ := of_each eo
    obtain ⟨ep, he'⟩ := PyProof.Rows.sortedAll_at s.heap its out.toArray
    have hz : ws.length ≤ sizeLine := by rw [Rs_len w2, sizeLine_eq]; show (sortT xs).length ≤ _; rw [sortT_len]; exact hl
    exact ⟨.ref _, upd H (s.heap.objs.size + 1) (.lst ws), I.laid (t' := s.toks) (fun _ _ => PyProof.Rows.sortedAll_old) (Nat.le_succ _) ⟨hz, out, ep, w1, he'⟩, rfl, q _ ws (I.hok.fresh (Nat.le_succ _)) w2⟩
end
theorem hu200 {A : Around} {k : Nat} (hr : Room (k + 1) A) : A.units + 200 < cLine := by have := hr.un; omega
theorem hu200' {A : Around} {k : Nat} (hr : Room k A) : A.units + 200 < cLine := by have := hr.un; omega

/-! #### readings at a K that is written -/
section
variable {X : Cx}
def rLenT (K : PySem.W.Frag) : List V → Hp → VK → Prop := fun xs H Q => ∃ p ys, xs = [V.ref p] ∧ (SqL K H p ys ∨ SqT K H p ys) ∧ Q (.int ys.length) H
theorem call_lenT : CallR X (.builtin "len") (rLenT X.K) := call_len_seq
def rListT (K : PySem.W.Frag) : List V → Hp → VK → Prop := fun xs H Q => ∃ p ys, xs = [V.ref p] ∧ (SqL K H p ys ∨ SqT K H p ys) ∧ ∀ l, H l = none → Q (.ref l) (upd H l (.lst ys))
theorem call_listT : CallR X (.type "list") (rListT X.K) := call_list_of
end

/-! #### simple expressions by a term -/
theorem gr_ex {F H H2 : Hp} (s : Sub F H) (e : Evl.Ex H H2) : Gr NA F H F H2 :=
  ⟨fun a o _ h => e a o h, fun a h => by
    cases q : H a with
    | none => exact absurd q h
    | some o => rw [e a o q]; exact (fun z => nomatch z), Sub.refl F, s.trans e, fun _ _ f => f⟩
theorem useEv {te : TE} {σ : L2.St} {H : Hp} {Q : VK} (v : V) (h : Evl.Ev te σ H v) (k : ∀ H2, Evl.Ex H H2 → Q v H2) : te σ H Q := h H (Evl.Ex.refl H) Q k
theorem useT {tt : TT} {σ : L2.St} {H : Hp} {Q : Bool → Hp → Prop} (b : Bool) (h : Evl.EvT tt σ H b) (k : ∀ H2, Evl.Ex H H2 → Q b H2) : tt σ H Q := h H (Evl.Ex.refl H) Q k
section
variable {K : PySem.W.Frag} {σ : L2.St} {H F : Hp} {ta tb : TE} {α : Type} [TD α]
theorem ev_cmp {p : Int → Int → Bool} {i j : Int} (ha : Evl.Ev ta σ H (.int i)) (hb : Evl.Ev tb σ H (.int j)) : Evl.Ev (tCmp p ta tb) σ H (.bl (p i j)) := fun H1 e Q q =>
  ha H1 e _ fun H2 e2 => hb H2 (e.trans e2) _ fun H3 e3 => ⟨i, j, rfl, rfl, q H3 (e2.trans e3)⟩
theorem isN_opt [NN α] {v : V} {o : Option α} (h : R F v o) : decide (v = .non) = o.isNone := by
  cases o with
  | none => cases (show RD F v .none from h); rfl
  | some x =>
    have h' : RD F v (TD.d x) := h
    have hn : v ≠ .non := fun e => by
      subst e
      generalize hd : TD.d x = d at h'
      cases h'
      exact (NN.nn x).2 hd
    rw [decide_eq_false hn]; rfl
theorem ev_isN [NN α] {v : V} {o : Option α} (ha : Evl.Ev ta σ H v) (h : R F v o) : Evl.Ev (tIsN ta) σ H (.bl o.isNone) := fun H1 e Q q =>
  ha H1 e _ fun H2 e2 => by
    show Q (.bl (decide (v = .non))) H2
    rw [isN_opt h]; exact q H2 e2
theorem ev_notN [NN α] {v : V} {o : Option α} (ha : Evl.Ev ta σ H v) (h : R F v o) : Evl.Ev (tNotN ta) σ H (.bl (!o.isNone)) := fun H1 e Q q =>
  ha H1 e _ fun H2 e2 => by
    show Q (.bl (!decide (v = .non))) H2
    rw [isN_opt h]; exact q H2 e2
theorem ev_eqVar [TE' α] {v w : V} {x y : α} (ha : Evl.Ev ta σ H v) (hb : Evl.Ev tb σ H w) (hx : R H v x) (hy : R H w y) : Evl.Ev (tOp (rEqT α) ta tb) σ H (.bl (eqT x y)) := fun H1 e Q q =>
  ha H1 e _ fun H2 e2 => hb H2 (e.trans e2) _ fun H3 e3 => ⟨H3, x, y, Sub.refl _, hx.mono ((e.trans e2).trans e3), hy.mono ((e.trans e2).trans e3), q H3 (e2.trans e3)⟩
theorem ev_neqVar [TE' α] {v w : V} {x y : α} (ha : Evl.Ev ta σ H v) (hb : Evl.Ev tb σ H w) (hx : R H v x) (hy : R H w y) : Evl.Ev (tOp (rNeT α) ta tb) σ H (.bl (!eqT x y)) := fun H1 e Q q =>
  ha H1 e _ fun H2 e2 => hb H2 (e.trans e2) _ fun H3 e3 => ⟨H3, x, y, Sub.refl _, hx.mono ((e.trans e2).trans e3), hy.mono ((e.trans e2).trans e3), q H3 (e2.trans e3)⟩
theorem ev_eqNil [TE' α] {v : V} {x : List α} (ha : Evl.Ev ta σ H v) (hx : R H v x) : Evl.Ev (tOp (rEqT (List α)) ta (tLst tNil)) σ H (.bl (eqT x [])) := fun H1 e Q q =>
  ha H1 e _ fun H2 e2 => ⟨Nat.zero_le _, fun p hp => ⟨_, x, [], Sub.refl _, hx.mono ((e.trans e2).trans (Evl.Ex.new hp)), mk_lst upd_same Rs_nil, q _ (e2.trans (Evl.Ex.new hp))⟩⟩
theorem ev_neqNil [TE' α] {v : V} {x : List α} (ha : Evl.Ev ta σ H v) (hx : R H v x) : Evl.Ev (tOp (rNeT (List α)) ta (tLst tNil)) σ H (.bl (!eqT x [])) := fun H1 e Q q =>
  ha H1 e _ fun H2 e2 => ⟨Nat.zero_le _, fun p hp => ⟨_, x, [], Sub.refl _, hx.mono ((e.trans e2).trans (Evl.Ex.new hp)), mk_lst upd_same Rs_nil, q _ (e2.trans (Evl.Ex.new hp))⟩⟩
theorem ev_lenT {a : Addr} {us : List V} {xs : List α} (ha : Evl.Ev ta σ H (.ref a)) (h : H a = some (.lst us)) (r : Rs F us xs) :
    Evl.Ev (tCB (rLenT K) (tCons ta tNil)) σ H (.int (xs.length : Int)) := fun H1 e Q q =>
  ha H1 e _ fun H2 e2 => ⟨a, us, rfl, .inl (.inl (.inl (e2 _ _ (e _ _ h)))), by rw [Rs_len r]; exact q H2 e2⟩
end
section
variable {A : Addr → Prop} {F0 H0 F H N H' : Hp} {p : Addr} {o : HO} {us : List V}
theorem Ow.frzo {q : Addr} {ws : List V} (w : Ow H0 F H p us) (h : p ≠ q) (x : Ow H0 F H q ws) : Ow H0 (upd F q (.lst ws)) H p us := ⟨w.at_, by rw [upd_ne h]; exact w.nf, w.n0⟩
end
/-! #### slices, stores -/
def cutT {α : Type} (xs : List α) (lo hi : Option Int) : List α := (xs.drop (HT.sIx xs.length 0 lo)).take (HT.sIx xs.length xs.length hi - HT.sIx xs.length 0 lo)
section
variable {F : Hp} {α : Type} [TD α] {us : List V} {xs : List α}
theorem Rs_take (n : Nat) (r : Rs F us xs) : Rs F (us.take n) (xs.take n) := by unfold Rs; rw [List.map_take]; exact r.take n
theorem Rs_drop (n : Nat) (r : Rs F us xs) : Rs F (us.drop n) (xs.drop n) := by unfold Rs; rw [List.map_drop]; exact r.drop n
theorem Rs_cut {lo hi : Option Int} (r : Rs F us xs) : Rs F (cutV us lo hi) (cutT xs lo hi) := by
  unfold cutV cutT; rw [Rs_len r]; exact Rs_take _ (Rs_drop _ r)
theorem Rs_set {u : V} {x : α} {j : Nat} (r : Rs F us xs) (h : R F u x) : Rs F (us.set j u) (xs.set j x) := by unfold Rs; rw [List.map_set]; exact r.set j h
theorem Rs_ins {u : V} {x : α} {n : Nat} (r : Rs F us xs) (h : R F u x) : Rs F (us.take n ++ [u] ++ us.drop n) (xs.take n ++ [x] ++ xs.drop n) := Rs_app (Rs_app (Rs_take n r) (Rs_cons h Rs_nil)) (Rs_drop n r)
theorem Rs_rep (r : Rs F us xs) : ∀ {n : Nat}, Rs F (List.replicate n us).flatten (List.replicate n xs).flatten
  | 0 => .nil
  | n + 1 => by rw [List.replicate_succ, List.replicate_succ, List.flatten_cons, List.flatten_cons]; exact Rs_app r (Rs_rep r)
end
def Rg1 (j : Int) : Prop := -(2 ^ 62) ≤ j ∧ j < 2 ^ 62
instance (j : Int) : Decidable (Rg1 j) := inferInstanceAs (Decidable (_ ∧ _))
theorem Rg1.lo {j : Int} (h : Rg1 j) : -(2 ^ 62) ≤ j := h.1
theorem Rg1.hi {j : Int} (h : Rg1 j) : j < 2 ^ 62 := h.2
def Rg2 (i j : Int) : Prop := -(2 ^ 62) ≤ i ∧ i < 2 ^ 62 ∧ -(2 ^ 62) ≤ j ∧ j < 2 ^ 62
instance (i j : Int) : Decidable (Rg2 i j) := inferInstanceAs (Decidable (_ ∧ _))
theorem Rg2.ok {i j : Int} (h : Rg2 i j) : -(2 ^ 62) ≤ i ∧ i < 2 ^ 62 ∧ -(2 ^ 62) ≤ j ∧ j < 2 ^ 62 := h
def InsOk (n : Nat) (i : Int) : Prop := n < 16777216 ∧ 0 ≤ i ∧ i < 2 ^ 63
instance (n : Nat) (i : Int) : Decidable (InsOk n i) := inferInstanceAs (Decidable (_ ∧ _))
theorem InsOk.a {n : Nat} {i : Int} (h : InsOk n i) : n < 16777216 := h.1
theorem InsOk.b {n : Nat} {i : Int} (h : InsOk n i) : 0 ≤ i := h.2.1
theorem InsOk.c {n : Nat} {i : Int} (h : InsOk n i) : i < 2 ^ 63 := h.2.2
def Rv (n : Nat) (k : Int) : Prop := (-(2 ^ 63) ≤ k ∧ k < 2 ^ 63) ∧ n * k.toNat ≤ 16777216
instance (n : Nat) (k : Int) : Decidable (Rv n k) := inferInstanceAs (Decidable (_ ∧ _))
theorem Rv.lo {n : Nat} {k : Int} (h : Rv n k) : -(2 ^ 63) ≤ k := h.1.1
theorem Rv.hi {n : Nat} {k : Int} (h : Rv n k) : k < 2 ^ 63 := h.1.2
theorem Rv.sz {n : Nat} {k : Int} (h : Rv n k) : n * k.toNat ≤ 16777216 := h.2
theorem no_none {P : Prop} {α : Type} {r : α} (h : none = some r) : P := nomatch h
theorem ret_true {b : Bool} {Q : VK} {H : Hp} (hm : some b = some true) (q : ∀ H', Q (.bl true) H') : Q (.bl b) H := by cases hm; exact q H
theorem pairp {α β : Type} {a c : α} {b d : β} (h : some (a, b) = some (c, d)) : a = c ∧ b = d := by cases h; exact ⟨rfl, rfl⟩

/-! #### a fresh answer is ours -/
def Fz (H : Hp) (v : V) : Prop := ∀ a, v = .ref a → H a = none
theorem own_of {A B : Addr → Prop} {α : Type} [TD α] {F0 H0 F H N H2 : Hp} {a : Addr} {us : List V} {xs : List α} (G : Gr A F0 H0 F H) (g : Gr B F H N H2) (z : H a = none) (h : N a = some (.lst us)) : Ow H0 F H2 a us :=
  ⟨g.sub _ _ h, G.sub.none z, G.fresh z⟩
theorem Rs_flatI {N F : Hp} {us : List V} {xs : List Int} (r : Rs N us xs) : Rs F us xs := by rw [Rs_int r]; exact int_Rs xs
theorem Rs_flatB {N F : Hp} : ∀ {us : List V} {xs : List Bool}, Rs N us xs → Rs F us xs
  | _, [], r => by cases r; exact .nil
  | _, x :: xs, r => by cases r with | cons h r => cases h; exact .cons (.bl _) (Rs_flatB r)

/-! #### a fresh answer with a list within -/
def NestFz (H N : Hp) (v : V) : Prop := ∀ t b p, v = .ref t → N t = some (.tup [b, .ref p]) → H p = none
def eraseP (N : Hp) (p : Addr) : Hp := fun a => if a = p then none else N a
theorem eraseP_ne {N : Hp} {p a : Addr} (h : a ≠ p) : eraseP N p a = N a := if_neg h
theorem eraseP_same {N : Hp} {p : Addr} : eraseP N p p = none := if_pos rfl
theorem Gr.eraseP {A : Addr → Prop} {F H N H2 : Hp} {p : Addr} (g : Gr A F H N H2) (s : Sub F H) (z : H p = none) : Gr A F H (eraseP N p) H2 :=
  ⟨g.keep, g.there, fun a o e => by
    have : a ≠ p := fun q => by rw [q, s.none z] at e; exact nomatch e
    rw [eraseP_ne this]; exact g.ex a o e, fun a o e => by
    by_cases q : a = p
    · rw [q, eraseP_same] at e; exact nomatch e
    · rw [eraseP_ne q] at e; exact g.sub a o e, fun a h f => by
    by_cases q : a = p
    · rw [q]; exact eraseP_same
    · rw [eraseP_ne q]; exact g.own a h f⟩
theorem own_ofN {A B : Addr → Prop} {F0 H0 F H N H2 : Hp} {a : Addr} {us : List V} (G : Gr A F0 H0 F H) (g : Gr B F H N H2) (z : H a = none) (h : N a = some (.lst us)) : Ow H0 (eraseP N a) H2 a us :=
  ⟨g.sub _ _ h, eraseP_same, G.fresh z⟩
theorem eraseP_tup {N : Hp} {p t : Addr} {us xs : List V} (h : N t = some (.tup xs)) (k : N p = some (.lst us)) : eraseP N p t = some (.tup xs) := by
  rw [eraseP_ne (fun q => by rw [q, k] at h; exact nomatch h)]; exact h
theorem Rs_eraseP {N : Hp} {p : Addr} {us : List V} {xs : List (List Int)} (k : N p = some (.lst us)) (r : Rs N us xs) : Rs (eraseP N p) us xs := by
  have one : ∀ (u : V) (x : List Int), u ∈ us → R N u x → R (eraseP N p) u x := by
    intro u x hu h
    obtain ⟨a, ws, rfl, fa, fr⟩ := lst_of h
    have e := Rs_int fr
    have hne : a ≠ p := fun q => by
      rw [q, k] at fa
      have fa : us = ws := by cases fa; rfl
      rw [fa, e] at hu
      obtain ⟨i, _, hi⟩ := List.mem_map.mp hu
      exact nomatch hi
    exact mk_lst (by rw [eraseP_ne hne]; exact fa) (Rs_flatI fr)
  have all : ∀ (vs : List V) (ys : List (List Int)), (∀ u ∈ vs, u ∈ us) → Rs N vs ys → Rs (eraseP N p) vs ys := by
    intro vs ys
    induction ys generalizing vs with
    | nil => intro _ r; cases r; exact .nil
    | cons y ys ih =>
      intro hs r
      cases r with
      | cons h r => exact Rs_cons (one _ _ (hs _ List.mem_cons_self) h) (ih _ (fun u hu => hs u (List.mem_cons_of_mem _ hu)) r)
  exact all us xs (fun u h => h) r
def PopOk (n : Nat) (i : Int) : Prop := 0 ≤ i ∧ i < n ∧ i < 2 ^ 63
instance (n : Nat) (i : Int) : Decidable (PopOk n i) := inferInstanceAs (Decidable (_ ∧ _))
theorem PopOk.ix {n : Nat} {i : Int} (h : PopOk n i) : seqIndex? i n = some i.toNat := by
  obtain ⟨h0, h1, _⟩ := h
  unfold seqIndex?
  simp [h0, h1] <;> omega
theorem PopOk.get {i : Int} {us : List V} (h : PopOk us.length i) : ∃ y, us[i.toNat]? = some y := ⟨_, List.getElem?_eq_getElem (by have := h.1; have := h.2.1; omega)⟩
theorem PopOk.lo {n : Nat} {i : Int} (h : PopOk n i) : -(2 ^ 63) ≤ i := by have := h.1; omega
theorem Rs_popAt {α : Type} [TD α] {F : Hp} {us : List V} {xs : List α} (r : Rs F us xs) {k : Nat} : Rs F (us.eraseIdx k) (xs.eraseIdx k) := by
  rw [List.eraseIdx_eq_take_drop_succ, List.eraseIdx_eq_take_drop_succ]
  exact Rs_app (Rs_take _ r) (Rs_drop _ r)

/-! #### the deck of the laws' draws -/
abbrev DkS := List (Int × Int × Int) × Int
def Deck (A : Addr → Prop) (H : Hp) (dk : Addr) (st : DkS) : Prop := ∃ (P : Addr) (pas : List Addr), H dk = some (.lst [.ref P, .int st.2]) ∧ H P = some (.lst (pas.map V.ref)) ∧
  Paired (fun pa (p : Int × Int × Int) => H pa = some (.lst [.int p.1, .int p.2.1, .int p.2.2])) pas st.1 ∧ (∀ a, A a ↔ a = dk ∨ a = P ∨ a ∈ pas) ∧ dk ≠ P ∧ dk ∉ pas ∧ P ∉ pas ∧ pas.Nodup
theorem paired_mono {α β : Type} {F G : α → β → Prop} {l : List α} {m : List β} (p : Paired F l m) (f : ∀ a b, a ∈ l → F a b → G a b) : Paired G l m := by
  induction p with
  | nil => exact .nil
  | cons h _ ih => exact .cons (f _ _ List.mem_cons_self h) (ih fun a b ha => f a b (List.mem_cons_of_mem _ ha))
theorem Deck.keep {A : Addr → Prop} {H H' : Hp} {dk : Addr} {st : DkS} (d : Deck A H dk st) (k : ∀ a o, A a → H a = some o → H' a = some o) : Deck A H' dk st := by
  obtain ⟨P, pas, h1, h2, h3, hA, r⟩ := d
  exact ⟨P, pas, k _ _ ((hA _).mpr (.inl rfl)) h1, k _ _ ((hA _).mpr (.inr (.inl rfl))) h2, paired_mono h3 fun a b ha h => k _ _ ((hA _).mpr (.inr (.inr ha))) h, hA, r⟩
theorem paired_left {α β : Type} {F : α → β → Prop} : ∀ {l : List α} {m : List β} {a : α}, Paired F l m → a ∈ l → ∃ b, F a b
  | _, _, _, .nil, h => nomatch h
  | _, _, a, .cons (a := x) h t, hm => by
    rcases List.mem_cons.mp hm with e | e
    · subst e; exact ⟨_, h⟩
    · exact paired_left t e
theorem Deck.there {A : Addr → Prop} {H : Hp} {dk a : Addr} {st : DkS} (d : Deck A H dk st) (h : A a) : H a ≠ none := by
  obtain ⟨P, pas, h1, h2, h3, hA, r⟩ := d
  rcases (hA a).mp h with e | e | e
  · subst e; rw [h1]; exact (fun z => nomatch z)
  · subst e; rw [h2]; exact (fun z => nomatch z)
  · obtain ⟨p, hp⟩ := paired_left h3 e
    rw [hp]; exact (fun z => nomatch z)
structure DkAt (A : Addr → Prop) (H0 F H : Hp) (dk : Addr) (st : DkS) : Prop where
  at_ : Deck A H dk st
  nf : ∀ a, A a → F a = none
  n0 : ∀ a, A a → H0 a ≠ none
section
variable {A : Addr → Prop} {F0 H0 F H N H' : Hp} {p dk : Addr} {o : HO} {us : List V} {st st2 : DkS}
theorem DkAt.mk0 (h : Deck A H dk st) (f : ∀ a, A a → F a = none) : DkAt A H F H dk st := ⟨h, f, fun _ => h.there⟩
theorem DkAt.step (d : DkAt A H0 F H dk st) (g : Gr NA F H N H') : DkAt A H0 N H' dk st := ⟨d.at_.keep fun a o _ h => g.keep a o id h, fun a h => g.own a (d.at_.there h) (d.nf a h), d.n0⟩
theorem DkAt.stepA (d : DkAt A H0 F H dk st) (g : Gr A F H N H') (x : Deck A H' dk st2) : DkAt A H0 N H' dk st2 := ⟨x, fun a h => g.own a (d.at_.there h) (d.nf a h), d.n0⟩
theorem DkAt.out (d : DkAt A H0 F H dk st) (w : Ow H0 F H p us) : ¬ A p := fun h => d.n0 p h w.n0
theorem DkAt.mut {ws : List V} (d : DkAt A H0 F H dk st) (w : Ow H0 F H p us) : DkAt A H0 F (upd H p (.lst ws)) dk st :=
  ⟨d.at_.keep fun a o h e => by rw [upd_ne (show a ≠ p from fun z => d.out w (by rw [← z]; exact h))]; exact e, d.nf, d.n0⟩
theorem DkAt.frz (d : DkAt A H0 F H dk st) (w : Ow H0 F H p us) : DkAt A H0 (upd F p (.lst us)) H dk st :=
  ⟨d.at_, fun a h => by rw [upd_ne (show a ≠ p from fun z => d.out w (by rw [← z]; exact h))]; exact d.nf a h, d.n0⟩
theorem Ow.stepA (w : Ow H0 F H p us) (g : Gr A F H N H') (h : ¬ A p) : Ow H0 N H' p us := ⟨g.keep p _ h w.at_, g.own p (by rw [w.at_]; exact (fun z => nomatch z)) w.nf, w.n0⟩
theorem Gr.mutA (G : Gr A F0 H0 F H) (h : A p) (f : F p = none) : Gr A F0 H0 F (upd H p o) :=
  ⟨fun a u na e => by rw [upd_ne (show a ≠ p from fun z => na (by rw [z]; exact h))]; exact G.keep a u na e, fun a e => by
    by_cases z : a = p
    · subst z; rw [upd_same]; exact (fun z => nomatch z)
    · rw [upd_ne z]; exact G.there a e, G.ex, G.sub.mut f, G.own⟩
end
/-! #### a list that is handed in and grown -/
abbrev HdS := List (Option (List Int) × Option (List Int))
def Held (A : Addr → Prop) (F H : Hp) (dk : Addr) (st : HdS) : Prop := (∃ us, H dk = some (.lst us) ∧ Rs F us st) ∧ F dk = none ∧ ∀ a, A a ↔ a = dk
structure HdAt (A : Addr → Prop) (H0 F H : Hp) (dk : Addr) (st : HdS) : Prop where
  at_ : ∃ us, H dk = some (.lst us) ∧ Rs F us st
  nf : F dk = none
  n0 : H0 dk ≠ none
  ia : ∀ a, A a ↔ a = dk
section
variable {A : Addr → Prop} {F0 H0 F H N H' : Hp} {p q dk : Addr} {o : HO} {us : List V} {st : HdS}
theorem HdAt.mk0 (h : Held A F H dk st) : HdAt A H F H dk st := ⟨h.1, h.2.1, by obtain ⟨⟨us, e, _⟩, _⟩ := h; rw [e]; exact (fun z => nomatch z), h.2.2⟩
theorem HdAt.held (h : HdAt A H0 F H dk st) : Held A F H dk st := ⟨h.at_, h.nf, h.ia⟩
theorem HdAt.step (d : HdAt A H0 F H dk st) (g : Gr NA F H N H') : HdAt A H0 N H' dk st := by
  obtain ⟨us, e, r⟩ := d.at_
  exact ⟨⟨us, g.keep dk _ id e, Rs_mono g.ex r⟩, g.own dk (by rw [e]; exact (fun z => nomatch z)) d.nf, d.n0, d.ia⟩
theorem HdAt.out (d : HdAt A H0 F H dk st) (w : Ow H0 F H p us) : p ≠ dk := fun e => d.n0 (by rw [← e]; exact w.n0)
theorem HdAt.mut {ws : List V} (d : HdAt A H0 F H dk st) (w : Ow H0 F H p us) : HdAt A H0 F (upd H p (.lst ws)) dk st := by
  obtain ⟨us, e, r⟩ := d.at_
  exact ⟨⟨us, by rw [upd_ne (d.out w).symm]; exact e, r⟩, d.nf, d.n0, d.ia⟩
theorem HdAt.frz (d : HdAt A H0 F H dk st) (w : Ow H0 F H p us) : HdAt A H0 (upd F p (.lst us)) H dk st := by
  obtain ⟨vs, e, r⟩ := d.at_
  exact ⟨⟨vs, e, Rs_mono w.ex r⟩, by rw [upd_ne (d.out w).symm]; exact d.nf, d.n0, d.ia⟩
theorem HdAt.app {v : V} {x : Option (List Int) × Option (List Int)} (d : HdAt A H0 F H dk st) (r : Rs F us st) (h : R F v x) : HdAt A H0 F (upd H dk (.lst (us ++ [v]))) dk (st ++ [x]) :=
  ⟨⟨_, upd_same, Rs_snoc r h⟩, d.nf, d.n0, d.ia⟩
theorem Gr.transO (G : Gr A F0 H0 F H) (g : Gr (fun a => a = p) F H N H') (h0 : H0 p = none) : Gr A F0 H0 N H' :=
  ⟨fun a o na e => g.keep a o (fun z => by rw [z, h0] at e; exact nomatch e) (G.keep a o na e), fun a e => g.there a (G.there a e), G.ex.trans g.ex, g.sub, fun a e f => g.own a (G.there a e) (G.own a e f)⟩
theorem DkAt.stepO {st : DkS} (d : DkAt A H0 F H dk st) (g : Gr (fun a => a = p) F H N H') (h0 : H0 p = none) : DkAt A H0 N H' dk st :=
  ⟨d.at_.keep fun a o h e => g.keep a o (fun z => d.n0 a h (by rw [z]; exact h0)) e, fun a h => g.own a (d.at_.there h) (d.nf a h), d.n0⟩
theorem Fz.up {v : V} (G : Gr A F0 H0 F H) (z : Fz H v) : Fz H0 v := fun a e => G.fresh (z a e)
end
theorem nonO_of {α : Type} [TD α] {F : Hp} {v : V} (h : R F v (none : Option α)) : v = .non := by cases (show RD F v .none from h); rfl
def optE {α ρ : Type} (o : Option α) (n : Option ρ) (s : α → Option ρ) : Option ρ := match o with | none => n | some x => s x
theorem optE_cases {α ρ : Type} {o : Option α} {n : Option ρ} {s : α → Option ρ} {z : ρ} (h : optE o n s = some z) : (o = none ∧ n = some z) ∨ ∃ x, o = some x ∧ s x = some z := by
  cases o with
  | none => exact .inl ⟨rfl, h⟩
  | some x => exact .inr ⟨x, rfl, h⟩

/-! #### a deck and a list that is handed in and grown, together -/
def AH (A : Addr → Prop) (h : Addr) : Addr → Prop := fun a => A a ∨ a = h
def HeldQ (A : Addr → Prop) (F H : Hp) (hd : Addr) (st : HdS) : Prop := (∃ us, H hd = some (.lst us) ∧ Rs F us st) ∧ F hd = none ∧ ¬ A hd
/-- the list that was handed in: it is changed in place, and stood ahead -/
structure OwP (A : Addr → Prop) (H0 F H : Hp) (p : Addr) (us : List V) : Prop where
  at_ : H p = some (.lst us)
  nf : F p = none
  n0 : H0 p ≠ none
  na : ¬ A p
section
variable {A : Addr → Prop} {F0 H0 F H N H' : Hp} {p q dk : Addr} {o : HO} {us ws : List V} {st st2 : DkS}
theorem OwP.step (w : OwP A H0 F H p us) (g : Gr NA F H N H') : OwP A H0 N H' p us := ⟨g.keep p _ id w.at_, g.own p (by rw [w.at_]; exact (fun z => nomatch z)) w.nf, w.n0, w.na⟩
theorem OwP.stepA (w : OwP A H0 F H p us) (g : Gr A F H N H') : OwP A H0 N H' p us := ⟨g.keep p _ w.na w.at_, g.own p (by rw [w.at_]; exact (fun z => nomatch z)) w.nf, w.n0, w.na⟩
theorem OwP.mut {xs : List V} (w : OwP A H0 F H p us) : OwP A H0 F (upd H p (.lst xs)) p xs := ⟨upd_same, w.nf, w.n0, w.na⟩
theorem OwP.other {xs : List V} (w : OwP A H0 F H p us) (h : q ≠ p) : OwP A H0 F (upd H q (.lst xs)) p us := ⟨by rw [upd_ne h.symm]; exact w.at_, w.nf, w.n0, w.na⟩
theorem OwP.ne_new (w : OwP A H0 F H p us) (hq : H q = none) : p ≠ q := ne_of_none w.at_ hq
theorem OwP.ne (w : OwP A H0 F H p us) (x : Ow H0 F H q ws) : p ≠ q := fun e => w.n0 (by rw [e]; exact x.n0)
theorem OwP.mutG (w : OwP A H0 F H p us) (G : Gr (AH A p) F0 H0 F H) : Gr (AH A p) F0 H0 F (upd H p o) := G.mutA (.inr rfl) w.nf
theorem OwP.frzo (w : OwP A H0 F H p us) (x : Ow H0 F H q ws) : OwP A H0 (upd F q (.lst ws)) H p us := ⟨w.at_, by rw [upd_ne (w.ne x)]; exact w.nf, w.n0, w.na⟩
theorem OwP.mk0 {hst : HdS} (h : HeldQ A F H p hst) : ∃ us, OwP A H F H p us ∧ Rs F us hst := by
  obtain ⟨⟨us, e, r⟩, nf, na⟩ := h
  exact ⟨us, ⟨e, nf, by rw [e]; exact (fun z => nomatch z), na⟩, r⟩
theorem OwP.held {hst : HdS} (w : OwP A H0 F H p us) (r : Rs F us hst) : HeldQ A F H p hst := ⟨⟨us, w.at_, r⟩, w.nf, w.na⟩
theorem Gr.wid (g : Gr A F H N H') : Gr (AH A p) F H N H' := ⟨fun a o na h => g.keep a o (fun z => na (.inl z)) h, g.there, g.ex, g.sub, g.own⟩
theorem Gr.widR (g : Gr (fun a => a = p) F H N H') : Gr (AH A p) F H N H' := ⟨fun a o na h => g.keep a o (fun z => na (.inr z)) h, g.there, g.ex, g.sub, g.own⟩
theorem Gr.transAH (G : Gr A F0 H0 F H) (g : Gr (AH A p) F H N H') (h0 : H0 p = none) : Gr A F0 H0 N H' :=
  ⟨fun a o na e => g.keep a o (fun z => z.elim na fun z => by rw [z, h0] at e; exact nomatch e) (G.keep a o na e), fun a e => g.there a (G.there a e), G.ex.trans g.ex, g.sub, fun a e f => g.own a (G.there a e) (G.own a e f)⟩
theorem DkAt.mutP {xs : List V} (d : DkAt A H0 F H dk st) (w : OwP A H0 F H p us) : DkAt A H0 F (upd H p (.lst xs)) dk st :=
  ⟨d.at_.keep fun a o h e => by rw [upd_ne (show a ≠ p from fun z => w.na (by rw [← z]; exact h))]; exact e, d.nf, d.n0⟩
theorem DkAt.stepP (d : DkAt A H0 F H dk st) (g : Gr (fun a => a = p) F H N H') (na : ¬ A p) : DkAt A H0 N H' dk st :=
  ⟨d.at_.keep fun a o h e => g.keep a o (fun z => na (by rw [← z]; exact h)) e, fun a h => g.own a (d.at_.there h) (d.nf a h), d.n0⟩
theorem DkAt.stepAH (d : DkAt A H0 F H dk st) (g : Gr (AH A p) F H N H') (x : Deck A H' dk st2) : DkAt A H0 N H' dk st2 := ⟨x, fun a h => g.own a (d.at_.there h) (d.nf a h), d.n0⟩
end
/-! #### sorted, and which values it is of -/
def rSortedM (α : Type) [TD α] : List V → Hp → VK → Prop := fun vs H Q => ∃ (a : Addr) (us : List V) (F : Hp) (xs : List α), vs = [.ref a] ∧ H a = some (.lst us) ∧ Sub F H ∧ Rs F us xs ∧ xs.length ≤ 16777216 ∧
  ∀ p ws, H p = none → Rs F ws (sortT xs) → (∀ w ∈ ws, w ∈ us) → Q (.ref p) (upd H p (.lst ws))

section
variable {X : Cx} {α : Type} [TD α] [SO α]
theorem each_ofM {F : Hp} {ms : List V} : ∀ {us : List V} {vs : List Value} {xs : List α}, (∀ u ∈ us, u ∈ ms) → Vals us vs → Rs F us xs → PySem.W.EachIs (fun v x => ∃ u, RelV u v ∧ R F u x ∧ u ∈ ms) vs xs
  | _, _, [], _, r, q => by
    cases q
    cases r; exact .nil
  | _, _, x :: xs, hm, r, q => by
    cases q with
    | cons h1 h2 => cases r with | cons r1 r2 => exact .cons ⟨_, r1, h1, hm _ List.mem_cons_self⟩ (each_ofM (fun u hu => hm u (List.mem_cons_of_mem _ hu)) r2 h2)
theorem of_eachM {F : Hp} {ms : List V} : ∀ {vs : List Value} {xs : List α}, PySem.W.EachIs (fun v x => ∃ u, RelV u v ∧ R F u x ∧ u ∈ ms) vs xs → ∃ us, Vals us vs ∧ Rs F us xs ∧ ∀ u ∈ us, u ∈ ms
  | _, _, .nil => ⟨[], .nil, .nil, fun _ h => absurd h List.not_mem_nil⟩
  | _, _, .cons ⟨u, h1, h2, h3⟩ t => by
    obtain ⟨us, a, b, c⟩ := of_eachM t
    exact ⟨u :: us, .cons h1 a, .cons h2 b, fun w hw => (List.mem_cons.mp hw).elim (fun e => by rw [e]; exact h3) (c w)⟩
theorem call_sortedM (hd : TD.dep α ≤ 60) (hu : X.A.units + 200 < cLine) : CallR X (.builtin "sorted") (rSortedM α) := by
  intro pins s σ H vs us0 Q I r h
  obtain ⟨a, us, F, xs, rfl, ha, sb, hr, hl, q⟩ := h
  have hS : SqL X.K H a us := .inl (.inl ha)
  obtain ⟨its, rv, hli, _⟩ := I.list hS
  rw [Vals.ref1 r]
  have e1 := each_ofM (ms := us) (fun _ h => h) rv hr
  have reads : PySem.W.EachIs (fun v x => ∃ as, Reads s.heap v (TD.d x) as) its xs := e1.mono fun v x ⟨u, r1, r2, _⟩ => Dp.reads I _ u v (r2.dp (K := X.K) sb) r1
  refine PySem.W.sorted_data (enc := TD.d) (R := fun v x => ∃ u, RelV u v ∧ R F u x ∧ u ∈ us) hli.isList e1 reads (PySem.W.AllAlike.of SO.alike) ?_ (by rw [sizeLine_eq]; exact hl) (fun x _ => ?_) fun out hlen eo => ?_
  · rcases SO.kind (α := α) with k | k
    · exact PySem.W.Sortable.tuples k
    · exact PySem.W.Sortable.others fun x => ⟨SO.nn x, k x⟩
  · have h1 := TD.dle x
    omega
  · obtain ⟨ws, w1, w2, w3⟩ := of_eachM eo
    obtain ⟨ep, he'⟩ := PyProof.Rows.sortedAll_at s.heap its out.toArray
    have hz : ws.length ≤ sizeLine := by rw [Rs_len w2, sizeLine_eq]; show (sortT xs).length ≤ _; rw [sortT_len]; exact hl
    exact ⟨.ref _, upd H (s.heap.objs.size + 1) (.lst ws), I.laid (t' := s.toks) (fun _ _ => PyProof.Rows.sortedAll_old) (Nat.le_succ _) ⟨hz, out, ep, w1, he'⟩, rfl, q _ ws (I.hok.fresh (Nat.le_succ _)) w2 w3⟩
end

/-- one draw -/
def mixD (x t many : Int) : Int :=
  let a := (x % 99999999977 + 700001 * t) % 99999999947
  let b := a * a % 99999999821
  let c := b * (b + 19) % 9999999967
  c / 13 % many
def _law_draw (st : DkS) (many : Int) : Option (Int × DkS) :=
  if Dv many then
    (st.1[(st.2 % (st.1.length : Int)).toNat]?).bind fun p =>
      if p.2.1 = 1 ∧ 0 < p.1 then some (p.1 % many, (st.1.set (st.2 % (st.1.length : Int)).toNat (p.1 / many, p.2.1, p.2.2), st.2 + 1))
      else some (mixD p.1 (p.2.2 + 1) many, (st.1.set (st.2 % (st.1.length : Int)).toNat (p.1, p.2.1, p.2.2 + 1), st.2 + 1))
  else none
def poolOf (cells : List Int) (k : Nat) : Int × Int × Int :=
  let cell := cells.getD k 0
  (cell, (if decide ((10 : Int) ^ (18 : Int).toNat ≤ cell) = true then 1 else 0), 31 * (k : Int))
def deckLen (cells : List Int) : Nat := max 1 (min 63 cells.length)
def mkDeck (cells : List Int) : DkS := ((List.range (deckLen cells)).map (poolOf cells), 0)

/-! #### a constant of the module -/
structure CAt (mg : Str → Option Value) (nm : Str) (i : Int) where
  t : Tok
  g : mg nm = some (.int i t)

/-! #### a def of the text, where it stands -/
structure FnAt (K : PySem.W.Frag) (mg : Str → Option Value) (nm : Str) (st : Stmt) (ps : List Str) where
  f : Addr
  fd : FuncData
  F : Fun K nm nm st f fd
  g : mg nm = some (.ref f)
  b : Binds K fd ps []
end My

namespace My
open PySem PySem.Spec PyProof.Rows L2
/-! #### data whose lists are all new -/
mutual
inductive RN (H0 F : Hp) : V → PyData → Prop
  | non : RN H0 F .non .none
  | bl (b : Bool) : RN H0 F (.bl b) (.bool b)
  | int (i : Int) : RN H0 F (.int i) (.int i)
  | str (x : Str) : RN H0 F (.str x) (.str x)
  | lst {a : Addr} {us : List V} {ds : List PyData} : H0 a = none → F a = some (.lst us) → RNs H0 F us ds → RN H0 F (.ref a) (.list ds)
  | tup {a : Addr} {us : List V} {ds : List PyData} : F a = some (.tup us) → RNs H0 F us ds → RN H0 F (.ref a) (.tuple ds)
inductive RNs (H0 F : Hp) : List V → List PyData → Prop
  | nil : RNs H0 F [] []
  | cons {v : V} {us : List V} {d : PyData} {ds : List PyData} : RN H0 F v d → RNs H0 F us ds → RNs H0 F (v :: us) (d :: ds)
end
mutual
theorem RN.rd {H0 F : Hp} : ∀ {d : PyData} {v : V}, RN H0 F v d → RD F v d
  | _, _, .non => .non
  | _, _, .bl b => .bl b
  | _, _, .int i => .int i
  | _, _, .str x => .str x
  | _, _, .lst _ h r => .lst h (RNs.rds r)
  | _, _, .tup h r => .tup h (RNs.rds r)
theorem RNs.rds {H0 F : Hp} : ∀ {ds : List PyData} {us : List V}, RNs H0 F us ds → RDs F us ds
  | _, _, .nil => .nil
  | _, _, .cons h r => .cons (RN.rd h) (RNs.rds r)
end
mutual
theorem RN.mono {H0 F N : Hp} (s : Sub F N) : ∀ {d : PyData} {v : V}, RN H0 F v d → RN H0 N v d
  | _, _, .non => .non
  | _, _, .bl b => .bl b
  | _, _, .int i => .int i
  | _, _, .str x => .str x
  | _, _, .lst n h r => .lst n (s _ _ h) (RNs.mono s r)
  | _, _, .tup h r => .tup (s _ _ h) (RNs.mono s r)
theorem RNs.mono {H0 F N : Hp} (s : Sub F N) : ∀ {ds : List PyData} {us : List V}, RNs H0 F us ds → RNs H0 N us ds
  | _, _, .nil => .nil
  | _, _, .cons h r => .cons (RN.mono s h) (RNs.mono s r)
end
mutual
/-- new ahead of a later heap, new ahead of an earlier one -/
theorem RN.up {H1 H0 F : Hp} (s : ∀ a, H1 a = none → H0 a = none) : ∀ {d : PyData} {v : V}, RN H1 F v d → RN H0 F v d
  | _, _, .non => .non
  | _, _, .bl b => .bl b
  | _, _, .int i => .int i
  | _, _, .str x => .str x
  | _, _, .lst n h r => .lst (s _ n) h (RNs.up s r)
  | _, _, .tup h r => .tup h (RNs.up s r)
theorem RNs.up {H1 H0 F : Hp} (s : ∀ a, H1 a = none → H0 a = none) : ∀ {ds : List PyData} {us : List V}, RNs H1 F us ds → RNs H0 F us ds
  | _, _, .nil => .nil
  | _, _, .cons h r => .cons (RN.up s h) (RNs.up s r)
end
theorem RNs.append {H0 F : Hp} : ∀ {us ws : List V} {ds es : List PyData}, RNs H0 F us ds → RNs H0 F ws es → RNs H0 F (us ++ ws) (ds ++ es)
  | _, _, _, _, .nil, s => s
  | _, _, _, _, .cons h r, s => .cons h (RNs.append r s)
mutual
theorem RN.of {H0 F : Hp} : ∀ {d d' : PyData} {v : V}, RN H0 F v d' → RD F v d → RN H0 F v d
  | _, _, _, .non, r => by cases r; exact .non
  | _, _, _, .bl b, r => by cases r; exact .bl b
  | _, _, _, .int i, r => by cases r; exact .int i
  | _, _, _, .str x, r => by cases r; exact .str x
  | _, _, _, .lst n h q, r => by
    cases r with
    | lst h' q' => rw [h] at h'; cases h'; exact .lst n h (RNs.of q q')
    | tup h' q' => rw [h] at h'; cases h'
  | _, _, _, .tup h q, r => by
    cases r with
    | lst h' q' => rw [h] at h'; cases h'
    | tup h' q' => rw [h] at h'; cases h'; exact .tup h (RNs.of q q')
theorem RNs.of {H0 F : Hp} : ∀ {ds ds' : List PyData} {us : List V}, RNs H0 F us ds' → RDs F us ds → RNs H0 F us ds
  | _, _, _, .nil, r => by cases r; exact .nil
  | _, _, _, .cons h q, r => by cases r with | cons h' q' => exact .cons (RN.of h h') (RNs.of q q')
end
theorem RNs.mem {H0 F : Hp} : ∀ {us : List V} {ds : List PyData} {u : V}, RNs H0 F us ds → u ∈ us → ∃ d, RN H0 F u d
  | _, _, _, .nil, h => absurd h List.not_mem_nil
  | _, _, u, .cons h r, hm => by
    rcases List.mem_cons.mp hm with e | e
    · subst e; exact ⟨_, h⟩
    · exact RNs.mem r e
theorem RNs.sub {H0 F : Hp} {us : List V} {ds : List PyData} (r : RNs H0 F us ds) : ∀ {ws : List V} {es : List PyData}, (∀ w ∈ ws, w ∈ us) → RDs F ws es → RNs H0 F ws es
  | _, _, _, .nil => .nil
  | _, _, k, .cons h q => by
    obtain ⟨d, hd⟩ := r.mem (k _ List.mem_cons_self)
    exact .cons (hd.of h) (RNs.sub r (fun w hw => k w (List.mem_cons_of_mem _ hw)) q)
abbrev NR {α : Type} [TD α] (H0 F : Hp) (v : V) (x : α) : Prop := RN H0 F v (TD.d x)
abbrev NRs {α : Type} [TD α] (H0 F : Hp) (us : List V) (xs : List α) : Prop := RNs H0 F us (xs.map TD.d)
section
variable {α β : Type} [TD α] [TD β] {H0 F N : Hp} {v u : V} {us ws : List V} {xs ys : List α} {x : α}
theorem NR_lst_of (h : NR H0 F v xs) : ∃ a us, v = .ref a ∧ F a = some (.lst us) ∧ NRs H0 F us xs ∧ H0 a = none := by
  cases h with | lst n h r => exact ⟨_, _, rfl, h, r, n⟩
theorem NR_tup2_of {p : α × β} (h : NR H0 F v p) : ∃ a v1 v2, v = .ref a ∧ F a = some (.tup [v1, v2]) ∧ NR H0 F v1 p.1 ∧ NR H0 F v2 p.2 := by
  cases h with | tup h r => cases r with | cons h1 r => cases r with | cons h2 r => cases r; exact ⟨_, _, _, rfl, h, h1, h2⟩
theorem NRs_nil : NRs (α := α) H0 F [] [] := .nil
theorem NRs_cons (h : NR H0 F u x) (r : NRs H0 F us xs) : NRs H0 F (u :: us) (x :: xs) := .cons h r
theorem NRs_snoc (r : NRs H0 F us xs) (h : NR H0 F u x) : NRs H0 F (us ++ [u]) (xs ++ [x]) := by
  unfold NRs; rw [List.map_append]; exact RNs.append r (.cons h .nil)
theorem NRs_mono (s : Sub F N) (r : NRs H0 F us xs) : NRs H0 N us xs := RNs.mono s r
theorem NRs_rs (r : NRs H0 F us xs) : Rs F us xs := RNs.rds r
theorem NR_r (r : NR H0 F v x) : R F v x := RN.rd r
theorem NRs_sub (r : NRs H0 F us xs) (k : ∀ w ∈ ws, w ∈ us) (q : Rs F ws ys) : NRs H0 F ws ys := RNs.sub r k q
theorem NRs_mem (r : NRs H0 F us xs) (k : u ∈ us) (q : R F u x) : NR H0 F u x := by
  obtain ⟨d, hd⟩ := RNs.mem r k
  exact hd.of q
theorem NRs_flatI {us : List V} {xs : List Int} (r : Rs F us xs) : NRs H0 F us xs := by
  induction xs generalizing us with
  | nil => cases r; exact .nil
  | cons x xs ih => cases r with | cons h r => cases h; exact .cons (.int _) (ih r)
theorem mkN_lst {a : Addr} (n : H0 a = none) (h : F a = some (.lst us)) (r : NRs H0 F us xs) : NR H0 F (.ref a) xs := .lst n h r
theorem mkN_tup2 {a : Addr} {v1 v2 : V} {p : α × β} (h : F a = some (.tup [v1, v2])) (h1 : NR H0 F v1 p.1) (h2 : NR H0 F v2 p.2) : NR H0 F (.ref a) p := .tup h (.cons h1 (.cons h2 .nil))
theorem NRs_cut {lo hi : Option Int} (r : NRs H0 F us xs) : NRs H0 F (cutV us lo hi) (cutT xs lo hi) :=
  NRs_sub r (fun w hw => by unfold cutV at hw; exact List.mem_of_mem_drop (List.mem_of_mem_take hw)) (Rs_cut (NRs_rs r))
end

/-! #### a list of lists that is all ours -/
structure OwL (H0 F H : Hp) (p : Addr) (as : List Addr) (xs : List (List Int)) : Prop where
  at_ : H p = some (.lst (as.map V.ref))
  it : Paired (fun a (x : List Int) => H a = some (.lst (x.map V.int))) as xs
  nd : (p :: as).Nodup
  nf : ∀ a ∈ p :: as, F a = none
  n0 : ∀ a ∈ p :: as, H0 a = none
theorem prd_mono {α β : Type} {F G : α → β → Prop} {l : List α} {m : List β} (p : Paired F l m) (f : ∀ a b, a ∈ l → F a b → G a b) : Paired G l m := paired_mono p f
theorem prd_get {α β : Type} {F : α → β → Prop} : ∀ {l : List α} {m : List β} {i : Nat} {b : β}, Paired F l m → m[i]? = some b → ∃ a, l[i]? = some a ∧ F a b
  | _, _, _, _, .nil, e => by simp at e
  | _, _, 0, _, .cons h _, e => by simp at e; subst e; exact ⟨_, rfl, h⟩
  | _, _, i + 1, _, .cons _ t, e => by
    obtain ⟨a, h1, h2⟩ := prd_get (i := i) t (by simpa using e)
    exact ⟨a, by simpa using h1, h2⟩
theorem prd_getL {α β : Type} {F : α → β → Prop} : ∀ {l : List α} {m : List β} {i : Nat} {a : α}, Paired F l m → l[i]? = some a → ∃ b, m[i]? = some b ∧ F a b
  | _, _, _, _, .nil, e => by simp at e
  | _, _, 0, _, .cons h _, e => by simp at e; subst e; exact ⟨_, rfl, h⟩
  | _, _, i + 1, _, .cons _ t, e => by
    obtain ⟨a, h1, h2⟩ := prd_getL (i := i) t (by simpa using e)
    exact ⟨a, by simpa using h1, h2⟩
theorem prd_len {α β : Type} {F : α → β → Prop} : ∀ {l : List α} {m : List β}, Paired F l m → l.length = m.length
  | _, _, .nil => rfl
  | _, _, .cons _ t => by simp [prd_len t]
theorem prd_left {α β : Type} {F : α → β → Prop} : ∀ {l : List α} {m : List β} {a : α}, Paired F l m → a ∈ l → ∃ b, b ∈ m ∧ F a b
  | _, _, _, .nil, h => absurd h List.not_mem_nil
  | _, _, a, .cons h t, hm => by
    rcases List.mem_cons.mp hm with e | e
    · subst e; exact ⟨_, List.mem_cons_self, h⟩
    · obtain ⟨b, hb, hf⟩ := prd_left t e
      exact ⟨b, List.mem_cons_of_mem _ hb, hf⟩
theorem prd_set {α β : Type} {F G : α → β → Prop} : ∀ {l : List α} {m : List β} {i : Nat} {a : α} {b : β}, Paired F l m → l[i]? = some a → l.Nodup → (∀ a' b', a' ∈ l → a' ≠ a → F a' b' → G a' b') → G a b → Paired G l (m.set i b)
  | _, _, _, _, _, .nil, e, _, _, _ => by simp at e
  | _, _, 0, a, b, .cons (a := x) h t, e, nd, f, g => by
    simp at e; subst e
    refine .cons g ?_
    have nd' := List.nodup_cons.mp nd
    exact paired_mono t fun a' b' ha hF => f a' b' (List.mem_cons_of_mem _ ha) (fun z => nd'.1 (z ▸ ha)) hF
  | _, _, i + 1, a, b, .cons (a := x) h t, e, nd, f, g => by
    have nd' := List.nodup_cons.mp nd
    have e' := e
    simp at e'
    refine .cons (f _ _ List.mem_cons_self (fun z => ?_) h) (prd_set (i := i) t e' nd'.2 (fun a' b' ha => f a' b' (List.mem_cons_of_mem _ ha)) g)
    rw [z] at nd'
    exact nd'.1 (List.mem_of_getElem? e')
theorem prd_snoc {α β : Type} {F : α → β → Prop} {a : α} {b : β} : ∀ {l : List α} {m : List β}, Paired F l m → F a b → Paired F (l ++ [a]) (m ++ [b])
  | _, _, .nil, h => .cons h .nil
  | _, _, .cons g t, h => .cons g (prd_snoc t h)
theorem map_int_inj {x y : List Int} (h : x.map V.int = y.map V.int) : x = y := by
  induction x generalizing y with
  | nil => cases y with
    | nil => rfl
    | cons => cases h
  | cons a x ih => cases y with
    | nil => cases h
    | cons b y =>
      rw [List.map_cons, List.map_cons, List.cons.injEq] at h
      obtain ⟨h1, h2⟩ := h
      cases h1
      rw [ih h2]
theorem addrs_of {H0 F : Hp} : ∀ {us : List V} {xs : List (List Int)}, NRs H0 F us xs → ∃ as : List Addr, us = as.map V.ref ∧ Paired (fun a (x : List Int) => F a = some (.lst (x.map V.int)) ∧ H0 a = none) as xs
  | _, [], r => by cases r; exact ⟨[], rfl, .nil⟩
  | _, x :: xs, r => by
    cases r with
    | cons h r =>
      obtain ⟨as, rfl, p⟩ := addrs_of (xs := xs) r
      obtain ⟨a, ws, rfl, fa, fr, n⟩ := NR_lst_of h
      exact ⟨a :: as, rfl, .cons ⟨by rw [fa, Rs_int (NRs_rs fr)], n⟩ p⟩
theorem nodup_prd {F : Hp} {H0 : Hp} : ∀ {as : List Addr} {xs : List (List Int)}, Paired (fun a (x : List Int) => F a = some (.lst (x.map V.int)) ∧ H0 a = none) as xs → xs.Nodup → as.Nodup
  | _, _, .nil, _ => List.nodup_nil
  | _, _, .cons h t, nd => by
    have nd' := List.nodup_cons.mp nd
    refine List.nodup_cons.mpr ⟨fun hm => ?_, nodup_prd t nd'.2⟩
    obtain ⟨y, hy, e, _⟩ := prd_left t hm
    rw [h.1] at e
    have e2 := HO.lst.inj (Option.some.inj e)
    rw [map_int_inj e2] at nd'
    exact nd'.1 hy
section
variable {A B : Addr → Prop} {F0 H0 F H N H' : Hp} {p q dk : Addr} {as : List Addr} {us ws : List V} {xs : List (List Int)} {x y : List Int} {st st2 : DkS} {o : HO}
theorem OwL.of (G : Gr A F0 H0 F H) (g : Gr B F H N H') (r : NR H N (.ref p) xs) (nd : xs.Nodup) : ∃ as, OwL H0 F H' p as xs ∧ ∀ a ∈ p :: as, H a = none := by
  obtain ⟨p', us, e, fa, fr, np⟩ := NR_lst_of r
  cases e
  obtain ⟨as, rfl, pr⟩ := addrs_of fr
  have fz : ∀ a ∈ p :: as, H a = none := fun a ha => by
    rcases List.mem_cons.mp ha with e | e
    · rw [e]; exact np
    · obtain ⟨_, _, _, n⟩ := prd_left pr e
      exact n
  refine ⟨as, ⟨g.sub _ _ fa, paired_mono pr fun a x _ h => g.sub _ _ h.1, List.nodup_cons.mpr ⟨fun hm => ?_, nodup_prd pr nd⟩, fun a ha => G.sub.none (fz a ha), fun a ha => G.fresh (fz a ha)⟩, fz⟩
  obtain ⟨x, _, e, _⟩ := prd_left pr hm
  rw [fa] at e
  have e2 := HO.lst.inj (Option.some.inj e)
  cases as with
  | nil => exact absurd hm List.not_mem_nil
  | cons b as =>
    cases x with
    | nil => cases e2
    | cons i x => cases (List.cons.inj e2).1
theorem OwL.mem (w : OwL H0 F H p as xs) {a : Addr} (h : a ∈ as) : ∃ x : List Int, H a = some (.lst (x.map V.int)) := by
  obtain ⟨x, _, e⟩ := prd_left w.it h
  exact ⟨x, e⟩
theorem OwL.some_ (w : OwL H0 F H p as xs) : ∀ a ∈ p :: as, H a ≠ none := fun a ha => by
  rcases List.mem_cons.mp ha with e | e
  · rw [e, w.at_]; exact (fun z => nomatch z)
  · obtain ⟨x, e⟩ := w.mem e
    rw [e]; exact (fun z => nomatch z)
theorem OwL.len (w : OwL H0 F H p as xs) : as.length = xs.length := prd_len w.it
theorem OwL.keep (w : OwL H0 F H p as xs) (k : ∀ a o, a ∈ p :: as → H a = some o → H' a = some o) (nf : ∀ a ∈ p :: as, N a = none) : OwL H0 N H' p as xs :=
  ⟨k _ _ List.mem_cons_self w.at_, paired_mono w.it fun a x ha h => k _ _ (List.mem_cons_of_mem _ ha) h, w.nd, nf, w.n0⟩
theorem OwL.step (w : OwL H0 F H p as xs) (g : Gr NA F H N H') : OwL H0 N H' p as xs := w.keep (fun a o _ h => g.keep a o id h) fun a ha => g.own a (w.some_ a ha) (w.nf a ha)
theorem OwL.stepA (w : OwL H0 F H p as xs) (g : Gr A F H N H') (h : ∀ a ∈ p :: as, ¬ A a) : OwL H0 N H' p as xs := w.keep (fun a o ha e => g.keep a o (h a ha) e) fun a ha => g.own a (w.some_ a ha) (w.nf a ha)
theorem OwL.other (w : OwL H0 F H p as xs) (h : q ∉ p :: as) : OwL H0 F (upd H q (.lst ws)) p as xs := w.keep (fun a o ha e => by rw [upd_ne (show a ≠ q from fun z => h (by rw [← z]; exact ha))]; exact e) w.nf
theorem OwL.frzo (w : OwL H0 F H p as xs) (h : q ∉ p :: as) (x : Ow H0 F H q ws) : OwL H0 (upd F q (.lst ws)) H p as xs := w.keep (fun _ _ _ e => e) fun a ha => by rw [upd_ne (show a ≠ q from fun z => h (by rw [← z]; exact ha))]; exact w.nf a ha
theorem OwL.ne_new (w : OwL H0 F H p as xs) (hq : H q = none) : q ∉ p :: as := fun h => w.some_ q h hq
theorem Gr.subN (g : Gr NA F H N H') : Sub H H' := fun a o e => g.keep a o id e
theorem OwL.ne_push {r : Addr} (h : r ∉ p :: as) (k : r ≠ q) : r ∉ p :: (as ++ [q]) := fun hm => by
  rcases List.mem_cons.mp hm with e | e
  · exact h (by rw [e]; exact List.mem_cons_self)
  · rcases List.mem_append.mp e with e | e
    · exact h (List.mem_cons_of_mem _ e)
    · exact k (List.mem_singleton.mp e)
theorem Ow.ne_fz {l : List Addr} (w : Ow H0 F H q us) (fz : ∀ a ∈ l, H a = none) : q ∉ l := fun h => by have := fz q h; rw [w.at_] at this; cases this
theorem OwP.ne_l {hd : Addr} (w : OwP A H0 F H hd us) (x : OwL H0 N H' p as xs) : hd ∉ p :: as := fun h => w.n0 (x.n0 hd h)
theorem DkAt.outL (d : DkAt A H0 F H dk st) (w : OwL H0 F H p as xs) : ∀ a ∈ p :: as, ¬ A a := fun a ha h => d.n0 a h (w.n0 a ha)
theorem OwL.read (w : OwL H0 F H p as xs) : Rs H (as.map V.ref) xs := by
  have : ∀ {as : List Addr} {xs : List (List Int)}, Paired (fun a (x : List Int) => H a = some (.lst (x.map V.int))) as xs → Rs H (as.map V.ref) xs := by
    intro as xs pr
    induction pr with
    | nil => exact .nil
    | cons h _ ih => exact .cons (mk_lst h (int_Rs _)) ih
  exact this w.it
theorem OwL.rd (w : OwL H0 F H p as xs) : R H (.ref p) xs := mk_lst w.at_ w.read
theorem OwL.item (w : OwL H0 F H p as xs) {j : Nat} {a : Addr} (ha : as[j]? = some a) (hx : xs[j]? = some x) : H a = some (.lst (x.map V.int)) := by
  obtain ⟨b, e, h⟩ := prd_get w.it hx
  rw [ha] at e; cases e; exact h
theorem OwL.ix (w : OwL H0 F H p as xs) {i : Int} (h : atI xs i = some x) : ∃ (j : Nat) (a : Addr), ixN xs.length i = some j ∧ xs[j]? = some x ∧ as[j]? = some a ∧ atI (as.map V.ref) i = some (.ref a) := by
  unfold atI at h
  cases e : ixN xs.length i with
  | none => rw [e] at h; cases h
  | some j =>
    rw [e] at h
    have h' : xs[j]? = some x := h
    obtain ⟨a, e2, _⟩ := prd_get w.it h'
    refine ⟨j, a, rfl, h', e2, ?_⟩
    unfold atI
    rw [List.length_map, w.len, e]
    show (as.map V.ref)[j]? = _
    rw [List.getElem?_map, e2]; rfl
theorem OwL.ix2 (w : OwL H0 F H p as xs) {i : Int} (h : atI xs i = some x) : ∃ a : Addr, xs[(ixN xs.length i).getD 0]? = some x ∧ as[(ixN xs.length i).getD 0]? = some a ∧ atI (as.map V.ref) i = some (.ref a) := by
  obtain ⟨j, a, e, h1, h2, h3⟩ := w.ix h
  exact ⟨a, by rw [e]; exact h1, by rw [e]; exact h2, h3⟩
theorem OwL.set_get (w : OwL H0 F H p as xs) {j : Nat} {a : Addr} (ha : as[j]? = some a) : (xs.set j y)[j]? = some y := by
  have h := (List.getElem?_eq_some_iff.mp ha).1
  rw [w.len] at h
  rw [List.getElem?_set_self h]
theorem OwL.cut {lo hi : Option Int} (w : OwL H0 F (upd H q (.lst (cutV (as.map V.ref) lo hi))) p as xs) : R (upd H q (.lst (cutV (as.map V.ref) lo hi))) (.ref q) (cutT xs lo hi) := mk_lst upd_same (Rs_cut w.read)
theorem OwL.memA {j : Nat} {a : Addr} (ha : as[j]? = some a) : a ∈ p :: as := List.mem_cons_of_mem _ (List.mem_of_getElem? ha)
theorem OwL.put (w : OwL H0 F H p as xs) {j : Nat} {a : Addr} (ha : as[j]? = some a) (hu : us = y.map V.int) : OwL H0 F (upd H a (.lst us)) p as (xs.set j y) := by
  subst hu
  have nd := List.nodup_cons.mp w.nd
  have hm := List.mem_of_getElem? ha
  refine ⟨by rw [upd_ne (show p ≠ a from fun z => nd.1 (by rw [z]; exact hm))]; exact w.at_, prd_set w.it ha nd.2 (fun a' b' _ ne h => by rw [upd_ne ne]; exact h) upd_same, w.nd, w.nf, w.n0⟩
theorem OwL.mutG (w : OwL H0 F H p as xs) {a : Addr} (ha : a ∈ p :: as) (G : Gr A F0 H0 F H) : Gr A F0 H0 F (upd H a o) := G.mut (w.n0 a ha) (w.nf a ha)
theorem OwL.ne_it {a : Addr} (h : q ∉ p :: as) (ha : a ∈ p :: as) : a ≠ q := fun z => h (by rw [← z]; exact ha)
theorem OwL.push (w : OwL H0 F H p as xs) (x : Ow H0 F H q us) (h : q ∉ p :: as) (r : Rs N us y) : OwL H0 F (upd H p (.lst (as.map V.ref ++ [.ref q]))) p (as ++ [q]) (xs ++ [y]) := by
  have nd := List.nodup_cons.mp w.nd
  have hq := x.at_
  rw [Rs_int r] at hq
  have mm : ∀ a, a ∈ p :: (as ++ [q]) → a ∈ p :: as ∨ a = q := fun a ha => by
    rcases List.mem_cons.mp ha with e | e
    · exact .inl (by rw [e]; exact List.mem_cons_self)
    · rcases List.mem_append.mp e with e | e
      · exact .inl (List.mem_cons_of_mem _ e)
      · exact .inr (List.mem_singleton.mp e)
  have hpq : q ≠ p := fun z => h (by rw [z]; exact List.mem_cons_self)
  have hqa : q ∉ as := fun z => h (List.mem_cons_of_mem _ z)
  refine ⟨by rw [upd_same, List.map_append]; rfl, prd_snoc (paired_mono w.it fun a b ha e => by rw [upd_ne (show a ≠ p from fun z => nd.1 (by rw [← z]; exact ha))]; exact e) (by rw [upd_ne hpq]; exact hq), ?_, fun a ha => (mm a ha).elim (w.nf a) fun e => by rw [e]; exact x.nf, fun a ha => (mm a ha).elim (w.n0 a) fun e => by rw [e]; exact x.n0⟩
  refine List.nodup_cons.mpr ⟨fun hm => ?_, List.nodup_append.mpr ⟨nd.2, by simp, fun a ha b hb e => hqa (by rw [← List.mem_singleton.mp hb, ← e]; exact ha)⟩⟩
  rcases List.mem_append.mp hm with e | e
  · exact nd.1 e
  · exact hpq (List.mem_singleton.mp e).symm
theorem OwL.clear (w : OwL H0 F H p as xs) : OwL H0 F (upd H p (.lst [])) p [] [] :=
  ⟨upd_same, .nil, by simp, fun a ha => w.nf a (by rw [List.mem_singleton.mp ha]; exact List.mem_cons_self), fun a ha => w.n0 a (by rw [List.mem_singleton.mp ha]; exact List.mem_cons_self)⟩
theorem DkAt.mutL (d : DkAt A H0 F H dk st) (w : OwL H0 F H p as xs) {a : Addr} (ha : a ∈ p :: as) : DkAt A H0 F (upd H a (.lst ws)) dk st :=
  ⟨d.at_.keep fun b o h e => by rw [upd_ne (show b ≠ a from fun z => d.outL w a ha (by rw [← z]; exact h))]; exact e, d.nf, d.n0⟩
end
section
variable {K : PySem.W.Frag} {g : TG} {tb : TS} {D : Ends} {σ : L2.St} {H : Hp}
theorem range_get {n j : Nat} (h : j < n) : (List.range n)[j]? = some j := by simp [h]
theorem for_ll {a : Addr} {as : List Addr} (W : List Nat → L2.St → Hp → Prop) (h0 : W (List.range as.length) σ H) (hf : ∀ ts σ H, W ts σ H → H a = some (.lst (as.map V.ref)))
    (hs : ∀ j ts b σ H, as[j]? = some b → W (j :: ts) σ H → g (.ref b) σ H fun σ2 H2 => tb { D with nx := W ts, ct := W ts, bk := D.nx } σ2 H2) (hd : ∀ σ H, W [] σ H → D.nx σ H) :
    ∃ W : Nat → Nat → L2.St → Hp → Prop, (∃ m, W 0 m σ H) ∧ ∀ i m σ H, W i m σ H →
      ((Itl K a).stop i H ∧ D.nx σ H) ∨ ((Itl K a).go i H ∧ ∃ N : L2.St → Hp → Prop, (∀ σ' H', N σ' H' → ∃ m', m' < m ∧ W (i + 1) m' σ' H') ∧ ∀ x H', (Itl K a).yld i H x H' → g x σ H' fun σ2 H2 => tb { D with nx := N, ct := N, bk := D.nx } σ2 H2) := by
  refine for_list (xs := as.map V.ref) (fun i σ H => W ((List.range as.length).drop i) σ H) (by rw [List.drop_zero]; exact h0) (fun i σ H _ h => .inl (.inl (hf _ σ H h))) (fun i v σ H e h => ?_) fun σ H h => ?_
  · rw [List.getElem?_map] at e
    cases e2 : as[i]? with
    | none => rw [e2] at e; cases e
    | some b =>
      rw [e2] at e
      cases e
      have hi := (List.getElem?_eq_some_iff.mp e2).1
      have h' : W ((List.range as.length).drop i) σ H := h
      rw [drop_cons (range_get hi)] at h'
      exact hs i _ b σ H e2 h'
  · have h' : W ((List.range as.length).drop (as.map V.ref).length) σ H := h
    rw [List.length_map, List.drop_of_length_le (by rw [List.length_range]; exact Nat.le_refl _)] at h'
    exact hd σ H h'
variable {tt : TT} {te : TE} {vs : List Nat} {H1 : Hp} {Dl : Addr} {Qd : Hp → Prop}
theorem lc_ll {a : Addr} {as : List Addr} (W : List Nat → Hp → Prop) (h0 : W (List.range as.length) (upd H1 Dl (.lst []))) (hf : ∀ ts H, W ts H → H a = some (.lst (as.map V.ref)))
    (hs : ∀ j ts b H, as[j]? = some b → W (j :: ts) H → g (.ref b) (wipe σ vs) H fun σ2 H2 => wipe σ2 vs = wipe σ vs ∧ tt σ2 H2 fun b H3 =>
        if b = true then te σ2 H3 fun y H4 => ∃ acc, H4 Dl = some (HO.lst acc) ∧ acc.length < sizeLine ∧ W ts (upd H4 Dl (HO.lst (acc ++ [y]))) else W ts H3) (hd : ∀ H, W [] H → Qd H) :
    ∃ W : Nat → Nat → Hp → Prop, (∃ m, W 0 m (upd H1 Dl (HO.lst []))) ∧ ∀ (i m : Nat) (H : Hp), W i m H → (Itl K a).stop i H ∧ Qd H ∨
      (Itl K a).go i H ∧ ∃ Nx : Hp → Prop, (∀ (H' : Hp), Nx H' → ∃ m', m' < m ∧ W (i + 1) m' H') ∧ ∀ (x : V) (H' : Hp), (Itl K a).yld i H x H' →
        g x (wipe σ vs) H' fun σ2 H2 => wipe σ2 vs = wipe σ vs ∧ tt σ2 H2 fun b H3 => if b = true then te σ2 H3 fun y H4 => ∃ acc, H4 Dl = some (HO.lst acc) ∧ acc.length < sizeLine ∧ Nx (upd H4 Dl (HO.lst (acc ++ [y]))) else Nx H3 := by
  refine lc_list (xs := as.map V.ref) (fun i H => W ((List.range as.length).drop i) H) (by rw [List.drop_zero]; exact h0) (fun i H _ h => .inl (.inl (hf _ H h))) (fun i v H e h => ?_) fun H h => ?_
  · rw [List.getElem?_map] at e
    cases e2 : as[i]? with
    | none => rw [e2] at e; cases e
    | some b =>
      rw [e2] at e
      cases e
      have hi := (List.getElem?_eq_some_iff.mp e2).1
      have h' : W ((List.range as.length).drop i) H := h
      rw [drop_cons (range_get hi)] at h'
      exact hs i _ b H e2 h'
  · have h' : W ((List.range as.length).drop (as.map V.ref).length) H := h
    rw [List.length_map, List.drop_of_length_le (by rw [List.length_range]; exact Nat.le_refl _)] at h'
    exact hd H h'
end
end My

namespace My
open PySem PySem.Spec PyProof.Rows L2
def topS (i : Nat) : Stmt := PySem.Challenge.pw_lackstretch_k08_all_stands_and_steps.main.body.getD i (.Pass ⟨0, 0, 0, 0⟩)
abbrev s__law_deck : Stmt := topS 26
abbrev s__law_draw : Stmt := topS 27
abbrev s__law_lacks : Stmt := topS 30
abbrev s__law_due : Stmt := topS 32
abbrev s__law_own : Stmt := topS 29
abbrev s__law_tail : Stmt := topS 31
abbrev s_is_whole : Stmt := topS 10
abbrev s_is_figure : Stmt := topS 12
abbrev s_are_figures : Stmt := topS 13
abbrev s_is_base : Stmt := topS 11
abbrev s_is_stretch : Stmt := topS 14
abbrev s_is_rule : Stmt := topS 15
abbrev s_need_rule : Stmt := topS 16
abbrev s_ends_of : Stmt := topS 20
abbrev s_stands_in : Stmt := topS 17
abbrev s_lacks_all : Stmt := topS 18
abbrev s_stand_of : Stmt := topS 21
abbrev s_stands_of : Stmt := topS 22
abbrev s_step_from : Stmt := topS 24
abbrev s__law_step_right : Stmt := topS 33
abbrev s_all_stands : Stmt := topS 23
abbrev s__law_right : Stmt := topS 34
abbrev s__law_some_rule : Stmt := topS 28
abbrev s_law : Stmt := topS 35
structure Txt (K : PySem.W.Frag) (mg : Str → Option Value) where
  f__law_deck : FnAt K mg "_law_deck" s__law_deck ["script"]
  f__law_draw : FnAt K mg "_law_draw" s__law_draw ["deck", "many"]
  f__law_lacks : FnAt K mg "_law_lacks" s__law_lacks ["bad", "figures"]
  f__law_due : FnAt K mg "_law_due" s__law_due ["bad"]
  f__law_own : FnAt K mg "_law_own" s__law_own ["rule"]
  f__law_tail : FnAt K mg "_law_tail" s__law_tail ["bad", "figures"]
  f_is_whole : FnAt K mg "is_whole" s_is_whole ["thing"]
  f_is_figure : FnAt K mg "is_figure" s_is_figure ["base", "thing"]
  f_are_figures : FnAt K mg "are_figures" s_are_figures ["base", "thing"]
  f_is_base : FnAt K mg "is_base" s_is_base ["thing"]
  f_is_stretch : FnAt K mg "is_stretch" s_is_stretch ["base", "thing"]
  f_is_rule : FnAt K mg "is_rule" s_is_rule ["thing"]
  f_need_rule : FnAt K mg "need_rule" s_need_rule ["thing"]
  f_ends_of : FnAt K mg "ends_of" s_ends_of ["rule", "figures"]
  f_stands_in : FnAt K mg "stands_in" s_stands_in ["stretch", "figures"]
  f_lacks_all : FnAt K mg "lacks_all" s_lacks_all ["rule", "figures"]
  f_stand_of : FnAt K mg "stand_of" s_stand_of ["rule", "figures"]
  f_stands_of : FnAt K mg "stands_of" s_stands_of ["rule"]
  f_step_from : FnAt K mg "step_from" s_step_from ["rule", "stand", "figure"]
  f__law_step_right : FnAt K mg "_law_step_right" s__law_step_right ["rule", "handed", "stand", "figure", "held"]
  f_all_stands : FnAt K mg "all_stands" s_all_stands ["rule"]
  f__law_right : FnAt K mg "_law_right" s__law_right ["deck", "rule", "held"]
  f__law_some_rule : FnAt K mg "_law_some_rule" s__law_some_rule ["deck"]
  f_law : FnAt K mg "law" s_law ["script"]
  c_LEAST_BASE : CAt mg "LEAST_BASE" 2
  c_MOST_BASE : CAt mg "MOST_BASE" 16
  c_MOST_FIGURES : CAt mg "MOST_FIGURES" 4
  c_MOST_STRETCHES : CAt mg "MOST_STRETCHES" 4
  z_bool : mg "bool" = none
  z_int : mg "int" = none
  z_isinstance : mg "isinstance" = none
  z_len : mg "len" = none
  z_list : mg "list" = none
  z_max : mg "max" = none
  z_min : mg "min" = none
  z_range : mg "range" = none
  z_sorted : mg "sorted" = none
  z_tuple : mg "tuple" = none
/-! #### the deck: made, drawn from -/
abbrev N__law_draw : List Str := ["deck", "many", "pool", "found", "number"]
theorem sc__law_draw : FnScope N__law_draw ["deck", "many"] (defScope s__law_draw) := ⟨rfl, rfl, rfl, by decide +kernel, rfl, by decide +kernel, by decide +kernel⟩
def sp__law_draw : Sp := fun vs H Q _ => ∃ (F : Hp) (A : Addr → Prop) (dk : Addr) (st : DkS) (v_many : V) (many : Int) (r : Int) (st2 : DkS), vs = [.ref dk, v_many] ∧ Sub F H ∧ Deck A H dk st ∧ (∀ a, A a → F a = none) ∧ R F v_many many ∧ _law_draw st many = some (r, st2) ∧ ∀ N H2 v, Gr A F H N H2 → Deck A H2 dk st2 → R N v r → Q v H2
theorem paired_get {α β : Type} {F : α → β → Prop} : ∀ {l : List α} {m : List β} {i : Nat} {b : β}, Paired F l m → m[i]? = some b → ∃ a, l[i]? = some a ∧ F a b
  | _, _, _, _, .nil, e => by simp at e
  | _, _, 0, _, .cons h _, e => by simp at e; subst e; exact ⟨_, rfl, h⟩
  | _, _, i + 1, _, .cons _ t, e => by
    obtain ⟨a, h1, h2⟩ := paired_get (i := i) t (by simpa using e)
    exact ⟨a, by simpa using h1, h2⟩
theorem paired_len {α β : Type} {F : α → β → Prop} : ∀ {l : List α} {m : List β}, Paired F l m → l.length = m.length
  | _, _, .nil => rfl
  | _, _, .cons _ t => by simp [paired_len t]
theorem paired_set {α β : Type} {F G : α → β → Prop} : ∀ {l : List α} {m : List β} {i : Nat} {a : α} {b : β}, Paired F l m → l[i]? = some a → l.Nodup → (∀ a' b', a' ∈ l → a' ≠ a → F a' b' → G a' b') → G a b → Paired G l (m.set i b)
  | _, _, _, _, _, .nil, e, _, _, _ => by simp at e
  | _, _, 0, a, b, .cons (a := x) h t, e, nd, f, g => by
    simp at e; subst e
    refine .cons g ?_
    have nd' := List.nodup_cons.mp nd
    exact paired_mono t fun a' b' ha hF => f a' b' (List.mem_cons_of_mem _ ha) (fun z => nd'.1 (z ▸ ha)) hF
  | _, _, i + 1, a, b, .cons (a := x) h t, e, nd, f, g => by
    have nd' := List.nodup_cons.mp nd
    have e' := e
    simp at e'
    refine .cons (f _ _ List.mem_cons_self (fun z => ?_) h) (paired_set (i := i) t e' nd'.2 (fun a' b' ha => f a' b' (List.mem_cons_of_mem _ ha)) g)
    rw [z] at nd'
    exact nd'.1 (List.mem_of_getElem? e')
theorem deck_set {A : Addr → Prop} {H : Hp} {dk P pa : Addr} {pas : List Addr} {pools : List (Int × Int × Int)} {c c' : Int} {i : Nat} {p' : Int × Int × Int}
    (h1 : H dk = some (.lst [.ref P, .int c])) (h2 : H P = some (.lst (pas.map V.ref))) (h3 : Paired (fun pa (p : Int × Int × Int) => H pa = some (.lst [.int p.1, .int p.2.1, .int p.2.2])) pas pools)
    (hA : ∀ a, A a ↔ a = dk ∨ a = P ∨ a ∈ pas) (n1 : dk ≠ P) (n2 : dk ∉ pas) (n3 : P ∉ pas) (nd : pas.Nodup) (hi : pas[i]? = some pa) :
    Deck A (upd (upd H dk (.lst [.ref P, .int c'])) pa (.lst [.int p'.1, .int p'.2.1, .int p'.2.2])) dk (pools.set i p', c') := by
  have hm : pa ∈ pas := List.mem_of_getElem? hi
  have m1 : dk ≠ pa := fun z => n2 (by rw [z]; exact hm)
  have m2 : P ≠ pa := fun z => n3 (by rw [z]; exact hm)
  refine ⟨P, pas, ?_, ?_, paired_set h3 hi nd (fun a' b' ha na h => ?_) upd_same, hA, n1, n2, n3, nd⟩
  · rw [upd_ne m1, upd_same]
  · rw [upd_ne m2, upd_ne n1.symm]; exact h2
  · rw [upd_ne na, upd_ne (show a' ≠ dk from fun z => n2 (by rw [← z]; exact ha))]; exact h
theorem emod_in {a m : Int} (h : 0 < m) (h2 : m ≤ 2 ^ 64) : -(2 ^ 64) < a % m ∧ a % m < 2 ^ 64 := by
  have h3 := Int.emod_nonneg a (show m ≠ 0 by omega)
  have h4 := Int.emod_lt_of_pos a h
  constructor <;> omega
theorem draw_cases {st st2 : DkS} {many r : Int} (h : _law_draw st many = some (r, st2)) : Dv many ∧ ∃ p, st.1[(st.2 % (st.1.length : Int)).toNat]? = some p ∧
    ((p.2.1 = 1 ∧ 0 < p.1 ∧ r = p.1 % many ∧ st2 = (st.1.set (st.2 % (st.1.length : Int)).toNat (p.1 / many, p.2.1, p.2.2), st.2 + 1)) ∨
     (¬ (p.2.1 = 1 ∧ 0 < p.1) ∧ r = mixD p.1 (p.2.2 + 1) many ∧ st2 = (st.1.set (st.2 % (st.1.length : Int)).toNat (p.1, p.2.1, p.2.2 + 1), st.2 + 1))) := by
  unfold _law_draw at h
  obtain ⟨c, h⟩ := guardp h
  obtain ⟨p, hp, h⟩ := bindp h
  refine ⟨c, p, hp, ?_⟩
  by_cases q : p.2.1 = 1 ∧ 0 < p.1
  · rw [if_pos q] at h
    obtain ⟨e1, e2⟩ := pairp h
    exact .inl ⟨q.1, q.2, e1.symm, e2.symm⟩
  · rw [if_neg q] at h
    obtain ⟨e1, e2⟩ := pairp h
    exact .inr ⟨q, e1.symm, e2.symm⟩
theorem ok__law_draw {P : Program} {w : World} {K : PySem.W.Frag} {mg : Str → Option Value} {base : Heap} (T : Txt K mg) : FnOk P w K mg base CX0 1 T.f__law_draw.f T.f__law_draw.fd ["deck", "many"] sp__law_draw := by
  have nd := (sc__law_draw).nd
  refine T.f__law_draw.F.ok sc__law_draw (fun vs H Q E h => ?_) (fun cdv A0 outer s H vs Q E hr h => ?_)
  · obtain ⟨_, _, _, _, _, _, _, _, rfl, _⟩ := h
    rfl
  obtain ⟨F0, A, dk, st, v_many, many, r, st2, rfl, s0, hdk, hnf, f_many, hm, q⟩ := h
  obtain rfl := int_of f_many
  have G0 : Gr A F0 H F0 H := Gr.refl s0
  refine ⟨_, pss_cons (ps_set (i := 2) nd rfl (.inl rfl) (pe_ix (r := rIxL K) ix_list (pe_ix (r := rIxL K) ix_list (pv 0) pe_int (fun _ _ => rfl)) (pe_op op_mod (pe_ix (r := rIxL K) ix_list (pv 0) pe_int (fun _ _ => rfl)) (pe_callB (r := rLenT K) call_lenT (by rfl) T.z_len PySem.boot_len (pa_cons (pe_ix (r := rIxL K) ix_list (pv 0) pe_int (fun _ _ => rfl)) pa_nil))) (fun _ _ => rfl)))
    (pss_cons (ps_asg (pe_op op_add (pe_ix (r := rIxL K) ix_list (pv 0) pe_int (fun _ _ => rfl)) pe_int) (pg_sub (pv 0) pe_int set_list))
    (pss_cons (ps_if (PW.pt (pw_and (pt_cmp (pc_eqI (pe_ix (r := rIxL K) ix_list (pv 2) pe_int (fun _ _ => rfl)) pe_int)) (pw_and1 (pt_cmp (pc_gt (pe_ix (r := rIxL K) ix_list (pv 2) pe_int (fun _ _ => rfl)) pe_int)))))
      (pss_cons (ps_set (i := 3) nd rfl (.inl rfl) (pe_op op_mod (pe_ix (r := rIxL K) ix_list (pv 2) pe_int (fun _ _ => rfl)) (pv 1)))
      (pss_cons (ps_asg (pe_op op_fdivW (pe_ix (r := rIxL K) ix_list (pv 2) pe_int (fun _ _ => rfl)) (pv 1)) (pg_sub (pv 2) pe_int set_list))
      (pss_one (ps_ret (pv 3))))) pss_nil)
    (pss_cons (ps_asg (pe_op op_add (pe_ix (r := rIxL K) ix_list (pv 2) pe_int (fun _ _ => rfl)) pe_int) (pg_sub (pv 2) pe_int set_list))
    (pss_cons (ps_set (i := 4) nd rfl (.inl rfl) (pe_op op_mod (pe_op op_add (pe_op op_mod (pe_ix (r := rIxL K) ix_list (pv 2) pe_int (fun _ _ => rfl)) pe_int) (pe_op op_mul pe_int (pe_ix (r := rIxL K) ix_list (pv 2) pe_int (fun _ _ => rfl)))) pe_int))
    (pss_cons (ps_set (i := 4) nd rfl (.inl rfl) (pe_op op_mod (pe_op op_mul (pv 4) (pv 4)) pe_int))
    (pss_cons (ps_set (i := 4) nd rfl (.inl rfl) (pe_op op_mod (pe_op op_mul (pv 4) (pe_op op_add (pv 4) pe_int)) pe_int))
    (pss_one (ps_ret (pe_op op_mod (pe_op op_fdivW (pv 4) pe_int) (pv 1)))))))))), ?_⟩
  obtain ⟨cm, p, hp, hcs⟩ := draw_cases hm
  obtain ⟨P', pas, h1, h2, h3, hA, n1, n2, n3, ndp⟩ := id hdk
  obtain ⟨pa, hpa, hH⟩ := paired_get h3 hp
  have hl := paired_len h3
  have hmem : pa ∈ pas := List.mem_of_getElem? hpa
  have m1 : dk ≠ pa := fun z => n2 (by rw [z]; exact hmem)
  have hlp : 0 < st.1.length := by
    cases e : st.1 with
    | nil => rw [e] at hp; simp at hp
    | cons a b => simp
  have L1 : SqL K H dk [.ref P', .int st.2] := .inl (.inl h1)
  have L2' : SqL K H P' (pas.map V.ref) := .inl (.inl h2)
  -- pool = deck[0][deck[1] % len(deck[0])]
  refine ⟨_, rfl, _, _, _, _, rfl, rfl, L1, atI_nat (j := 0) rfl, ?_⟩
  refine ⟨_, rfl, _, _, _, _, rfl, rfl, L1, atI_nat (j := 1) rfl, ?_⟩
  refine ⟨_, rfl, _, _, _, _, rfl, rfl, L1, atI_nat (j := 0) rfl, ?_⟩
  refine ⟨_, _, rfl, .inl L2', ?_⟩
  refine ⟨_, _, rfl, rfl, (by rw [List.length_map, hl]; omega), ?_⟩
  have ei : (st.2 % (((pas.map V.ref).length : Nat) : Int)) = (((st.2 % (st.1.length : Int)).toNat : Nat) : Int) := by
    rw [List.length_map, hl]
    have := Int.emod_nonneg st.2 (show (st.1.length : Int) ≠ 0 by omega)
    omega
  refine ⟨_, _, _, _, rfl, rfl, L2', (by rw [ei]; exact atI_nat (j := (st.2 % (st.1.length : Int)).toNat) (by rw [List.getElem?_map, hpa]; rfl)), ?_⟩
  -- deck[1] = deck[1] + 1
  refine ⟨_, rfl, _, _, _, _, rfl, rfl, L1, atI_nat (j := 1) rfl, ?_⟩
  refine ⟨_, _, rfl, rfl, ?_⟩
  refine ⟨_, rfl, _, _, _, _, rfl, rfl, h1, (show ixN 2 1 = some 1 from rfl), ?_⟩
  have G1 : Gr A F0 H F0 (upd H dk (.lst [.ref P', .int (st.2 + 1)])) := G0.mutA ((hA dk).mpr (.inl rfl)) (hnf _ ((hA dk).mpr (.inl rfl)))
  have hp1 : (upd H dk (.lst [.ref P', .int (st.2 + 1)])) pa = some (.lst [.int p.1, .int p.2.1, .int p.2.2]) := by rw [upd_ne m1.symm]; exact hH
  have L3 : SqL K (upd H dk (.lst [.ref P', .int (st.2 + 1)])) pa [.int p.1, .int p.2.1, .int p.2.2] := .inl (.inl hp1)
  have Apa : A pa := (hA pa).mpr (.inr (.inr hmem))
  -- if pool[1] == 1 and pool[0] > 0
  refine ⟨_, rfl, _, _, _, _, rfl, rfl, L3, atI_nat (j := 1) rfl, ?_⟩
  refine ⟨_, _, rfl, rfl, _, rfl, ?_⟩
  have drawn : (p.2.1 = 1 ∧ 0 < p.1 ∧ r = p.1 % many ∧ st2 = (st.1.set (st.2 % (st.1.length : Int)).toNat (p.1 / many, p.2.1, p.2.2), st.2 + 1)) → _ := fun hh => hh
  rcases hcs with ⟨c1, c2, rfl, rfl⟩ | ⟨c1, rfl, rfl⟩
  · refine ifD (fun _ => ?_) (fun hc => absurd c1 (dF hc))
    refine ⟨_, rfl, _, _, _, _, rfl, rfl, L3, atI_nat (j := 0) rfl, ?_⟩
    refine ⟨_, _, rfl, rfl, _, rfl, ?_⟩
    refine ifD (fun _ => ?_) (fun hc => absurd c2 (dF hc))
    refine ⟨_, rfl, _, _, _, _, rfl, rfl, L3, atI_nat (j := 0) rfl, ?_⟩
    refine ⟨_, rfl, _, _, rfl, rfl, cm.p, ?_⟩
    refine ⟨_, rfl, _, _, _, _, rfl, rfl, L3, atI_nat (j := 0) rfl, ?_⟩
    refine ⟨_, rfl, _, _, rfl, rfl, cm.w, ?_⟩
    refine ⟨_, rfl, _, _, _, _, rfl, rfl, hp1, (show ixN 3 0 = some 0 from rfl), ?_⟩
    refine ⟨_, rfl, ?_⟩
    have D := deck_set (c' := st.2 + 1) (p' := (p.1 / many, p.2.1, p.2.2)) h1 h2 h3 hA n1 n2 n3 ndp hpa
    have e9 : (HO.lst ([V.int p.1, V.int p.2.1, V.int p.2.2].set 0 (V.int (p.1 / many)))) = .lst [.int (p.1 / many), .int p.2.1, .int p.2.2] := rfl
    exact q _ _ _ (G1.mutA Apa (hnf _ Apa)) D (.int _)
  · have tail : (if decide (p.2.1 = 1) = true then decide (0 < p.1) else false) = false := by
      by_cases a1 : p.2.1 = 1
      · by_cases a2 : 0 < p.1
        · exact absurd ⟨a1, a2⟩ c1
        · simp [a1, a2]
      · simp [a1]
    have rest : ∀ (Z : Prop), (let H3 := upd (upd H dk (.lst [.ref P', .int (st.2 + 1)])) pa (.lst [.int p.1, .int p.2.1, .int (p.2.2 + 1)]); Q (.int (mixD p.1 (p.2.2 + 1) many)) H3) → True := fun _ _ => trivial
    have fin : Q (.int (mixD p.1 (p.2.2 + 1) many)) (upd (upd H dk (.lst [.ref P', .int (st.2 + 1)])) pa (.lst [.int p.1, .int p.2.1, .int (p.2.2 + 1)])) :=
      q _ _ _ (G1.mutA Apa (hnf _ Apa)) (deck_set (c' := st.2 + 1) (p' := (p.1, p.2.1, p.2.2 + 1)) h1 h2 h3 hA n1 n2 n3 ndp hpa) (.int _)
    have b1 := Int.emod_nonneg (p.1 % 99999999977 + 700001 * (p.2.2 + 1)) (show (99999999947 : Int) ≠ 0 by decide)
    have b2 := Int.emod_lt_of_pos (p.1 % 99999999977 + 700001 * (p.2.2 + 1)) (show (0 : Int) < 99999999947 by decide)
    have L4 : SqL K (upd (upd H dk (.lst [.ref P', .int (st.2 + 1)])) pa (.lst [.int p.1, .int p.2.1, .int (p.2.2 + 1)])) pa [.int p.1, .int p.2.1, .int (p.2.2 + 1)] := .inl (.inl upd_same)
    have body : ∀ σ9 : L2.St, σ9 = ([some (V.ref dk), some (V.int many), some (V.ref pa), none, none] : L2.St) → True := fun _ _ => trivial
    refine ifD (fun hc => ?_) (fun hc => ?_)
    · refine ⟨_, rfl, _, _, _, _, rfl, rfl, L3, atI_nat (j := 0) rfl, ?_⟩
      refine ⟨_, _, rfl, rfl, _, rfl, ?_⟩
      refine ifD (fun hc2 => absurd ⟨dT hc, dT hc2⟩ c1) (fun _ => ?_)
      refine ⟨_, rfl, _, _, _, _, rfl, rfl, L3, atI_nat (j := 2) rfl, ?_⟩
      refine ⟨_, _, rfl, rfl, ?_⟩
      refine ⟨_, rfl, _, _, _, _, rfl, rfl, hp1, (show ixN 3 2 = some 2 from rfl), ?_⟩
      refine ⟨_, rfl, _, _, _, _, rfl, rfl, L4, atI_nat (j := 0) rfl, ?_⟩
      refine ⟨_, _, rfl, rfl, (show (0 : Int) < 99999999977 by decide), ?_⟩
      refine ⟨_, rfl, _, _, _, _, rfl, rfl, L4, atI_nat (j := 2) rfl, ?_⟩
      refine ⟨_, _, rfl, rfl, .inl ⟨by decide, by decide⟩, ?_⟩
      refine ⟨_, _, rfl, rfl, ?_⟩
      refine ⟨_, _, rfl, rfl, (show (0 : Int) < 99999999947 by decide), ?_⟩
      refine ⟨_, rfl, _, rfl, _, _, rfl, rfl, .inl ⟨by omega, by omega⟩, ?_⟩
      refine ⟨_, _, rfl, rfl, (show (0 : Int) < 99999999821 by decide), ?_⟩
      refine ⟨_, rfl, _, rfl, _, _, rfl, rfl, ?_⟩
      refine ⟨_, _, rfl, rfl, .inl (emod_in (by decide) (by decide)), ?_⟩
      refine ⟨_, _, rfl, rfl, (show (0 : Int) < 9999999967 by decide), ?_⟩
      refine ⟨_, rfl, _, _, rfl, rfl, (show Dv 13 from by decide +kernel).w, ?_⟩
      refine ⟨_, rfl, _, _, rfl, rfl, cm.p, ?_⟩
      exact fin
    · refine iteF ?_
      refine ⟨_, rfl, _, _, _, _, rfl, rfl, L3, atI_nat (j := 2) rfl, ?_⟩
      refine ⟨_, _, rfl, rfl, ?_⟩
      refine ⟨_, rfl, _, _, _, _, rfl, rfl, hp1, (show ixN 3 2 = some 2 from rfl), ?_⟩
      refine ⟨_, rfl, _, _, _, _, rfl, rfl, L4, atI_nat (j := 0) rfl, ?_⟩
      refine ⟨_, _, rfl, rfl, (show (0 : Int) < 99999999977 by decide), ?_⟩
      refine ⟨_, rfl, _, _, _, _, rfl, rfl, L4, atI_nat (j := 2) rfl, ?_⟩
      refine ⟨_, _, rfl, rfl, .inl ⟨by decide, by decide⟩, ?_⟩
      refine ⟨_, _, rfl, rfl, ?_⟩
      refine ⟨_, _, rfl, rfl, (show (0 : Int) < 99999999947 by decide), ?_⟩
      refine ⟨_, rfl, _, rfl, _, _, rfl, rfl, .inl ⟨by omega, by omega⟩, ?_⟩
      refine ⟨_, _, rfl, rfl, (show (0 : Int) < 99999999821 by decide), ?_⟩
      refine ⟨_, rfl, _, rfl, _, _, rfl, rfl, ?_⟩
      refine ⟨_, _, rfl, rfl, .inl (emod_in (by decide) (by decide)), ?_⟩
      refine ⟨_, _, rfl, rfl, (show (0 : Int) < 9999999967 by decide), ?_⟩
      refine ⟨_, rfl, _, _, rfl, rfl, (show Dv 13 from by decide +kernel).w, ?_⟩
      refine ⟨_, rfl, _, _, rfl, rfl, cm.p, ?_⟩
      exact fin
def sp__law_deck (K : PySem.W.Frag) : Sp := fun vs H Q _ => ∃ (a : Addr) (ns : List Int), vs = [.ref a] ∧ SqL K H a (ns.map V.int) ∧
  ∀ H2 dk A, (∀ b o, H b = some o → H2 b = some o) → Deck A H2 dk (mkDeck ns) → (∀ b, A b → H b = none) → Q (.ref dk) H2
abbrev N__law_deck : List Str := ["script", "pools", "k", "cell"]
theorem sc__law_deck : FnScope N__law_deck ["script"] (defScope s__law_deck) := ⟨rfl, rfl, rfl, by decide +kernel, rfl, by decide +kernel, by decide +kernel⟩
/-- the pools so far -/
def PoolsAt (H0 H : Hp) (P : Addr) (pas : List Addr) (ps : List (Int × Int × Int)) : Prop :=
  H P = some (.lst (pas.map V.ref)) ∧ Paired (fun pa (p : Int × Int × Int) => H pa = some (.lst [.int p.1, .int p.2.1, .int p.2.2])) pas ps ∧ P ∉ pas ∧ pas.Nodup ∧ H0 P = none ∧ (∀ a ∈ pas, H0 a = none) ∧ ∀ b o, H0 b = some o → H b = some o
theorem pools_more {H0 H : Hp} {P pa : Addr} {pas : List Addr} {ps : List (Int × Int × Int)} {p : Int × Int × Int} (h : PoolsAt H0 H P pas ps) (hn : H pa = none) :
    PoolsAt H0 (upd (upd H pa (.lst [.int p.1, .int p.2.1, .int p.2.2])) P (.lst (pas.map V.ref ++ [V.ref pa]))) P (pas ++ [pa]) (ps ++ [p]) := by
  obtain ⟨h1, h2, h3, h4, h5, h6, h7⟩ := h
  have nP : P ≠ pa := ne_of_none h1 hn
  have npa : pa ∉ pas := fun hm => by
    obtain ⟨b, hb⟩ := paired_left h2 hm
    rw [hn] at hb; cases hb
  have z0 : H0 pa = none := by
    cases e : H0 pa with
    | none => rfl
    | some o => rw [h7 _ _ e] at hn; cases hn
  refine ⟨?_, Paired.snoc (paired_mono h2 fun a b ha e => ?_) ?_, ?_, ?_, h5, ?_, fun b o e => ?_⟩
  · rw [upd_same, List.map_append]; rfl
  · rw [upd_ne (show a ≠ P from fun z => h3 (by rw [← z]; exact ha)), upd_ne (show a ≠ pa from fun z => npa (by rw [← z]; exact ha))]; exact e
  · rw [upd_ne nP.symm, upd_same]
  · intro hm
    rcases List.mem_append.mp hm with hm | hm
    · exact h3 hm
    · exact nP (List.mem_singleton.mp hm)
  · rw [List.nodup_append]
    exact ⟨h4, by simp, fun a ha b hb e => npa (by rw [← List.mem_singleton.mp hb, ← e]; exact ha)⟩
  · intro a ha
    rcases List.mem_append.mp ha with ha | ha
    · exact h6 a ha
    · rw [List.mem_singleton.mp ha]; exact z0
  · rw [upd_ne (ne_of_none e h5), upd_ne (ne_of_none e z0)]; exact h7 b o e
theorem poolOf_in {ns : List Int} {k : Nat} {c : Int} (h : ns[k]? = some c) : poolOf ns k = (c, (if decide ((10 : Int) ^ (18 : Int).toNat ≤ c) = true then 1 else 0), 31 * (k : Int)) := by
  unfold poolOf; rw [show ns.getD k 0 = c from by rw [List.getD_eq_getElem?_getD, h]; rfl]
theorem poolOf_out {ns : List Int} {k : Nat} (h : ns.length ≤ k) : poolOf ns k = (0, (if decide ((10 : Int) ^ (18 : Int).toNat ≤ 0) = true then 1 else 0), 31 * (k : Int)) := by
  unfold poolOf; rw [show ns.getD k 0 = 0 from by rw [List.getD_eq_getElem?_getD, List.getElem?_eq_none h]; rfl]
theorem deckLen_eq (ns : List Int) : (if (if (ns.length : Int) < 63 then (ns.length : Int) else 63) > 1 then (if (ns.length : Int) < 63 then (ns.length : Int) else 63) else 1) = ((deckLen ns : Nat) : Int) := by
  unfold deckLen
  split <;> split <;> omega
theorem ok__law_deck {P : Program} {w : World} {K : PySem.W.Frag} {mg : Str → Option Value} {base : Heap} (T : Txt K mg) : FnOk P w K mg base CX0 1 T.f__law_deck.f T.f__law_deck.fd ["script"] (sp__law_deck K) := by
  have nd := (sc__law_deck).nd
  refine T.f__law_deck.F.ok sc__law_deck (fun vs H Q E h => ?_) (fun cdv A0 outer s H vs Q E hr h => ?_)
  · obtain ⟨_, _, rfl, _⟩ := h
    rfl
  obtain ⟨a, ns, rfl, hS, q⟩ := h
  refine ⟨_, pss_cons (ps_set (i := 1) nd rfl (.inl rfl) (pe_lst pa_nil))
    (pss_cons (ps_for PassesOwn.never rfl (pi_range1 (by rfl) T.z_range (pa_cons (pe_callB (call_max2 rfl) (by rfl) T.z_max (by decide +kernel) (pa_cons pe_int (pa_cons (pe_callB (call_min2 rfl) (by rfl) T.z_min (by decide +kernel) (pa_cons pe_int (pa_cons (pe_callB (r := rLenT K) call_lenT (by rfl) T.z_len PySem.boot_len (pa_cons (pv 0) pa_nil)) pa_nil))) pa_nil))) pa_nil)) (pg_name (i := 2) nd rfl (.inl rfl))
      (pss_cons (ps_set (i := 3) nd rfl (.inl rfl) pe_int)
      (Evl.pss_cut (ps_if (pt_cmp (pc_lt (pv 2) (pe_callB (r := rLenT K) call_lenT (by rfl) T.z_len PySem.boot_len (pa_cons (pv 0) pa_nil)))) (pss_one (ps_set (i := 3) nd rfl (.inl rfl) (pe_ix (r := rIxL K) ix_list (pv 0) (pv 2) (fun _ _ => rfl)))) pss_nil)
      (pss_one (ps_expr (pe_bm PySem.F.plainAttrs_list PySem.F.slot_list_append PySem.F.type_list_append mt_append (pv 1) (pa_cons (pe_lst (pa_cons (pv 3) (pa_cons (pe_callTy call_int1 (by rfl) T.z_int (by decide +kernel) (pa_cons (pe_cmp (pc_ge (pv 3) (pe_op op_pow pe_int pe_int))) pa_nil)) (pa_cons (pe_op op_mul pe_int (pv 2)) pa_nil)))) pa_nil)))))))
    (pss_one (ps_ret (pe_lst (pa_cons (pv 1) (pa_cons pe_int pa_nil)))))), ?_⟩
  refine ⟨szle (show 0 ≤ 16777216 by decide), fun P' np => ?_⟩
  have keepS : ∀ H9 : Hp, (∀ b o, H b = some o → H9 b = some o) → SqL K H9 a (ns.map V.int) := fun H9 k => by
    rcases hS with (h | ⟨o, h⟩) | h
    · exact .inl (.inl (k _ _ h))
    · exact .inl (.inr ⟨o, k _ _ h⟩)
    · exact .inr h
  have k1 : ∀ b o, H b = some o → (upd H P' (.lst [])) b = some o := fun b o e => by rw [upd_ne (ne_of_none e np)]; exact e
  refine ⟨_, rfl, _, _, rfl, .inl (keepS _ k1), _, _, rfl, _, _, rfl, ?_⟩
  rw [List.length_map, deckLen_eq]
  refine ⟨_, rfl, by unfold deckLen; omega, by unfold deckLen; omega, ?_⟩
  refine for_rng (lo := 0) (hi := ((deckLen ns : Nat) : Int)) (by rw [Int.sub_zero]) (fun ts σ H1 => ∃ (i : Nat) (pas : List Addr) (y2 y3 : Option V), ts = (irange 0 ((deckLen ns : Nat) : Int)).drop i ∧ i ≤ deckLen ns ∧ PoolsAt H H1 P' pas ((List.range i).map (poolOf ns)) ∧ σ = [some (.ref a), some (.ref P'), y2, y3])
    ⟨0, [], none, none, by rw [List.drop_zero], Nat.zero_le _, ⟨by rw [upd_same]; rfl, .nil, by simp, by simp, np, by simp, k1⟩, rfl⟩ (fun x ts σ H1 hW => ?_) (fun σ H1 hW => ?_)
  · obtain ⟨i, pas, y2, y3, e1, hi, hP, rfl⟩ := hW
    have hlen : (irange 0 ((deckLen ns : Nat) : Int)).length = deckLen ns := by rw [irange_len]; omega
    have hlt : i < deckLen ns := by
      rcases Nat.lt_or_ge i (deckLen ns) with h | h
      · exact h
      · rw [List.drop_of_length_le (by omega)] at e1; cases e1
    have hx : (irange 0 ((deckLen ns : Nat) : Int))[i]? = some (0 + (i : Int)) := irange_get (by omega)
    rw [drop_cons hx] at e1
    obtain ⟨ex, ets⟩ := List.cons.inj e1
    have ex' : x = (i : Int) := by rw [ex, Int.zero_add]
    subst ex'
    obtain ⟨p1, p2, p3, p4, p5, p6, p7⟩ := id hP
    -- cell = 0; if k < len(script): cell = script[k]
    refine ⟨fun σ H2 => H2 = H1 ∧ σ = [some (.ref a), some (.ref P'), some (.int (i : Int)), some (.int (poolOf ns i).1)], ?_, fun σ H2 hM => ?_⟩
    · refine ⟨_, rfl, _, rfl, _, _, rfl, .inl (keepS _ p7), ?_⟩
      rw [List.length_map]
      refine ⟨_, _, rfl, rfl, _, rfl, ?_⟩
      refine ifD (fun hc => ?_) (fun hc => ?_)
      · have hk : i < ns.length := by have := dT hc; omega
        have hg : ns[i]? = some ns[i] := List.getElem?_eq_getElem hk
        refine ⟨_, rfl, _, rfl, _, _, _, _, rfl, rfl, keepS _ p7, atI_nat (j := i) (by rw [List.getElem?_map, hg]; rfl), ?_⟩
        exact ⟨rfl, by rw [poolOf_in hg]; rfl⟩
      · have hk : ns.length ≤ i := by have := dF hc; omega
        exact ⟨rfl, by rw [poolOf_out hk]; rfl⟩
    · obtain ⟨rfl, rfl⟩ := hM
      refine ⟨_, rfl, .inl ⟨rfl, _, .inl (.inl p1)⟩, ?_⟩
      refine ⟨_, rfl, _, rfl, _, _, rfl, rfl, ⟨by decide, by decide, by decide⟩, _, _, rfl, rfl, ?_⟩
      refine .inr ⟨_, rfl, ?_⟩
      refine ⟨_, rfl, _, _, rfl, rfl, .inl ⟨by decide, by decide⟩, ?_⟩
      refine ⟨szle (show 3 ≤ 16777216 by decide), fun pa npa => ?_⟩
      have hp1 : (upd H2 pa (.lst [.int (poolOf ns i).1, .int (poolOf ns i).2.1, .int (poolOf ns i).2.2])) P' = some (.lst (pas.map V.ref)) := by
        rw [upd_ne (ne_of_none p1 npa)]; exact p1
      have hl := paired_len p2
      rw [List.length_map, List.length_range] at hl
      refine ⟨_, _, _, rfl, rfl, hp1, szl (by rw [List.length_map, hl]; unfold deckLen at hlt; omega), ?_⟩
      refine ⟨i + 1, pas ++ [pa], _, _, ets, hlt, ?_, rfl⟩
      rw [List.range_succ, List.map_append]
      exact pools_more (p := poolOf ns i) hP npa
  · obtain ⟨i, pas, y2, y3, e1, hi, hP, rfl⟩ := hW
    have hlen : (irange 0 ((deckLen ns : Nat) : Int)).length = deckLen ns := by rw [irange_len]; omega
    have hge : i = deckLen ns := by
      rcases Nat.lt_or_ge i (deckLen ns) with h | h
      · rw [drop_cons (irange_get (lo := 0) (hi := ((deckLen ns : Nat) : Int)) (by omega))] at e1; cases e1
      · omega
    subst hge
    obtain ⟨p1, p2, p3, p4, p5, p6, p7⟩ := id hP
    refine ⟨_, rfl, ?_⟩
    refine ⟨szle (show 2 ≤ 16777216 by decide), fun dk ndk => ?_⟩
    have nP : P' ≠ dk := ne_of_none p1 ndk
    have npas : dk ∉ pas := fun hm => by
      obtain ⟨b, hb⟩ := paired_left p2 hm
      rw [ndk] at hb; cases hb
    have zdk : H dk = none := by
      cases e : H dk with
      | none => rfl
      | some o => rw [p7 _ _ e] at ndk; cases ndk
    refine q _ dk (fun b => b = dk ∨ b = P' ∨ b ∈ pas) (fun b o e => by rw [upd_ne (ne_of_none e zdk)]; exact p7 b o e) ⟨P', pas, upd_same, by rw [upd_ne nP]; exact p1, paired_mono p2 fun b c hb e => by rw [upd_ne (show b ≠ dk from fun z => npas (by rw [← z]; exact hb))]; exact e, fun _ => Iff.rfl, nP.symm, npas, p3, p4⟩ (fun b hb => ?_)
    rcases hb with e | e | e
    · rw [e]; exact zdk
    · rw [e]; exact p5
    · exact p6 b e
def _law_lacks_b3 (figures : (List Int)) (t1 : Int) : Unit → (List Int) → (Unit → Option Bool) → Option Bool
  | _, t2, next2 => (if (eqT (cutT figures (some t1) (some (t1 + (t2.length : Int)))) t2) = true then (some false) else (next2 ()))
def _law_lacks_e4 (next1 : (Unit → Option Bool)) : Unit → Option Bool
  | _ => (next1 ())
def _law_lacks_b1 (figures : (List Int)) (bad : (List (List Int))) : Unit → Int → (Unit → Option Bool) → Option Bool
  | _, t1, next1 => (forK (_law_lacks_b3 figures t1) (bad) () (_law_lacks_e4 next1))
def _law_lacks_e2 : Unit → Option Bool
  | _ => (some true)
def _law_lacks (bad : (List (List Int))) (figures : (List Int)) : Option Bool :=
  (if Rg1 (figures.length : Int) then (forK (_law_lacks_b1 figures bad) (irange 0 (figures.length : Int)) () (_law_lacks_e2)) else none)
abbrev N__law_lacks : List Str := ["bad", "figures", "at", "one"]
theorem sc__law_lacks : FnScope N__law_lacks ["bad", "figures"] (defScope s__law_lacks) := ⟨rfl, rfl, rfl, by decide +kernel, rfl, by decide +kernel, by decide +kernel⟩
def sp__law_lacks : Sp := fun vs H Q _ => ∃ (F : Hp) (v_bad : V) (v_figures : V) (bad : (List (List Int))) (figures : (List Int)) (r : Bool), vs = [v_bad, v_figures] ∧ Sub F H ∧ R F v_bad bad ∧ R F v_figures figures ∧ _law_lacks bad figures = some r ∧ ∀ N H2 v, Gr NA F H N H2 → R N v r → Q v H2
theorem ok__law_lacks {P : Program} {w : World} {K : PySem.W.Frag} {mg : Str → Option Value} {base : Heap} (T : Txt K mg) : FnOk P w K mg base CX0 1 T.f__law_lacks.f T.f__law_lacks.fd ["bad", "figures"] sp__law_lacks := by
  have nd := (sc__law_lacks).nd
  refine T.f__law_lacks.F.ok sc__law_lacks (fun vs H Q E h => ?_) (fun cdv A0 outer s H vs Q E hr h => ?_)
  · obtain ⟨_, _, _, _, _, _, rfl, _⟩ := h
    rfl
  obtain ⟨F0, v_bad, v_figures, bad, figures, r, rfl, s0, f_bad, f_figures, hm, q⟩ := h
  have G0 : Gr NA F0 H F0 H := Gr.refl s0
  obtain ⟨a1, us1, rfl, fa1, fr1⟩ := lst_of f_bad
  obtain ⟨a2, us2, rfl, fa2, fr2⟩ := lst_of f_figures
  refine ⟨_, (pss_cons (ps_for PassesOwn.never rfl (pi_range1 (by rfl) T.z_range (pa_cons (pe_callB (r := rLenT K) call_lenT (by rfl) T.z_len PySem.boot_len (pa_cons (pv 1) pa_nil)) pa_nil)) (pg_name (i := 2) nd rfl (by first | exact Or.inl rfl | exact Or.inr rfl)) (pss_one (ps_for PassesOwn.never rfl (pi_list (pv 0)) (pg_name (i := 3) nd rfl (by first | exact Or.inl rfl | exact Or.inr rfl)) (pss_one (ps_if (pt_cmpR (op_eqT (α := (List Int)) (by decide) (hu64 hr)) (pe_slice (r := rSlL K) sl_list (pv 1) (po_some (pv 2)) (po_some (pe_op op_add (pv 2) (pe_callB (r := rLenT K) call_lenT (by rfl) T.z_len PySem.boot_len (pa_cons (pv 3) pa_nil))))) (pv 3) (nomark _)) (pss_one (ps_ret pe_bl)) pss_nil))))) (pss_one (ps_ret pe_bl))), ?_⟩
  rw [_law_lacks] at hm
  with_reducible refine x_seq ?_
  with_reducible refine x_for ?_
  with_reducible refine x_rng1 ?_
  with_reducible refine x_cons ?_
  refine useEv (.int (figures.length : Int)) (by exact (ev_lenT (Evl.ev_var rfl) (G0.sub _ _ fa2) (Rs_mono (Sub.refl _) fr2))) (fun H1 e1 => ?_)
  have g1 := gr_ex G0.sub e1
  have G1 := G0.step g1
  obtain ⟨c1, hm⟩ := guardp hm
  refine ⟨_, rfl, c1.lo, c1.hi, ?_⟩
  refine for_rng (lo := 0) (hi := (figures.length : Int)) (by rw [Int.sub_zero]) (fun (ts1 : List Int) σ H2 => ∃ (F1 : Hp) (y1 : Option V) (y2 : Option V), forK (_law_lacks_b1 figures bad) ts1 () (_law_lacks_e2) = some r ∧ Sub (F0) F1 ∧ Gr NA F0 H F1 H2 ∧ σ = [some (.ref a1), some (.ref a2), y1, y2]) ⟨F0, _, _, hm, (Sub.refl _), G1, rfl⟩ (fun t1 ts2 σ H1 hW => ?_) (fun σ H1 hW => ?_)
  · skip
    obtain ⟨F1, y1, y2, hm, s1, G2, rfl⟩ := hW
    obtain ⟨next1, hnx1⟩ : ∃ nx, nx = fun s => forK (_law_lacks_b1 figures bad) ts2 s (_law_lacks_e2) := ⟨_, rfl⟩
    have hm : (_law_lacks_b1 figures bad) () t1 next1 = some r := by rw [hnx1]; exact forK_c hm
    rw [_law_lacks_b1] at hm
    with_reducible refine x_gn ?_
    with_reducible refine x_for ?_
    with_reducible refine x_iter ?_
    refine ⟨_, rfl, ?_⟩
    refine ⟨_, rfl, ⟨_, .inl (.inl ((s1.trans G2.sub) _ _ fa1))⟩, ?_⟩
    refine for_lst (α := (List Int)) (fun (ts3 : List (List Int)) σ H3 => ∃ (F2 : Hp) (y3 : Option V), forK (_law_lacks_b3 figures t1) ts3 () (_law_lacks_e4 next1) = some r ∧ Sub (F1) F2 ∧ Gr NA F0 H F2 H3 ∧ σ = [some (.ref a1), some (.ref a2), some (.int t1), y3]) (Rs_mono s1 fr1) ⟨F1, _, hm, (Sub.refl _), G2, rfl⟩ (fun _ _ _ h => ?_) (fun t2 ts4 v2 σ H1 hv2 hW => ?_) (fun σ H1 hW => ?_)
    · obtain ⟨F2, y3, _, s9, G9, _⟩ := h
      exact G9.sub _ _ (s9 _ _ (s1 _ _ fa1))
    · skip
      obtain ⟨F2, y3, hm, s2, G3, rfl⟩ := hW
      obtain ⟨next2, hnx2⟩ : ∃ nx, nx = fun s => forK (_law_lacks_b3 figures t1) ts4 s (_law_lacks_e4 next1) := ⟨_, rfl⟩
      have hm : (_law_lacks_b3 figures t1) () t2 next2 = some r := by rw [hnx2]; exact forK_c hm
      rw [_law_lacks_b3] at hm
      obtain ⟨a3, us3, rfl, fa3, fr3⟩ := lst_of hv2
      with_reducible refine x_gn ?_
      with_reducible refine x_if ?_
      with_reducible refine x_test ?_
      with_reducible refine x_op ?_
      with_reducible refine x_sl ?_
      refine ⟨_, rfl, ?_⟩
      with_reducible refine x_part ?_
      refine ⟨_, rfl, ?_⟩
      refine ⟨_, rfl, ?_⟩
      with_reducible refine x_part ?_
      refine useEv (.int (t1 + (t2.length : Int))) (by exact (Evl.ev_op (Evl.ev_var rfl) (ev_lenT (Evl.ev_var rfl) ((s2.trans G3.sub) _ _ fa3) (Rs_mono s2 fr3)) Evl.rv_I0)) (fun H4 e2 => ?_)
      have g2 := gr_ex G3.sub e2
      have G4 := G3.step g2
      refine ⟨_, rfl, ?_⟩
      refine ⟨_, _, rfl, .inl (.inl (((s1.trans s2).trans G4.sub) _ _ fa2)), fun p1 np1 => ?_⟩
      have fr4 : Rs (α := Int) (F2) (cutV us2 (some t1) (some (t1 + (t2.length : Int)))) (cutT figures (some t1) (some (t1 + (t2.length : Int)))) := Rs_cut (Rs_mono (s1.trans s2) fr2)
      have g3 := Gr.newO (o := .lst (cutV us2 (some t1) (some (t1 + (t2.length : Int))))) G4.sub np1
      have o1 := Ow.new (us := (cutV us2 (some t1) (some (t1 + (t2.length : Int))))) G4 np1
      have G5 := G4.step g3
      refine ⟨_, rfl, ?_⟩
      refine ⟨_, (cutT figures (some t1) (some (t1 + (t2.length : Int)))), t2, Sub.refl _, (mk_lst o1.at_ (Rs_mono G5.sub fr4)), (RD.mono G5.sub (mk_lst (s2 _ _ fa3) (Rs_mono s2 fr3))), ?_⟩
      refine ⟨_, rfl, ?_⟩
      refine ifD (fun hc => ?_) (fun hc => ?_)
      · replace hm := itep hm hc
        with_reducible refine x_ret ?_
        with_reducible refine x_c ?_
        obtain rfl : _ = r := Option.some.inj hm
        exact q _ _ _ G5 (.bl _)
      · replace hm := iten hm (bF hc)
        with_reducible refine x_next ?_
        rw [hnx2] at hm
        exact ⟨F2, _, hm, s2, G5, rfl⟩
    · skip
      obtain ⟨F2, y3, hm, s3, G6, rfl⟩ := hW
      have hm : (_law_lacks_e4 next1) () = some r := forK_n hm
      rw [_law_lacks_e4] at hm
      rw [hnx1] at hm
      exact ⟨F2, _, _, hm, (s1.trans s3), G6, rfl⟩
  · skip
    obtain ⟨F1, y1, y2, hm, s4, G7, rfl⟩ := hW
    have hm : (_law_lacks_e2) () = some r := forK_n hm
    rw [_law_lacks_e2] at hm
    with_reducible refine x_ret ?_
    with_reducible refine x_c ?_
    obtain rfl : _ = r := Option.some.inj hm
    exact q _ _ _ G7 (.bl _)

def _law_due_b3 (t1 : Int) (bad : (List (List Int))) : (List (List Int)) → (List Int) → ((List (List Int)) → Option (List (List Int))) → Option (List (List Int))
  | x2, t2, next2 => (if (decide (t1 < (t2.length : Int))) = true then (if (!memT (cutT t2 none (some t1)) x2) = true then ((_law_lacks bad (cutT t2 none (some t1))).bind fun r1 => (if r1 = true then (if x2.length < 16777216 then (next2 (x2 ++ [(cutT t2 none (some t1))])) else none) else (next2 x2))) else (next2 x2)) else (next2 x2))
def _law_due_e4 (x1 : (List (List Int))) (next1 : ((List (List Int)) → Option (List (List Int)))) : (List (List Int)) → Option (List (List Int))
  | x2 => (if x2.length ≤ 16777216 then (if x1.length + (sortT x2).length ≤ 16777216 then (next1 (x1 ++ (sortT x2))) else none) else none)
def _law_due_b1 (bad : (List (List Int))) : (List (List Int)) → Int → ((List (List Int)) → Option (List (List Int))) → Option (List (List Int))
  | x1, t1, next1 => (forK (_law_due_b3 t1 bad) (bad) ([] : (List (List Int))) (_law_due_e4 x1 next1))
def _law_due_e2 : (List (List Int)) → Option (List (List Int))
  | x1 => (some x1)
def _law_due (bad : (List (List Int))) : Option (List (List Int)) :=
  (forK (_law_due_b1 bad) (([(1 : Int), (2 : Int), (3 : Int)] : (List Int))) ([([] : (List Int))] : (List (List Int))) (_law_due_e2))
abbrev N__law_due : List Str := ["bad", "found", "size", "some", "one"]
theorem sc__law_due : FnScope N__law_due ["bad"] (defScope s__law_due) := ⟨rfl, rfl, rfl, by decide +kernel, rfl, by decide +kernel, by decide +kernel⟩
def sp__law_due : Sp := fun vs H Q _ => ∃ (F : Hp) (v_bad : V) (bad : (List (List Int))) (r : (List (List Int))), vs = [v_bad] ∧ Sub F H ∧ R F v_bad bad ∧ _law_due bad = some r ∧ ∀ N H2 v, Gr NA F H N H2 → R N v r → Q v H2
theorem ok__law_due {P : Program} {w : World} {K : PySem.W.Frag} {mg : Str → Option Value} {base : Heap} (T : Txt K mg) : FnOk P w K mg base CX0 2 T.f__law_due.f T.f__law_due.fd ["bad"] sp__law_due := by
  have nd := (sc__law_due).nd
  refine T.f__law_due.F.ok sc__law_due (fun vs H Q E h => ?_) (fun cdv A0 outer s H vs Q E hr h => ?_)
  · obtain ⟨_, _, _, _, rfl, _⟩ := h
    rfl
  obtain ⟨F0, v_bad, bad, r, rfl, s0, f_bad, hm, q⟩ := h
  have G0 : Gr NA F0 H F0 H := Gr.refl s0
  obtain ⟨a1, us1, rfl, fa1, fr1⟩ := lst_of f_bad
  refine ⟨_, (pss_cons (ps_set (i := 1) nd rfl (by first | exact Or.inl rfl | exact Or.inr rfl) (pe_lst (pa_cons (pe_lst pa_nil) pa_nil))) (pss_cons (ps_for PassesOwn.never rfl (pi_list (pe_lst (pa_cons pe_int (pa_cons pe_int (pa_cons pe_int pa_nil))))) (pg_name (i := 2) nd rfl (by first | exact Or.inl rfl | exact Or.inr rfl)) (pss_cons (ps_set (i := 3) nd rfl (by first | exact Or.inl rfl | exact Or.inr rfl) (pe_lst pa_nil)) (pss_cons (ps_for PassesOwn.never rfl (pi_list (pv 0)) (pg_name (i := 4) nd rfl (by first | exact Or.inl rfl | exact Or.inr rfl)) (pss_one (ps_if (PW.pt (pw_and (pt_cmp (pc_gt (pe_callB (r := rLenT K) call_lenT (by rfl) T.z_len PySem.boot_len (pa_cons (pv 4) pa_nil)) (pv 2))) (pw_and (pt_cmpR (op_niT (α := (List Int)) (by decide) (hu65 hr)) (pe_slice (r := rSlL K) sl_list (pv 4) po_none (po_some (pv 2))) (pv 3) (by rfl)) (pw_and1 (pt_val (pe_call (ok__law_lacks T) (hr.mono (by decide)) (by rfl) T.f__law_lacks.g T.f__law_lacks.F.kp T.f__law_lacks.b .nil pass0 (pa_cons (pv 0) (pa_cons (pe_slice (r := rSlL K) sl_list (pv 4) po_none (po_some (pv 2))) pa_nil)))))))) (pss_one (ps_expr (pe_bm PySem.F.plainAttrs_list PySem.F.slot_list_append PySem.F.type_list_append mt_append (pv 3) (pa_cons (pe_slice (r := rSlL K) sl_list (pv 4) po_none (po_some (pv 2))) pa_nil)))) pss_nil))) (pss_one (ps_set (i := 1) nd rfl (by first | exact Or.inl rfl | exact Or.inr rfl) (pe_op op_cat (pv 1) (pe_callB (r := rSortedT (List Int)) (call_sortedT (by decide) (hu200' hr)) (by rfl) T.z_sorted (by decide +kernel) (pa_cons (pv 3) pa_nil)))))))) (pss_one (ps_ret (pv 1))))), ?_⟩
  rw [_law_due] at hm
  with_reducible refine x_seq ?_
  with_reducible refine x_asg ?_
  with_reducible refine x_lst ?_
  with_reducible refine x_cons ?_
  with_reducible refine x_lst ?_
  refine ⟨szle (show 0 ≤ 16777216 from by decide), fun p1 np1 => ?_⟩
  have fr2 : Rs (α := Int) (F0) [] ([] : (List Int)) := Rs_nil
  have g1 := Gr.newO (o := .lst []) G0.sub np1
  have o1 := Ow.new (us := []) G0 np1
  have G1 := G0.step g1
  have G2 := o1.frz G1
  have ex1 := o1.ex
  have fa2 : (upd (F0) p1 (.lst [])) p1 = some (.lst []) := upd_same
  have fr3 := Rs_mono ex1 fr2
  refine ⟨szle (show 1 ≤ 16777216 from by decide), fun p2 np2 => ?_⟩
  have fr4 : Rs (α := (List Int)) (upd (F0) p1 (.lst [])) [(.ref p1)] ([([] : (List Int))] : (List (List Int))) := (Rs_cons (mk_lst ((Sub.refl _) _ _ fa2) (Rs_mono (Sub.refl _) fr3)) Rs_nil)
  have g2 := Gr.newO (o := .lst [(.ref p1)]) G2.sub np2
  have o2 := Ow.new (us := [(.ref p1)]) G2 np2
  have G3 := G2.step g2
  with_reducible refine x_gn ?_
  with_reducible refine x_seq ?_
  with_reducible refine x_for ?_
  with_reducible refine x_iter ?_
  with_reducible refine x_lst ?_
  with_reducible refine x_cons ?_
  with_reducible refine x_c ?_
  with_reducible refine x_cons ?_
  with_reducible refine x_c ?_
  with_reducible refine x_cons ?_
  with_reducible refine x_c ?_
  refine ⟨szle (show 3 ≤ 16777216 from by decide), fun p3 np3 => ?_⟩
  have fr5 : Rs (α := Int) (upd (F0) p1 (.lst [])) [(.int 1), (.int 2), (.int 3)] ([(1 : Int), (2 : Int), (3 : Int)] : (List Int)) := (Rs_cons (.int _) (Rs_cons (.int _) (Rs_cons (.int _) Rs_nil)))
  have g3 := Gr.newO (o := .lst [(.int 1), (.int 2), (.int 3)]) G3.sub np3
  have o3 := Ow.new (us := [(.int 1), (.int 2), (.int 3)]) G3 np3
  have ne1 := o2.ne_new np3
  have G4 := G3.step g3
  have o4 := o2.step g3
  have G5 := o3.frz G4
  have ex2 := o3.ex
  have o5 := o4.frzo (Ne.symm (Ne.symm ne1)) o3
  have fa3 : (upd (upd (F0) p1 (.lst [])) p3 (.lst [(.int 1), (.int 2), (.int 3)])) p3 = some (.lst [(.int 1), (.int 2), (.int 3)]) := upd_same
  have fr6 := Rs_mono ex2 fr5
  have G6 := o5.frz G5
  have ex3 := o5.ex
  have fa4 : (upd (upd (upd (F0) p1 (.lst [])) p3 (.lst [(.int 1), (.int 2), (.int 3)])) p2 (.lst [(.ref p1)])) p2 = some (.lst [(.ref p1)]) := upd_same
  have fr7 := Rs_mono ex3 (Rs_mono ex2 fr4)
  refine ⟨_, rfl, ⟨_, .inl (.inl ((ex3.trans G6.sub) _ _ fa3))⟩, ?_⟩
  refine for_lst (α := Int) (fun (ts1 : List Int) σ H1 => ∃ (F1 : Hp) (x1 : (List (List Int))) (v1 : V) (y1 : Option V) (y2 : Option V) (y3 : Option V), forK (_law_due_b1 bad) ts1 x1 (_law_due_e2) = some r ∧ Sub (upd (upd (upd (F0) p1 (.lst [])) p3 (.lst [(.int 1), (.int 2), (.int 3)])) p2 (.lst [(.ref p1)])) F1 ∧ Gr NA F0 H F1 H1 ∧ R F1 v1 x1 ∧ σ = [some (.ref a1), some v1, y2, y3, y1]) (Rs_mono ex3 fr6) ⟨_, ([([] : (List Int))] : (List (List Int))), _, _, _, _, hm, (Sub.refl _), G6, (mk_lst ((Sub.refl _) _ _ fa4) (Rs_mono (Sub.refl _) fr7)), rfl⟩ (fun _ _ _ h => ?_) (fun t1 ts2 v2 σ H1 hv1 hW => ?_) (fun σ H1 hW => ?_)
  · obtain ⟨F1, x1, v1, y1, y2, y3, _, s9, G9, _⟩ := h
    exact G9.sub _ _ (s9 _ _ (ex3 _ _ fa3))
  · skip
    obtain ⟨F1, x1, v1, y1, y2, y3, hm, s1, G7, d1, rfl⟩ := hW
    obtain ⟨a2, us2, rfl, fa5, fr8⟩ := lst_of d1
    obtain ⟨next1, hnx1⟩ : ∃ nx, nx = fun s => forK (_law_due_b1 bad) ts2 s (_law_due_e2) := ⟨_, rfl⟩
    have hm : (_law_due_b1 bad) x1 t1 next1 = some r := by rw [hnx1]; exact forK_c hm
    rw [_law_due_b1] at hm
    obtain rfl := int_of hv1
    with_reducible refine x_gn ?_
    with_reducible refine x_seq ?_
    with_reducible refine x_asg ?_
    with_reducible refine x_lst ?_
    refine ⟨szle (show 0 ≤ 16777216 from by decide), fun p4 np4 => ?_⟩
    have fr9 : Rs (α := (List Int)) (F1) [] ([] : (List (List Int))) := Rs_nil
    have g4 := Gr.newO (o := .lst []) G7.sub np4
    have o6 := Ow.new (us := []) G7 np4
    have G8 := G7.step g4
    with_reducible refine x_gn ?_
    with_reducible refine x_seq ?_
    with_reducible refine x_for ?_
    with_reducible refine x_iter ?_
    refine ⟨_, rfl, ?_⟩
    refine ⟨_, rfl, ⟨_, .inl (.inl (((((ex1.trans ex2).trans ex3).trans s1).trans G8.sub) _ _ fa1))⟩, ?_⟩
    refine for_lst (α := (List Int)) (fun (ts3 : List (List Int)) σ H2 => ∃ (F2 : Hp) (x2 : (List (List Int))) (p5 : Addr) (us3 : List V) (y4 : Option V), forK (_law_due_b3 t1 bad) ts3 x2 (_law_due_e4 x1 next1) = some r ∧ Sub (F1) F2 ∧ Gr NA F0 H F2 H2 ∧ Ow H F2 H2 p5 us3 ∧ Rs F2 us3 x2 ∧ σ = [some (.ref a1), some (.ref a2), some (.int t1), some (.ref p5), y4]) (Rs_mono (((ex1.trans ex2).trans ex3).trans s1) fr1) ⟨F1, ([] : (List (List Int))), _, _, _, hm, (Sub.refl _), G8, o6, fr9, rfl⟩ (fun _ _ _ h => ?_) (fun t2 ts4 v3 σ H1 hv2 hW => ?_) (fun σ H1 hW => ?_)
    · obtain ⟨F2, x2, p5, us3, y4, _, s9, G9, _⟩ := h
      exact G9.sub _ _ (s9 _ _ ((((ex1.trans ex2).trans ex3).trans s1) _ _ fa1))
    · skip
      obtain ⟨F2, x2, p5, us3, y4, hm, s2, G9, o7, fr10, rfl⟩ := hW
      obtain ⟨next2, hnx2⟩ : ∃ nx, nx = fun s => forK (_law_due_b3 t1 bad) ts4 s (_law_due_e4 x1 next1) := ⟨_, rfl⟩
      have hm : (_law_due_b3 t1 bad) x2 t2 next2 = some r := by rw [hnx2]; exact forK_c hm
      rw [_law_due_b3] at hm
      obtain ⟨a3, us4, rfl, fa6, fr11⟩ := lst_of hv2
      with_reducible refine x_gn ?_
      with_reducible refine x_if ?_
      with_reducible refine x_and ?_
      with_reducible refine x_B ?_
      refine useEv (.bl (decide (t1 < (t2.length : Int)))) (by exact (ev_cmp (ev_lenT (Evl.ev_var rfl) ((s2.trans G9.sub) _ _ fa6) (Rs_mono s2 fr11)) (Evl.ev_var rfl))) (fun H3 e1 => ?_)
      have g5 := gr_ex G9.sub e1
      have G10 := G9.step g5
      have o8 := o7.step g5
      refine ⟨_, rfl, ?_⟩
      refine ifD (fun hc => ?_) (fun hc => ?_)
      · replace hm := itep hm hc
        with_reducible refine x_and ?_
        with_reducible refine x_test ?_
        with_reducible refine x_op ?_
        with_reducible refine x_sl ?_
        refine ⟨_, rfl, ?_⟩
        with_reducible refine x_nopart ?_
        with_reducible refine x_part ?_
        refine ⟨_, rfl, ?_⟩
        refine ⟨_, rfl, ?_⟩
        refine ⟨_, _, rfl, .inl (.inl ((s2.trans G10.sub) _ _ fa6)), fun p6 np5 => ?_⟩
        have fr12 : Rs (α := Int) (F2) (cutV us4 none (some t1)) (cutT t2 none (some t1)) := Rs_cut (Rs_mono s2 fr11)
        have g6 := Gr.newO (o := .lst (cutV us4 none (some t1))) G10.sub np5
        have o9 := Ow.new (us := (cutV us4 none (some t1))) G10 np5
        have ne2 := o8.ne_new np5
        have G11 := G10.step g6
        have o10 := o8.step g6
        refine ⟨_, rfl, ?_⟩
        refine ⟨_, (cutT t2 none (some t1)), x2, Sub.refl _, (mk_lst o9.at_ (Rs_mono G11.sub fr12)), (mk_lst o10.at_ (Rs_mono G11.sub fr10)), ?_⟩
        refine ⟨_, rfl, ?_⟩
        refine ifD (fun hc => ?_) (fun hc => ?_)
        · replace hm := itep hm hc
          with_reducible refine x_B ?_
          with_reducible refine x_call ?_
          with_reducible refine x_cons ?_
          refine ⟨_, rfl, ?_⟩
          with_reducible refine x_cons ?_
          with_reducible refine x_sl ?_
          refine ⟨_, rfl, ?_⟩
          with_reducible refine x_nopart ?_
          with_reducible refine x_part ?_
          refine ⟨_, rfl, ?_⟩
          refine ⟨_, rfl, ?_⟩
          refine ⟨_, _, rfl, .inl (.inl ((s2.trans G11.sub) _ _ fa6)), fun p7 np6 => ?_⟩
          have fr13 : Rs (α := Int) (F2) (cutV us4 none (some t1)) (cutT t2 none (some t1)) := Rs_cut (Rs_mono s2 fr11)
          have g7 := Gr.newO (o := .lst (cutV us4 none (some t1))) G11.sub np6
          have o11 := Ow.new (us := (cutV us4 none (some t1))) G11 np6
          have ne3 := o10.ne_new np6
          have ne4 := o9.ne_new np6
          have G12 := G11.step g7
          have o12 := o10.step g7
          have o13 := o9.step g7
          have G13 := o11.frz G12
          have ex4 := o11.ex
          have o14 := o12.frzo (Ne.symm (Ne.symm ne3)) o11
          have o15 := o13.frzo (Ne.symm (Ne.symm ne4)) o11
          have fa7 : (upd (F2) p7 (.lst (cutV us4 none (some t1)))) p7 = some (.lst (cutV us4 none (some t1))) := upd_same
          have fr14 := Rs_mono ex4 fr13
          obtain ⟨r1, hr1, hm⟩ := bindp hm
          refine ⟨_, _, _, bad, (cutT t2 none (some t1)), r1, rfl, G13.sub, (mk_lst ((((((ex1.trans ex2).trans ex3).trans s1).trans s2).trans ex4) _ _ fa1) (Rs_mono (((((ex1.trans ex2).trans ex3).trans s1).trans s2).trans ex4) fr1)), (mk_lst ((Sub.refl _) _ _ fa7) (Rs_mono (Sub.refl _) fr14)), hr1, fun N1 H4 v4 g8 d2  => ?_⟩
          have G14 := G13.step g8
          have o16 := o14.step g8
          have o17 := o15.step g8
          obtain rfl := bl_of d2
          refine ⟨_, rfl, ?_⟩
          refine ifD (fun hc => ?_) (fun hc => ?_)
          · replace hm := itep hm hc
            with_reducible refine x_drop ?_
            with_reducible refine x_bm ?_
            refine ⟨_, rfl, ?_⟩
            refine ⟨.inl ⟨rfl, _, .inl (.inl o16.at_)⟩, ?_⟩
            with_reducible refine x_cons ?_
            with_reducible refine x_sl ?_
            refine ⟨_, rfl, ?_⟩
            with_reducible refine x_nopart ?_
            with_reducible refine x_part ?_
            refine ⟨_, rfl, ?_⟩
            refine ⟨_, rfl, ?_⟩
            refine ⟨_, _, rfl, .inl (.inl ((((s2.trans ex4).trans g8.ex).trans G14.sub) _ _ fa6)), fun p8 np7 => ?_⟩
            have fr15 : Rs (α := Int) (N1) (cutV us4 none (some t1)) (cutT t2 none (some t1)) := Rs_cut (Rs_mono ((s2.trans ex4).trans g8.ex) fr11)
            have g9 := Gr.newO (o := .lst (cutV us4 none (some t1))) G14.sub np7
            have o18 := Ow.new (us := (cutV us4 none (some t1))) G14 np7
            have ne5 := o16.ne_new np7
            have ne6 := o17.ne_new np7
            have G15 := G14.step g9
            have o19 := o16.step g9
            have o20 := o17.step g9
            have G16 := o18.frz G15
            have ex5 := o18.ex
            have o21 := o19.frzo (Ne.symm (Ne.symm ne5)) o18
            have o22 := o20.frzo (Ne.symm (Ne.symm ne6)) o18
            have fa8 : (upd (N1) p8 (.lst (cutV us4 none (some t1)))) p8 = some (.lst (cutV us4 none (some t1))) := upd_same
            have fr16 := Rs_mono ex5 fr15
            obtain ⟨c1, hm⟩ := guardp hm
            refine ⟨_, _, _, rfl, rfl, o21.at_, szl (by rw [Rs_len (Rs_mono ex5 (Rs_mono g8.ex (Rs_mono ex4 fr10)))]; exact c1), ?_⟩
            have G17 := o21.mutG (o := .lst (us3 ++ [(.ref p8)])) G16
            have o23 := o21.mut (ws := us3 ++ [(.ref p8)])
            have o24 := o22.other (ws := us3 ++ [(.ref p8)]) (Ne.symm (Ne.symm ne2))
            have fr17 : Rs (α := (List Int)) (upd (N1) p8 (.lst (cutV us4 none (some t1)))) (us3 ++ [(.ref p8)]) (x2 ++ [(cutT t2 none (some t1))]) := Rs_snoc (Rs_mono ex5 (Rs_mono g8.ex (Rs_mono ex4 fr10))) (mk_lst ((Sub.refl _) _ _ fa8) (Rs_mono (Sub.refl _) fr16))
            rw [hnx2] at hm
            exact ⟨_, (x2 ++ [(cutT t2 none (some t1))]), _, _, _, hm, (((s2.trans ex4).trans g8.ex).trans ex5), G17, o23, fr17, rfl⟩
          · replace hm := iten hm (bF hc)
            with_reducible refine x_next ?_
            rw [hnx2] at hm
            exact ⟨N1, x2, _, _, _, hm, ((s2.trans ex4).trans g8.ex), G14, o16, (Rs_mono g8.ex (Rs_mono ex4 fr10)), rfl⟩
        · replace hm := iten hm (bF hc)
          refine iteF ?_
          with_reducible refine x_next ?_
          rw [hnx2] at hm
          exact ⟨F2, x2, _, _, _, hm, s2, G11, o10, fr10, rfl⟩
      · replace hm := iten hm (bF hc)
        refine iteF ?_
        with_reducible refine x_next ?_
        rw [hnx2] at hm
        exact ⟨F2, x2, _, _, _, hm, s2, G10, o8, fr10, rfl⟩
    · skip
      obtain ⟨F2, x2, p5, us3, y4, hm, s3, G18, o25, fr18, rfl⟩ := hW
      have hm : (_law_due_e4 x1 next1) x2 = some r := forK_n hm
      rw [_law_due_e4] at hm
      with_reducible refine x_asg ?_
      with_reducible refine x_op ?_
      refine ⟨_, rfl, ?_⟩
      with_reducible refine x_cb ?_
      with_reducible refine x_cons ?_
      refine ⟨_, rfl, ?_⟩
      obtain ⟨c2, hm⟩ := guardp hm
      refine ⟨_, _, _, x2, rfl, o25.at_, G18.sub, fr18, c2, fun p9 us5 np8 fr19 => ?_⟩
      have g10 := Gr.newO (o := .lst us5) G18.sub np8
      have o26 := Ow.new (us := us5) G18 np8
      have ne7 := o25.ne_new np8
      have G19 := G18.step g10
      have o27 := o25.step g10
      obtain ⟨c3, hm⟩ := guardp hm
      refine ⟨_, _, _, _, rfl, rfl, ((s3.trans G19.sub) _ _ fa5), o26.at_, szle (by rw [Rs_len (Rs_mono s3 fr8), Rs_len fr19]; exact c3), fun p10 np9 => ?_⟩
      have fr20 : Rs (α := (List Int)) (F2) (us2 ++ us5) (x1 ++ (sortT x2)) := Rs_app (Rs_mono s3 fr8) fr19
      have g11 := Gr.newO (o := .lst (us2 ++ us5)) G19.sub np9
      have o28 := Ow.new (us := (us2 ++ us5)) G19 np9
      have ne8 := o27.ne_new np9
      have ne9 := o26.ne_new np9
      have G20 := G19.step g11
      have o29 := o27.step g11
      have o30 := o26.step g11
      with_reducible refine x_gn ?_
      rw [hnx1] at hm
      have G21 := o28.frz G20
      have ex6 := o28.ex
      have o31 := o29.frzo (Ne.symm (Ne.symm ne8)) o28
      have o32 := o30.frzo (Ne.symm (Ne.symm ne9)) o28
      have fa9 : (upd (F2) p10 (.lst (us2 ++ us5))) p10 = some (.lst (us2 ++ us5)) := upd_same
      have fr21 := Rs_mono ex6 fr20
      exact ⟨_, (x1 ++ (sortT x2)), _, _, _, _, hm, ((s1.trans s3).trans ex6), G21, (mk_lst ((Sub.refl _) _ _ fa9) (Rs_mono (Sub.refl _) fr21)), rfl⟩
  · skip
    obtain ⟨F1, x1, v1, y1, y2, y3, hm, s4, G22, d3, rfl⟩ := hW
    obtain ⟨a4, us6, rfl, fa10, fr22⟩ := lst_of d3
    have hm : (_law_due_e2) x1 = some r := forK_n hm
    rw [_law_due_e2] at hm
    with_reducible refine x_ret ?_
    refine ⟨_, rfl, ?_⟩
    obtain rfl : _ = r := Option.some.inj hm
    exact q _ _ _ G22 (mk_lst ((Sub.refl _) _ _ fa10) (Rs_mono (Sub.refl _) fr22))

def _law_own_c1 : (List (List Int)) → (List Int) → ((List (List Int)) → Option (Int × (List (List Int)))) → Option (Int × (List (List Int)))
  | x2, t1, next1 => (if x2.length < 16777216 then (next1 (x2 ++ [t1])) else none)
def _law_own_k2 (rule : (Int × (List (List Int)))) : (List (List Int)) → Option (Int × (List (List Int)))
  | x2 => (some ((rule).1, x2))
def _law_own (rule : (Int × (List (List Int)))) : Option (Int × (List (List Int))) :=
  (forK (_law_own_c1) ((rule).2) [] (_law_own_k2 rule))
abbrev N__law_own : List Str := ["rule", "one"]
theorem sc__law_own : FnScope N__law_own ["rule"] (defScope s__law_own) := ⟨rfl, rfl, rfl, by decide +kernel, rfl, by decide +kernel, by decide +kernel⟩
def sp__law_own : Sp := fun vs H Q _ => ∃ (F : Hp) (v_rule : V) (rule : (Int × (List (List Int)))) (r : (Int × (List (List Int)))), vs = [v_rule] ∧ Sub F H ∧ R F v_rule rule ∧ _law_own rule = some r ∧ ∀ N H2 v, Gr NA F H N H2 → R N v r → Q v H2
theorem ok__law_own {P : Program} {w : World} {K : PySem.W.Frag} {mg : Str → Option Value} {base : Heap} (T : Txt K mg) : FnOk P w K mg base CX0 1 T.f__law_own.f T.f__law_own.fd ["rule"] sp__law_own := by
  have nd := (sc__law_own).nd
  refine T.f__law_own.F.ok sc__law_own (fun vs H Q E h => ?_) (fun cdv A0 outer s H vs Q E hr h => ?_)
  · obtain ⟨_, _, _, _, rfl, _⟩ := h
    rfl
  obtain ⟨F0, v_rule, rule, r, rfl, s0, f_rule, hm, q⟩ := h
  have G0 : Gr NA F0 H F0 H := Gr.refl s0
  obtain ⟨a1, v1, v2, rfl, fa1, d1, d2⟩ := tup2_of f_rule
  obtain rfl := int_of d1
  obtain ⟨a2, us1, rfl, fa2, fr1⟩ := lst_of d2
  refine ⟨_, (pss_one (ps_ret (pe_tup (pa_cons (pe_ix (r := rIxT K) ix_tup (pv 0) pe_int (fun _ _ => rfl)) (pa_cons (pe_lc (own := [("one", 1)]) (g := (gName 1)) rfl nd (pi_list (pe_ix (r := rIxT K) ix_tup (pv 0) pe_int (fun _ _ => rfl))) (blkOk_by (own := [("one", 1)]) (N := N__law_own) (sc := defScope s__law_own) (by decide +kernel)) (fun _ _ _ _ _ => pg_name (i := 1) nd rfl (Or.inl rfl)) (fun _ _ _ _ _ => pts_nil) (fun _ _ _ _ _ => (pe_callTy (r := rListT K) call_listT (by rfl) T.z_list (by decide +kernel) (pa_cons (pv 1) pa_nil)))) pa_nil))))), ?_⟩
  rw [_law_own] at hm
  with_reducible refine x_ret ?_
  with_reducible refine x_tup ?_
  with_reducible refine x_cons ?_
  with_reducible refine x_op ?_
  refine ⟨_, rfl, ?_⟩
  refine ⟨_, _, _, _, rfl, rfl, .inl (.inl (G0.sub _ _ fa1)), atI_nat (j := 0) rfl, ?_⟩
  with_reducible refine x_cons ?_
  with_reducible refine x_lc ?_
  with_reducible refine x_iter ?_
  with_reducible refine x_op ?_
  refine ⟨_, rfl, ?_⟩
  refine ⟨_, _, _, _, rfl, rfl, .inl (.inl (G0.sub _ _ fa1)), atI_nat (j := 1) rfl, ?_⟩
  refine ⟨_, rfl, ⟨_, .inl (.inl (G0.sub _ _ fa2))⟩, fun p1 np1 => ?_⟩
  have g1 := Gr.newO (o := .lst []) G0.sub np1
  have o1 := Ow.new (us := []) G0 np1
  have G1 := G0.step g1
  refine lc_lst (α := (List Int)) (fun (ts1 : List (List Int)) H1 => ∃ (F1 : Hp) (x2 : List (List Int)) (us3 : List V), forK (_law_own_c1) ts1 x2 (_law_own_k2 rule) = some r ∧ Sub (F0) F1 ∧ Gr NA F0 H F1 H1 ∧ Ow H F1 H1 p1 us3 ∧ Rs F1 us3 x2) (Rs_mono (Sub.refl _) fr1) ⟨F0, ([] : List (List Int)), _, hm, (Sub.refl _), G1, o1, Rs_nil⟩ (fun _ _ h => ?_) (fun t1 ts2 v3 H1 hv1 hW => ?_) (fun H1 hW => ?_)
  · obtain ⟨F9, _, _, _, s9, G9, _⟩ := h
    exact G9.sub _ _ (s9 _ _ ((Sub.refl _) _ _ fa2))
  · skip
    obtain ⟨F1, x2, us3, hm, s1, G2, o2, fr2⟩ := hW
    obtain ⟨next1, hnx1⟩ : ∃ nx, nx = fun s => forK (_law_own_c1) ts2 s (_law_own_k2 rule) := ⟨_, rfl⟩
    have hm : (_law_own_c1) x2 t1 next1 = some r := by rw [hnx1]; exact forK_c hm
    rw [_law_own_c1] at hm
    obtain ⟨a3, us4, rfl, fa3, fr3⟩ := lst_of hv1
    with_reducible refine x_gn ?_
    refine ⟨rfl, ?_⟩
    with_reducible refine x_yes ?_
    refine iteT ?_
    with_reducible refine x_cb ?_
    with_reducible refine x_cons ?_
    refine ⟨_, rfl, ?_⟩
    refine ⟨_, _, rfl, .inl (.inl (.inl ((s1.trans G2.sub) _ _ fa3))), fun p2 np2 => ?_⟩
    have g2 := Gr.newO (o := .lst us4) G2.sub np2
    have o3 := Ow.new (us := us4) G2 np2
    have ne1 := o2.ne_new np2
    have G3 := G2.step g2
    have o4 := o2.step g2
    have G4 := o3.frz G3
    have ex1 := o3.ex
    have o5 := o4.frzo (Ne.symm (Ne.symm ne1)) o3
    have fa4 : (upd (F1) p2 (.lst us4)) p2 = some (.lst us4) := upd_same
    have fr4 := Rs_mono ex1 (Rs_mono s1 fr3)
    obtain ⟨c1, hm⟩ := guardp hm
    have G5 := o5.mutG (o := .lst (us3 ++ [(.ref p2)])) G4
    have o6 := o5.mut (ws := us3 ++ [(.ref p2)])
    have fr5 : Rs (α := (List Int)) (upd (F1) p2 (.lst us4)) (us3 ++ [(.ref p2)]) (x2 ++ [t1]) := Rs_snoc (Rs_mono ex1 fr2) (mk_lst ((Sub.refl _) _ _ fa4) (Rs_mono (Sub.refl _) fr4))
    rw [hnx1] at hm
    exact ⟨_, o5.at_, szl (by rw [Rs_len (Rs_mono ex1 fr2)]; exact c1), ⟨_, (x2 ++ [t1]), _, hm, (s1.trans ex1), G5, o6, fr5⟩⟩
  · skip
    obtain ⟨F1, x2, us3, hm, s2, G6, o7, fr6⟩ := hW
    have hm : (_law_own_k2 rule) x2 = some r := forK_n hm
    rw [_law_own_k2] at hm
    have G7 := o7.frz G6
    have ex2 := o7.ex
    have fa5 : (upd (F1) p1 (.lst us3)) p1 = some (.lst us3) := upd_same
    have fr7 := Rs_mono ex2 fr6
    refine ⟨szle (show 2 ≤ 16777216 from by decide), fun p3 np3 => ?_⟩
    have g3 := Gr.new (o := .tup [(.int (rule).1), (.ref p1)]) G7.sub np3
    have G8 := G7.step g3
    have fa6 : (upd (upd (F1) p1 (.lst us3)) p3 (.tup [(.int (rule).1), (.ref p1)])) p3 = some (.tup [(.int (rule).1), (.ref p1)]) := upd_same
    obtain rfl : _ = r := Option.some.inj hm
    exact q _ _ _ G8 (mk_tup2 ((Sub.refl _) _ _ fa6) (.int _) (mk_lst (g3.ex _ _ fa5) (Rs_mono g3.ex fr7)))

def _law_tail_c3 (t1 : Int) (figures : (List Int)) : (List (List Int)) → (List Int) → ((List (List Int)) → Option (List Int)) → Option (List Int)
  | x2, t2, next2 => (if (eqT (cutT t2 none (some t1)) (cutT figures (some ((figures.length : Int) - t1)) none)) = true then (if x2.length < 16777216 then (next2 (x2 ++ [t2])) else none) else (next2 x2))
def _law_tail_k4 (figures : (List Int)) (t1 : Int) (next1 : (Unit → Option (List Int))) : (List (List Int)) → Option (List Int)
  | x2 => (if (!eqT x2 ([] : (List (List Int)))) = true then (some (cutT figures (some ((figures.length : Int) - t1)) none)) else (next1 ()))
def _law_tail_b1 (figures : (List Int)) (bad : (List (List Int))) : Unit → Int → (Unit → Option (List Int)) → Option (List Int)
  | _, t1, next1 => (if (decide (t1 ≤ (figures.length : Int))) = true then (forK (_law_tail_c3 t1 figures) (bad) [] (_law_tail_k4 figures t1 next1)) else (next1 ()))
def _law_tail_e2 : Unit → Option (List Int)
  | _ => (some ([] : (List Int)))
def _law_tail (bad : (List (List Int))) (figures : (List Int)) : Option (List Int) :=
  (forK (_law_tail_b1 figures bad) (([(3 : Int), (2 : Int), (1 : Int)] : (List Int))) () (_law_tail_e2))
abbrev N__law_tail : List Str := ["bad", "figures", "size", "end", "one"]
theorem sc__law_tail : FnScope N__law_tail ["bad", "figures"] (defScope s__law_tail) := ⟨rfl, rfl, rfl, by decide +kernel, rfl, by decide +kernel, by decide +kernel⟩
def sp__law_tail : Sp := fun vs H Q _ => ∃ (F : Hp) (v_bad : V) (v_figures : V) (bad : (List (List Int))) (figures : (List Int)) (r : (List Int)), vs = [v_bad, v_figures] ∧ Sub F H ∧ R F v_bad bad ∧ R F v_figures figures ∧ _law_tail bad figures = some r ∧ ∀ N H2 v, Gr NA F H N H2 → R N v r → Q v H2
theorem ok__law_tail {P : Program} {w : World} {K : PySem.W.Frag} {mg : Str → Option Value} {base : Heap} (T : Txt K mg) : FnOk P w K mg base CX0 1 T.f__law_tail.f T.f__law_tail.fd ["bad", "figures"] sp__law_tail := by
  have nd := (sc__law_tail).nd
  refine T.f__law_tail.F.ok sc__law_tail (fun vs H Q E h => ?_) (fun cdv A0 outer s H vs Q E hr h => ?_)
  · obtain ⟨_, _, _, _, _, _, rfl, _⟩ := h
    rfl
  obtain ⟨F0, v_bad, v_figures, bad, figures, r, rfl, s0, f_bad, f_figures, hm, q⟩ := h
  have G0 : Gr NA F0 H F0 H := Gr.refl s0
  obtain ⟨a1, us1, rfl, fa1, fr1⟩ := lst_of f_bad
  obtain ⟨a2, us2, rfl, fa2, fr2⟩ := lst_of f_figures
  refine ⟨_, (pss_cons (ps_for PassesOwn.never rfl (pi_list (pe_lst (pa_cons pe_int (pa_cons pe_int (pa_cons pe_int pa_nil))))) (pg_name (i := 2) nd rfl (by first | exact Or.inl rfl | exact Or.inr rfl)) (pss_cons (ps_set (i := 3) nd rfl (by first | exact Or.inl rfl | exact Or.inr rfl) (pe_slice (r := rSlL K) sl_list (pv 1) (po_some (pe_op op_sub (pe_callB (r := rLenT K) call_lenT (by rfl) T.z_len PySem.boot_len (pa_cons (pv 1) pa_nil)) (pv 2))) po_none)) (pss_one (ps_if (PW.pt (pw_and (pt_cmp (pc_le (pv 2) (pe_callB (r := rLenT K) call_lenT (by rfl) T.z_len PySem.boot_len (pa_cons (pv 1) pa_nil)))) (pw_and1 (pt_cmpR (op_neT (α := (List (List Int))) (by decide) (hu64 hr)) (pe_lc (own := [("one", 4)]) (g := (gName 4)) rfl nd (pi_list (pv 0)) (blkOk_by (own := [("one", 4)]) (N := N__law_tail) (sc := defScope s__law_tail) (by decide +kernel)) (fun _ _ _ _ _ => pg_name (i := 4) nd rfl (Or.inl rfl)) (fun _ _ _ _ _ => pts_one (pt_cmpR (op_eqT (α := (List Int)) (by decide) (hu64 hr)) (pe_slice (r := rSlL K) sl_list (pv 4) po_none (po_some (pv 2))) (pv 3) (nomark _))) (fun _ _ _ _ _ => (pv 4))) (pe_lst pa_nil) (nomark _))))) (pss_one (ps_ret (pv 3))) pss_nil)))) (pss_one (ps_ret (pe_lst pa_nil)))), ?_⟩
  rw [_law_tail] at hm
  with_reducible refine x_seq ?_
  with_reducible refine x_for ?_
  with_reducible refine x_iter ?_
  with_reducible refine x_lst ?_
  with_reducible refine x_cons ?_
  with_reducible refine x_c ?_
  with_reducible refine x_cons ?_
  with_reducible refine x_c ?_
  with_reducible refine x_cons ?_
  with_reducible refine x_c ?_
  refine ⟨szle (show 3 ≤ 16777216 from by decide), fun p1 np1 => ?_⟩
  have fr3 : Rs (α := Int) (F0) [(.int 3), (.int 2), (.int 1)] ([(3 : Int), (2 : Int), (1 : Int)] : (List Int)) := (Rs_cons (.int _) (Rs_cons (.int _) (Rs_cons (.int _) Rs_nil)))
  have g1 := Gr.newO (o := .lst [(.int 3), (.int 2), (.int 1)]) G0.sub np1
  have o1 := Ow.new (us := [(.int 3), (.int 2), (.int 1)]) G0 np1
  have G1 := G0.step g1
  have G2 := o1.frz G1
  have ex1 := o1.ex
  have fa3 : (upd (F0) p1 (.lst [(.int 3), (.int 2), (.int 1)])) p1 = some (.lst [(.int 3), (.int 2), (.int 1)]) := upd_same
  have fr4 := Rs_mono ex1 fr3
  refine ⟨_, rfl, ⟨_, .inl (.inl (G2.sub _ _ fa3))⟩, ?_⟩
  refine for_lst (α := Int) (fun (ts1 : List Int) σ H1 => ∃ (F1 : Hp) (y1 : Option V) (y2 : Option V), forK (_law_tail_b1 figures bad) ts1 () (_law_tail_e2) = some r ∧ Sub (upd (F0) p1 (.lst [(.int 3), (.int 2), (.int 1)])) F1 ∧ Gr NA F0 H F1 H1 ∧ σ = [some (.ref a1), some (.ref a2), y2, y1, none]) (Rs_mono (Sub.refl _) fr4) ⟨_, _, _, hm, (Sub.refl _), G2, rfl⟩ (fun _ _ _ h => ?_) (fun t1 ts2 v1 σ H1 hv1 hW => ?_) (fun σ H1 hW => ?_)
  · obtain ⟨F1, y1, y2, _, s9, G9, _⟩ := h
    exact G9.sub _ _ (s9 _ _ ((Sub.refl _) _ _ fa3))
  · skip
    obtain ⟨F1, y1, y2, hm, s1, G3, rfl⟩ := hW
    obtain ⟨next1, hnx1⟩ : ∃ nx, nx = fun s => forK (_law_tail_b1 figures bad) ts2 s (_law_tail_e2) := ⟨_, rfl⟩
    have hm : (_law_tail_b1 figures bad) () t1 next1 = some r := by rw [hnx1]; exact forK_c hm
    rw [_law_tail_b1] at hm
    obtain rfl := int_of hv1
    with_reducible refine x_gn ?_
    with_reducible refine x_seq ?_
    with_reducible refine x_asg ?_
    with_reducible refine x_sl ?_
    refine ⟨_, rfl, ?_⟩
    with_reducible refine x_part ?_
    refine useEv (.int ((figures.length : Int) - t1)) (by exact (Evl.ev_op (ev_lenT (Evl.ev_var rfl) (((ex1.trans s1).trans G3.sub) _ _ fa2) (Rs_mono (ex1.trans s1) fr2)) (Evl.ev_var rfl) Evl.rv_I0)) (fun H2 e1 => ?_)
    have g2 := gr_ex G3.sub e1
    have G4 := G3.step g2
    refine ⟨_, rfl, ?_⟩
    with_reducible refine x_nopart ?_
    refine ⟨_, _, rfl, .inl (.inl (((ex1.trans s1).trans G4.sub) _ _ fa2)), fun p2 np2 => ?_⟩
    have fr5 : Rs (α := Int) (F1) (cutV us2 (some ((figures.length : Int) - t1)) none) (cutT figures (some ((figures.length : Int) - t1)) none) := Rs_cut (Rs_mono (ex1.trans s1) fr2)
    have g3 := Gr.newO (o := .lst (cutV us2 (some ((figures.length : Int) - t1)) none)) G4.sub np2
    have o2 := Ow.new (us := (cutV us2 (some ((figures.length : Int) - t1)) none)) G4 np2
    have G5 := G4.step g3
    with_reducible refine x_gn ?_
    with_reducible refine x_if ?_
    with_reducible refine x_and ?_
    with_reducible refine x_B ?_
    refine useEv (.bl (decide (t1 ≤ (figures.length : Int)))) (by exact (ev_cmp (Evl.ev_var rfl) (ev_lenT (Evl.ev_var rfl) (((ex1.trans s1).trans G5.sub) _ _ fa2) (Rs_mono (ex1.trans s1) fr2)))) (fun H3 e2 => ?_)
    have g4 := gr_ex G5.sub e2
    have G6 := G5.step g4
    have o3 := o2.step g4
    refine ⟨_, rfl, ?_⟩
    refine ifD (fun hc => ?_) (fun hc => ?_)
    · replace hm := itep hm hc
      with_reducible refine x_test ?_
      with_reducible refine x_op ?_
      with_reducible refine x_lc ?_
      with_reducible refine x_iter ?_
      refine ⟨_, rfl, ?_⟩
      refine ⟨_, rfl, ⟨_, .inl (.inl (((ex1.trans s1).trans G6.sub) _ _ fa1))⟩, fun p3 np3 => ?_⟩
      have g5 := Gr.newO (o := .lst []) G6.sub np3
      have o4 := Ow.new (us := []) G6 np3
      have ne1 := o3.ne_new np3
      have G7 := G6.step g5
      have o5 := o3.step g5
      refine lc_lst (α := (List Int)) (fun (ts3 : List (List Int)) H4 => ∃ (F2 : Hp) (x2 : List (List Int)) (us4 : List V), forK (_law_tail_c3 t1 figures) ts3 x2 (_law_tail_k4 figures t1 next1) = some r ∧ Sub (F1) F2 ∧ Gr NA F0 H F2 H4 ∧ Ow H F2 H4 p3 us4 ∧ Rs F2 us4 x2 ∧ Ow H F2 H4 p2 (cutV us2 (some ((figures.length : Int) - t1)) none)) (Rs_mono (ex1.trans s1) fr1) ⟨F1, ([] : List (List Int)), _, hm, (Sub.refl _), G7, o4, Rs_nil, o5⟩ (fun _ _ h => ?_) (fun t2 ts4 v2 H1 hv2 hW => ?_) (fun H1 hW => ?_)
      · obtain ⟨F9, _, _, _, s9, G9, _⟩ := h
        exact G9.sub _ _ (s9 _ _ ((ex1.trans s1) _ _ fa1))
      · skip
        obtain ⟨F2, x2, us4, hm, s2, G8, o6, fr6, o7⟩ := hW
        obtain ⟨next2, hnx2⟩ : ∃ nx, nx = fun s => forK (_law_tail_c3 t1 figures) ts4 s (_law_tail_k4 figures t1 next1) := ⟨_, rfl⟩
        have hm : (_law_tail_c3 t1 figures) x2 t2 next2 = some r := by rw [hnx2]; exact forK_c hm
        rw [_law_tail_c3] at hm
        obtain ⟨a3, us5, rfl, fa4, fr7⟩ := lst_of hv2
        with_reducible refine x_gn ?_
        refine ⟨rfl, ?_⟩
        with_reducible refine x_test ?_
        with_reducible refine x_op ?_
        with_reducible refine x_sl ?_
        refine ⟨_, rfl, ?_⟩
        with_reducible refine x_nopart ?_
        with_reducible refine x_part ?_
        refine ⟨_, rfl, ?_⟩
        refine ⟨_, rfl, ?_⟩
        refine ⟨_, _, rfl, .inl (.inl ((s2.trans G8.sub) _ _ fa4)), fun p4 np4 => ?_⟩
        have fr8 : Rs (α := Int) (F2) (cutV us5 none (some t1)) (cutT t2 none (some t1)) := Rs_cut (Rs_mono s2 fr7)
        have g6 := Gr.newO (o := .lst (cutV us5 none (some t1))) G8.sub np4
        have o8 := Ow.new (us := (cutV us5 none (some t1))) G8 np4
        have ne2 := o6.ne_new np4
        have ne3 := o7.ne_new np4
        have G9 := G8.step g6
        have o9 := o6.step g6
        have o10 := o7.step g6
        refine ⟨_, rfl, ?_⟩
        refine ⟨_, (cutT t2 none (some t1)), (cutT figures (some ((figures.length : Int) - t1)) none), Sub.refl _, (mk_lst o8.at_ (Rs_mono G9.sub fr8)), (mk_lst o10.at_ (Rs_mono G9.sub (Rs_mono s2 fr5))), ?_⟩
        refine ⟨_, rfl, ?_⟩
        refine ifD (fun hc => ?_) (fun hc => ?_)
        · replace hm := itep hm hc
          refine ⟨_, rfl, ?_⟩
          obtain ⟨c1, hm⟩ := guardp hm
          have G10 := o9.mutG (o := .lst (us4 ++ [(.ref a3)])) G9
          have o11 := o9.mut (ws := us4 ++ [(.ref a3)])
          have fr9 : Rs (α := (List Int)) (F2) (us4 ++ [(.ref a3)]) (x2 ++ [t2]) := Rs_snoc fr6 (mk_lst (s2 _ _ fa4) (Rs_mono s2 fr7))
          have o12 := o10.other (ws := us4 ++ [(.ref a3)]) (Ne.symm ne1)
          have o13 := o8.other (ws := us4 ++ [(.ref a3)]) (Ne.symm (Ne.symm ne2))
          rw [hnx2] at hm
          exact ⟨_, o9.at_, szl (by rw [Rs_len fr6]; exact c1), ⟨F2, (x2 ++ [t2]), _, hm, s2, G10, o11, fr9, o12⟩⟩
        · replace hm := iten hm (bF hc)
          rw [hnx2] at hm
          exact ⟨F2, x2, _, hm, s2, G9, o9, fr6, o10⟩
      · skip
        obtain ⟨F2, x2, us4, hm, s3, G11, o14, fr10, o15⟩ := hW
        have hm : (_law_tail_k4 figures t1 next1) x2 = some r := forK_n hm
        rw [_law_tail_k4] at hm
        with_reducible refine x_lst ?_
        refine ⟨szle (show 0 ≤ 16777216 from by decide), fun p5 np5 => ?_⟩
        have fr11 : Rs (α := (List Int)) (F2) [] ([] : (List (List Int))) := Rs_nil
        have g7 := Gr.newO (o := .lst []) G11.sub np5
        have o16 := Ow.new (us := []) G11 np5
        have ne4 := o14.ne_new np5
        have ne5 := o15.ne_new np5
        have G12 := G11.step g7
        have o17 := o14.step g7
        have o18 := o15.step g7
        refine ⟨_, x2, ([] : (List (List Int))), Sub.refl _, (mk_lst o17.at_ (Rs_mono G12.sub fr10)), (mk_lst o16.at_ (Rs_mono G12.sub fr11)), ?_⟩
        refine ⟨_, rfl, ?_⟩
        refine ifD (fun hc => ?_) (fun hc => ?_)
        · replace hm := itep hm hc
          with_reducible refine x_ret ?_
          refine ⟨_, rfl, ?_⟩
          have G13 := o18.frz G12
          have ex2 := o18.ex
          have o19 := o17.frzo (Ne.symm ne1) o18
          have o20 := o16.frzo (Ne.symm ne5) o18
          have fa5 : (upd (F2) p2 (.lst (cutV us2 (some ((figures.length : Int) - t1)) none))) p2 = some (.lst (cutV us2 (some ((figures.length : Int) - t1)) none)) := upd_same
          have fr12 := Rs_mono ex2 (Rs_mono s3 fr5)
          obtain rfl : _ = r := Option.some.inj hm
          exact q _ _ _ G13 (mk_lst ((Sub.refl _) _ _ fa5) (Rs_mono (Sub.refl _) fr12))
        · replace hm := iten hm (bF hc)
          with_reducible refine x_next ?_
          rw [hnx1] at hm
          exact ⟨F2, _, _, hm, (s1.trans s3), G12, rfl⟩
    · replace hm := iten hm (bF hc)
      refine iteF ?_
      with_reducible refine x_next ?_
      rw [hnx1] at hm
      exact ⟨F1, _, _, hm, s1, G6, rfl⟩
  · skip
    obtain ⟨F1, y1, y2, hm, s4, G14, rfl⟩ := hW
    have hm : (_law_tail_e2) () = some r := forK_n hm
    rw [_law_tail_e2] at hm
    with_reducible refine x_ret ?_
    with_reducible refine x_lst ?_
    refine ⟨szle (show 0 ≤ 16777216 from by decide), fun p6 np6 => ?_⟩
    have fr13 : Rs (α := Int) (F1) [] ([] : (List Int)) := Rs_nil
    have g8 := Gr.newO (o := .lst []) G14.sub np6
    have o21 := Ow.new (us := []) G14 np6
    have G15 := G14.step g8
    have G16 := o21.frz G15
    have ex3 := o21.ex
    have fa6 : (upd (F1) p6 (.lst [])) p6 = some (.lst []) := upd_same
    have fr14 := Rs_mono ex3 fr13
    obtain rfl : _ = r := Option.some.inj hm
    exact q _ _ _ G16 (mk_lst ((Sub.refl _) _ _ fa6) (Rs_mono (Sub.refl _) fr14))


def is_whole (thing : Int) : Option Bool :=
  (some (!false))
abbrev N_is_whole : List Str := ["thing"]
theorem sc_is_whole : FnScope N_is_whole ["thing"] (defScope s_is_whole) := ⟨rfl, rfl, rfl, by decide +kernel, rfl, by decide +kernel, by decide +kernel⟩
def sp_is_whole : Sp := fun vs H Q _ => ∃ (F : Hp) (v_thing : V) (thing : Int) (r : Bool), vs = [v_thing] ∧ Sub F H ∧ R F v_thing thing ∧ is_whole thing = some r ∧ ∀ N H2 v, Gr NA F H N H2 → R N v r → Q v H2
theorem ok_is_whole {P : Program} {w : World} {K : PySem.W.Frag} {mg : Str → Option Value} {base : Heap} (T : Txt K mg) : FnOk P w K mg base CX0 1 T.f_is_whole.f T.f_is_whole.fd ["thing"] sp_is_whole := by
  have nd := (sc_is_whole).nd
  refine T.f_is_whole.F.ok sc_is_whole (fun vs H Q E h => ?_) (fun cdv A0 outer s H vs Q E hr h => ?_)
  · obtain ⟨_, _, _, _, rfl, _⟩ := h
    rfl
  obtain ⟨F0, v_thing, thing, r, rfl, s0, f_thing, hm, q⟩ := h
  have G0 : Gr NA F0 H F0 H := Gr.refl s0
  obtain rfl := int_of f_thing
  refine ⟨_, (pss_one (ps_ret (pe_and (pe_callB (r := rIsi K) call_isi (by rfl) T.z_isinstance (by decide +kernel) (pa_cons (pv 0) (pa_cons (pe_bltn (v := .ty "int") (by rfl) T.z_int (by decide +kernel) rfl) pa_nil))) (pe_one (pe_not (pe_callB (r := rIsi K) call_isi (by rfl) T.z_isinstance (by decide +kernel) (pa_cons (pv 0) (pa_cons (pe_bltn (v := .ty "bool") (by rfl) T.z_bool (by decide +kernel) rfl) pa_nil)))))))), ?_⟩
  rw [is_whole] at hm
  with_reducible refine x_ret ?_
  with_reducible refine x_andV ?_
  with_reducible refine x_cb ?_
  with_reducible refine x_cons ?_
  refine ⟨_, rfl, ?_⟩
  refine ⟨_, _, _, _, true, rfl, ClsV.ty _, TyX.base (TyOf.int _), kit_ty (by decide +kernel), ?_⟩
  refine ⟨_, rfl, ?_⟩
  refine iteT ?_
  with_reducible refine x_notV ?_
  with_reducible refine x_cb ?_
  with_reducible refine x_cons ?_
  refine ⟨_, rfl, ?_⟩
  refine ⟨_, _, _, _, false, rfl, ClsV.ty _, TyX.base (TyOf.int _), kit_ty (by decide +kernel), ?_⟩
  refine ⟨_, rfl, ?_⟩
  obtain rfl : _ = r := Option.some.inj hm
  exact q _ _ _ G0 (.bl _)


def is_figure (base : Int) (thing : Int) : Option Bool :=
  ((is_whole thing).bind fun r1 => (if r1 = true then (if (decide ((0 : Int) ≤ thing)) = true then (some (decide (thing < base))) else (some false)) else (some false)))
abbrev N_is_figure : List Str := ["base", "thing"]
theorem sc_is_figure : FnScope N_is_figure ["base", "thing"] (defScope s_is_figure) := ⟨rfl, rfl, rfl, by decide +kernel, rfl, by decide +kernel, by decide +kernel⟩
def sp_is_figure : Sp := fun vs H Q _ => ∃ (F : Hp) (v_base : V) (v_thing : V) (base : Int) (thing : Int) (r : Bool), vs = [v_base, v_thing] ∧ Sub F H ∧ R F v_base base ∧ R F v_thing thing ∧ is_figure base thing = some r ∧ ∀ N H2 v, Gr NA F H N H2 → R N v r → Q v H2
theorem ok_is_figure {P : Program} {w : World} {K : PySem.W.Frag} {mg : Str → Option Value} {base : Heap} (T : Txt K mg) : FnOk P w K mg base CX0 2 T.f_is_figure.f T.f_is_figure.fd ["base", "thing"] sp_is_figure := by
  have nd := (sc_is_figure).nd
  refine T.f_is_figure.F.ok sc_is_figure (fun vs H Q E h => ?_) (fun cdv A0 outer s H vs Q E hr h => ?_)
  · obtain ⟨_, _, _, _, _, _, rfl, _⟩ := h
    rfl
  obtain ⟨F0, v_base, v_thing, base, thing, r, rfl, s0, f_base, f_thing, hm, q⟩ := h
  have G0 : Gr NA F0 H F0 H := Gr.refl s0
  obtain rfl := int_of f_base
  obtain rfl := int_of f_thing
  refine ⟨_, (pss_one (ps_ret (pe_and (pe_call (ok_is_whole T) (hr.mono (by decide)) (by rfl) T.f_is_whole.g T.f_is_whole.F.kp T.f_is_whole.b .nil pass0 (pa_cons (pv 1) pa_nil)) (pe_one (pe_chain op_le op_lt pe_int (pv 1) (pv 0)))))), ?_⟩
  rw [is_figure] at hm
  with_reducible refine x_ret ?_
  with_reducible refine x_andV ?_
  with_reducible refine x_call ?_
  with_reducible refine x_cons ?_
  refine ⟨_, rfl, ?_⟩
  obtain ⟨r1, hr1, hm⟩ := bindp hm
  refine ⟨_, _, thing, r1, rfl, G0.sub, (.int _), hr1, fun N1 H1 v1 g1 d1  => ?_⟩
  have G1 := G0.step g1
  obtain rfl := bl_of d1
  refine ⟨_, rfl, ?_⟩
  refine ifD (fun hc => ?_) (fun hc => ?_)
  · replace hm := itep hm hc
    with_reducible refine x_chain ?_
    with_reducible refine x_c ?_
    refine ⟨_, rfl, ?_⟩
    refine ⟨_, _, rfl, rfl, _, rfl, ?_⟩
    refine ifD (fun hc => ?_) (fun hc => ?_)
    · replace hm := itep hm hc
      refine ⟨_, rfl, ?_⟩
      refine ⟨_, _, rfl, rfl, ?_⟩
      obtain rfl : _ = r := Option.some.inj hm
      exact q _ _ _ G1 (.bl _)
    · replace hm := iten hm (bF hc)
      obtain rfl : _ = r := Option.some.inj hm
      exact q _ _ _ G1 (.bl _)
  · replace hm := iten hm (bF hc)
    obtain rfl : _ = r := Option.some.inj hm
    exact q _ _ _ G1 (.bl _)

def are_figures_c1 (base : Int) : (List Int) → Int → ((List Int) → Option Bool) → Option Bool
  | x2, t1, next1 => ((is_figure base t1).bind fun r1 => (if (!r1) = true then (if x2.length < 16777216 then (next1 (x2 ++ [t1])) else none) else (next1 x2)))
def are_figures_k2 : (List Int) → Option Bool
  | x2 => (some (eqT x2 ([] : (List Int))))
def are_figures (base : Int) (thing : (List Int)) : Option Bool :=
  (forK (are_figures_c1 base) (thing) [] (are_figures_k2))
abbrev N_are_figures : List Str := ["base", "thing", "one"]
theorem sc_are_figures : FnScope N_are_figures ["base", "thing"] (defScope s_are_figures) := ⟨rfl, rfl, rfl, by decide +kernel, rfl, by decide +kernel, by decide +kernel⟩
def sp_are_figures : Sp := fun vs H Q _ => ∃ (F : Hp) (v_base : V) (v_thing : V) (base : Int) (thing : (List Int)) (r : Bool), vs = [v_base, v_thing] ∧ Sub F H ∧ R F v_base base ∧ R F v_thing thing ∧ are_figures base thing = some r ∧ ∀ N H2 v, Gr NA F H N H2 → R N v r → Q v H2
theorem ok_are_figures {P : Program} {w : World} {K : PySem.W.Frag} {mg : Str → Option Value} {base : Heap} (T : Txt K mg) : FnOk P w K mg base CX0 3 T.f_are_figures.f T.f_are_figures.fd ["base", "thing"] sp_are_figures := by
  have nd := (sc_are_figures).nd
  refine T.f_are_figures.F.ok sc_are_figures (fun vs H Q E h => ?_) (fun cdv A0 outer s H vs Q E hr h => ?_)
  · obtain ⟨_, _, _, _, _, _, rfl, _⟩ := h
    rfl
  obtain ⟨F0, v_base, v_thing, base, thing, r, rfl, s0, f_base, f_thing, hm, q⟩ := h
  have G0 : Gr NA F0 H F0 H := Gr.refl s0
  obtain rfl := int_of f_base
  obtain ⟨a1, us1, rfl, fa1, fr1⟩ := lst_of f_thing
  refine ⟨_, (pss_one (ps_ret (pe_and (pe_callB (r := rIsi K) call_isi (by rfl) T.z_isinstance (by decide +kernel) (pa_cons (pv 1) (pa_cons (pe_bltn (v := .ty "list") (by rfl) T.z_list (by decide +kernel) rfl) pa_nil))) (pe_one (pe_cmpR (op_eqT (α := (List Int)) (by decide) (hu64 hr)) (pe_lc (own := [("one", 2)]) (g := (gName 2)) rfl nd (pi_list (pv 1)) (blkOk_by (own := [("one", 2)]) (N := N_are_figures) (sc := defScope s_are_figures) (by decide +kernel)) (fun _ _ _ _ _ => pg_name (i := 2) nd rfl (Or.inl rfl)) (fun _ _ _ _ _ => pts_one (pt_not (pt_val (pe_call (ok_is_figure T) (hr.mono (by decide)) (by rfl) T.f_is_figure.g T.f_is_figure.F.kp T.f_is_figure.b .nil pass0 (pa_cons (pv 0) (pa_cons (pv 2) pa_nil)))))) (fun _ _ _ _ _ => (pv 2))) (pe_lst pa_nil) (nomark _)))))), ?_⟩
  rw [are_figures] at hm
  with_reducible refine x_ret ?_
  with_reducible refine x_andV ?_
  with_reducible refine x_cb ?_
  with_reducible refine x_cons ?_
  refine ⟨_, rfl, ?_⟩
  refine ⟨_, _, _, _, true, rfl, ClsV.ty _, TyX.base (TyOf.lst (G0.sub _ _ fa1)), kit_ty (by decide +kernel), ?_⟩
  refine ⟨_, rfl, ?_⟩
  refine iteT ?_
  with_reducible refine x_op ?_
  with_reducible refine x_lc ?_
  with_reducible refine x_iter ?_
  refine ⟨_, rfl, ?_⟩
  refine ⟨_, rfl, ⟨_, .inl (.inl (G0.sub _ _ fa1))⟩, fun p1 np1 => ?_⟩
  have g1 := Gr.newO (o := .lst []) G0.sub np1
  have o1 := Ow.new (us := []) G0 np1
  have G1 := G0.step g1
  refine lc_lst (α := Int) (fun (ts1 : List Int) H1 => ∃ (F1 : Hp) (x2 : List Int) (us3 : List V), forK (are_figures_c1 base) ts1 x2 (are_figures_k2) = some r ∧ Sub (F0) F1 ∧ Gr NA F0 H F1 H1 ∧ Ow H F1 H1 p1 us3 ∧ Rs F1 us3 x2) (Rs_mono (Sub.refl _) fr1) ⟨F0, ([] : List Int), _, hm, (Sub.refl _), G1, o1, Rs_nil⟩ (fun _ _ h => ?_) (fun t1 ts2 v1 H1 hv1 hW => ?_) (fun H1 hW => ?_)
  · obtain ⟨F9, _, _, _, s9, G9, _⟩ := h
    exact G9.sub _ _ (s9 _ _ ((Sub.refl _) _ _ fa1))
  · skip
    obtain ⟨F1, x2, us3, hm, s1, G2, o2, fr2⟩ := hW
    obtain ⟨next1, hnx1⟩ : ∃ nx, nx = fun s => forK (are_figures_c1 base) ts2 s (are_figures_k2) := ⟨_, rfl⟩
    have hm : (are_figures_c1 base) x2 t1 next1 = some r := by rw [hnx1]; exact forK_c hm
    rw [are_figures_c1] at hm
    obtain rfl := int_of hv1
    with_reducible refine x_gn ?_
    refine ⟨rfl, ?_⟩
    with_reducible refine x_not ?_
    with_reducible refine x_B ?_
    with_reducible refine x_call ?_
    with_reducible refine x_cons ?_
    refine ⟨_, rfl, ?_⟩
    with_reducible refine x_cons ?_
    refine ⟨_, rfl, ?_⟩
    obtain ⟨r1, hr1, hm⟩ := bindp hm
    refine ⟨_, _, _, base, t1, r1, rfl, G2.sub, (.int _), (.int _), hr1, fun N1 H2 v2 g2 d1  => ?_⟩
    have G3 := G2.step g2
    have o3 := o2.step g2
    obtain rfl := bl_of d1
    refine ⟨_, rfl, ?_⟩
    refine ifD (fun hc => ?_) (fun hc => ?_)
    · replace hm := itep hm hc
      refine ⟨_, rfl, ?_⟩
      obtain ⟨c1, hm⟩ := guardp hm
      have G4 := o3.mutG (o := .lst (us3 ++ [(.int t1)])) G3
      have o4 := o3.mut (ws := us3 ++ [(.int t1)])
      have fr3 : Rs (α := Int) (N1) (us3 ++ [(.int t1)]) (x2 ++ [t1]) := Rs_snoc (Rs_mono g2.ex fr2) (.int _)
      rw [hnx1] at hm
      exact ⟨_, o3.at_, szl (by rw [Rs_len (Rs_mono g2.ex fr2)]; exact c1), ⟨N1, (x2 ++ [t1]), _, hm, (s1.trans g2.ex), G4, o4, fr3⟩⟩
    · replace hm := iten hm (bF hc)
      rw [hnx1] at hm
      exact ⟨N1, x2, _, hm, (s1.trans g2.ex), G3, o3, (Rs_mono g2.ex fr2)⟩
  · skip
    obtain ⟨F1, x2, us3, hm, s2, G5, o5, fr4⟩ := hW
    have hm : (are_figures_k2) x2 = some r := forK_n hm
    rw [are_figures_k2] at hm
    with_reducible refine x_lst ?_
    refine ⟨szle (show 0 ≤ 16777216 from by decide), fun p2 np2 => ?_⟩
    have fr5 : Rs (α := Int) (F1) [] ([] : (List Int)) := Rs_nil
    have g3 := Gr.newO (o := .lst []) G5.sub np2
    have o6 := Ow.new (us := []) G5 np2
    have ne1 := o5.ne_new np2
    have G6 := G5.step g3
    have o7 := o5.step g3
    refine ⟨_, x2, ([] : (List Int)), Sub.refl _, (mk_lst o7.at_ (Rs_mono G6.sub fr4)), (mk_lst o6.at_ (Rs_mono G6.sub fr5)), ?_⟩
    obtain rfl : _ = r := Option.some.inj hm
    exact q _ _ _ G6 (.bl _)


def is_base (thing : Int) : Option Bool :=
  ((is_whole thing).bind fun r1 => (if r1 = true then (if (decide ((2 : Int) ≤ thing)) = true then (some (decide (thing ≤ (16 : Int)))) else (some false)) else (some false)))
abbrev N_is_base : List Str := ["thing"]
theorem sc_is_base : FnScope N_is_base ["thing"] (defScope s_is_base) := ⟨rfl, rfl, rfl, by decide +kernel, rfl, by decide +kernel, by decide +kernel⟩
def sp_is_base : Sp := fun vs H Q _ => ∃ (F : Hp) (v_thing : V) (thing : Int) (r : Bool), vs = [v_thing] ∧ Sub F H ∧ R F v_thing thing ∧ is_base thing = some r ∧ ∀ N H2 v, Gr NA F H N H2 → R N v r → Q v H2
theorem ok_is_base {P : Program} {w : World} {K : PySem.W.Frag} {mg : Str → Option Value} {base : Heap} (T : Txt K mg) : FnOk P w K mg base CX0 2 T.f_is_base.f T.f_is_base.fd ["thing"] sp_is_base := by
  have nd := (sc_is_base).nd
  refine T.f_is_base.F.ok sc_is_base (fun vs H Q E h => ?_) (fun cdv A0 outer s H vs Q E hr h => ?_)
  · obtain ⟨_, _, _, _, rfl, _⟩ := h
    rfl
  obtain ⟨F0, v_thing, thing, r, rfl, s0, f_thing, hm, q⟩ := h
  have G0 : Gr NA F0 H F0 H := Gr.refl s0
  obtain rfl := int_of f_thing
  refine ⟨_, (pss_one (ps_ret (pe_and (pe_call (ok_is_whole T) (hr.mono (by decide)) (by rfl) T.f_is_whole.g T.f_is_whole.F.kp T.f_is_whole.b .nil pass0 (pa_cons (pv 0) pa_nil)) (pe_one (pe_chain op_le op_le (pe_glob (v := .int 2) rfl T.c_LEAST_BASE.g ⟨_, rfl⟩) (pv 0) (pe_glob (v := .int 16) rfl T.c_MOST_BASE.g ⟨_, rfl⟩)))))), ?_⟩
  rw [is_base] at hm
  with_reducible refine x_ret ?_
  with_reducible refine x_andV ?_
  with_reducible refine x_call ?_
  with_reducible refine x_cons ?_
  refine ⟨_, rfl, ?_⟩
  obtain ⟨r1, hr1, hm⟩ := bindp hm
  refine ⟨_, _, thing, r1, rfl, G0.sub, (.int _), hr1, fun N1 H1 v1 g1 d1  => ?_⟩
  have G1 := G0.step g1
  obtain rfl := bl_of d1
  refine ⟨_, rfl, ?_⟩
  refine ifD (fun hc => ?_) (fun hc => ?_)
  · replace hm := itep hm hc
    with_reducible refine x_chain ?_
    with_reducible refine x_c ?_
    refine ⟨_, rfl, ?_⟩
    refine ⟨_, _, rfl, rfl, _, rfl, ?_⟩
    refine ifD (fun hc => ?_) (fun hc => ?_)
    · replace hm := itep hm hc
      with_reducible refine x_c ?_
      refine ⟨_, _, rfl, rfl, ?_⟩
      obtain rfl : _ = r := Option.some.inj hm
      exact q _ _ _ G1 (.bl _)
    · replace hm := iten hm (bF hc)
      obtain rfl : _ = r := Option.some.inj hm
      exact q _ _ _ G1 (.bl _)
  · replace hm := iten hm (bF hc)
    obtain rfl : _ = r := Option.some.inj hm
    exact q _ _ _ G1 (.bl _)


def is_stretch (base : Int) (thing : (List Int)) : Option Bool :=
  ((are_figures base thing).bind fun r1 => (if r1 = true then (if (decide ((1 : Int) ≤ (thing.length : Int))) = true then (some (decide ((thing.length : Int) ≤ (4 : Int)))) else (some false)) else (some false)))
abbrev N_is_stretch : List Str := ["base", "thing"]
theorem sc_is_stretch : FnScope N_is_stretch ["base", "thing"] (defScope s_is_stretch) := ⟨rfl, rfl, rfl, by decide +kernel, rfl, by decide +kernel, by decide +kernel⟩
def sp_is_stretch : Sp := fun vs H Q _ => ∃ (F : Hp) (v_base : V) (v_thing : V) (base : Int) (thing : (List Int)) (r : Bool), vs = [v_base, v_thing] ∧ Sub F H ∧ R F v_base base ∧ R F v_thing thing ∧ is_stretch base thing = some r ∧ ∀ N H2 v, Gr NA F H N H2 → R N v r → Q v H2
theorem ok_is_stretch {P : Program} {w : World} {K : PySem.W.Frag} {mg : Str → Option Value} {base : Heap} (T : Txt K mg) : FnOk P w K mg base CX0 4 T.f_is_stretch.f T.f_is_stretch.fd ["base", "thing"] sp_is_stretch := by
  have nd := (sc_is_stretch).nd
  refine T.f_is_stretch.F.ok sc_is_stretch (fun vs H Q E h => ?_) (fun cdv A0 outer s H vs Q E hr h => ?_)
  · obtain ⟨_, _, _, _, _, _, rfl, _⟩ := h
    rfl
  obtain ⟨F0, v_base, v_thing, base, thing, r, rfl, s0, f_base, f_thing, hm, q⟩ := h
  have G0 : Gr NA F0 H F0 H := Gr.refl s0
  obtain rfl := int_of f_base
  obtain ⟨a1, us1, rfl, fa1, fr1⟩ := lst_of f_thing
  refine ⟨_, (pss_one (ps_ret (pe_and (pe_call (ok_are_figures T) (hr.mono (by decide)) (by rfl) T.f_are_figures.g T.f_are_figures.F.kp T.f_are_figures.b .nil pass0 (pa_cons (pv 0) (pa_cons (pv 1) pa_nil))) (pe_one (pe_chain op_le op_le pe_int (pe_callB (r := rLenT K) call_lenT (by rfl) T.z_len PySem.boot_len (pa_cons (pv 1) pa_nil)) (pe_glob (v := .int 4) rfl T.c_MOST_FIGURES.g ⟨_, rfl⟩)))))), ?_⟩
  rw [is_stretch] at hm
  with_reducible refine x_ret ?_
  with_reducible refine x_andV ?_
  with_reducible refine x_call ?_
  with_reducible refine x_cons ?_
  refine ⟨_, rfl, ?_⟩
  with_reducible refine x_cons ?_
  refine ⟨_, rfl, ?_⟩
  obtain ⟨r1, hr1, hm⟩ := bindp hm
  refine ⟨_, _, _, base, thing, r1, rfl, G0.sub, (.int _), (mk_lst ((Sub.refl _) _ _ fa1) (Rs_mono (Sub.refl _) fr1)), hr1, fun N1 H1 v1 g1 d1  => ?_⟩
  have G1 := G0.step g1
  obtain rfl := bl_of d1
  refine ⟨_, rfl, ?_⟩
  refine ifD (fun hc => ?_) (fun hc => ?_)
  · replace hm := itep hm hc
    with_reducible refine x_chain ?_
    with_reducible refine x_c ?_
    refine useEv (.int (thing.length : Int)) (by exact (ev_lenT (Evl.ev_var rfl) ((g1.ex.trans G1.sub) _ _ fa1) (Rs_mono g1.ex fr1))) (fun H2 e1 => ?_)
    have g2 := gr_ex G1.sub e1
    have G2 := G1.step g2
    refine ⟨_, _, rfl, rfl, _, rfl, ?_⟩
    refine ifD (fun hc => ?_) (fun hc => ?_)
    · replace hm := itep hm hc
      with_reducible refine x_c ?_
      refine ⟨_, _, rfl, rfl, ?_⟩
      obtain rfl : _ = r := Option.some.inj hm
      exact q _ _ _ G2 (.bl _)
    · replace hm := iten hm (bF hc)
      obtain rfl : _ = r := Option.some.inj hm
      exact q _ _ _ G2 (.bl _)
  · replace hm := iten hm (bF hc)
    obtain rfl : _ = r := Option.some.inj hm
    exact q _ _ _ G1 (.bl _)

def is_rule_c1 (thing : (Int × (List (List Int)))) : (List (List Int)) → (List Int) → ((List (List Int)) → Option Bool) → Option Bool
  | x2, t1, next1 => ((is_stretch ((thing).1) t1).bind fun r2 => (if (!r2) = true then (if x2.length < 16777216 then (next1 (x2 ++ [t1])) else none) else (next1 x2)))
def is_rule_c3 (thing : (Int × (List (List Int)))) : (List Int) → Int → ((List Int) → Option Bool) → Option Bool
  | x4, t2, next2 => ((atI (thing).2 (t2 - (1 : Int))).bind fun x5 => ((atI (thing).2 t2).bind fun x6 => (if (!ltT x5 x6) = true then (if x4.length < 16777216 then (next2 (x4 ++ [t2])) else none) else (next2 x4))))
def is_rule_k4 : (List Int) → Option Bool
  | x4 => (some (eqT x4 ([] : (List Int))))
def is_rule_k2 (thing : (Int × (List (List Int)))) : (List (List Int)) → Option Bool
  | x2 => (if (!eqT x2 ([] : (List (List Int)))) = true then (some false) else (if Rg2 (1 : Int) ((thing).2.length : Int) then (forK (is_rule_c3 thing) (irange (1 : Int) ((thing).2.length : Int)) [] (is_rule_k4)) else none))
def is_rule (thing : (Int × (List (List Int)))) : Option Bool :=
  (if ((!decide ((2 : Int) = (2 : Int)))) = true then (some false) else ((is_base ((thing).1)).bind fun r1 => (if (!r1) = true then (some false) else (if (decide ((4 : Int) < ((thing).2.length : Int))) = true then (some false) else (forK (is_rule_c1 thing) ((thing).2) [] (is_rule_k2 thing))))))
abbrev N_is_rule : List Str := ["thing", "base", "bad", "one", "k"]
theorem sc_is_rule : FnScope N_is_rule ["thing"] (defScope s_is_rule) := ⟨rfl, rfl, rfl, by decide +kernel, rfl, by decide +kernel, by decide +kernel⟩
def sp_is_rule : Sp := fun vs H Q _ => ∃ (F : Hp) (v_thing : V) (thing : (Int × (List (List Int)))) (r : Bool), vs = [v_thing] ∧ Sub F H ∧ R F v_thing thing ∧ is_rule thing = some r ∧ ∀ N H2 v, Gr NA F H N H2 → R N v r → Q v H2
theorem ok_is_rule {P : Program} {w : World} {K : PySem.W.Frag} {mg : Str → Option Value} {base : Heap} (T : Txt K mg) : FnOk P w K mg base CX0 5 T.f_is_rule.f T.f_is_rule.fd ["thing"] sp_is_rule := by
  have nd := (sc_is_rule).nd
  refine T.f_is_rule.F.ok sc_is_rule (fun vs H Q E h => ?_) (fun cdv A0 outer s H vs Q E hr h => ?_)
  · obtain ⟨_, _, _, _, rfl, _⟩ := h
    rfl
  obtain ⟨F0, v_thing, thing, r, rfl, s0, f_thing, hm, q⟩ := h
  have G0 : Gr NA F0 H F0 H := Gr.refl s0
  obtain ⟨a1, v1, v2, rfl, fa1, d1, d2⟩ := tup2_of f_thing
  obtain rfl := int_of d1
  obtain ⟨a2, us1, rfl, fa2, fr1⟩ := lst_of d2
  refine ⟨_, (pss_cons (ps_if (PW.pt (pw_or (pt_not (pt_val (pe_callB (r := rIsi K) call_isi (by rfl) T.z_isinstance (by decide +kernel) (pa_cons (pv 0) (pa_cons (pe_bltn (v := .ty "tuple") (by rfl) T.z_tuple (by decide +kernel) rfl) pa_nil))))) (pw_or (pt_cmp (pc_neI (pe_callB (r := rLenT K) call_lenT (by rfl) T.z_len PySem.boot_len (pa_cons (pv 0) pa_nil)) pe_int)) (pw_or1 (pt_not (pt_val (pe_call (ok_is_base T) (hr.mono (by decide)) (by rfl) T.f_is_base.g T.f_is_base.F.kp T.f_is_base.b .nil pass0 (pa_cons (pe_ix (r := rIxT K) ix_tup (pv 0) pe_int (fun _ _ => rfl)) pa_nil)))))))) (pss_one (ps_ret pe_bl)) pss_nil) (pss_cons (ps_asg (pv 0) (pg_tup rfl (pgs_cons (pg_name (i := 1) nd rfl (by first | exact Or.inl rfl | exact Or.inr rfl)) (pgs_cons (pg_name (i := 2) nd rfl (by first | exact Or.inl rfl | exact Or.inr rfl)) pgs_nil)))) (pss_cons (ps_if (PW.pt (pw_or (pt_not (pt_val (pe_callB (r := rIsi K) call_isi (by rfl) T.z_isinstance (by decide +kernel) (pa_cons (pv 2) (pa_cons (pe_bltn (v := .ty "list") (by rfl) T.z_list (by decide +kernel) rfl) pa_nil))))) (pw_or1 (pt_cmp (pc_gt (pe_callB (r := rLenT K) call_lenT (by rfl) T.z_len PySem.boot_len (pa_cons (pv 2) pa_nil)) (pe_glob (v := .int 4) rfl T.c_MOST_STRETCHES.g ⟨_, rfl⟩)))))) (pss_one (ps_ret pe_bl)) pss_nil) (pss_cons (ps_if (pt_cmpR (op_neT (α := (List (List Int))) (by decide) (hu64 hr)) (pe_lc (own := [("one", 3)]) (g := (gName 3)) rfl nd (pi_list (pv 2)) (blkOk_by (own := [("one", 3)]) (N := N_is_rule) (sc := defScope s_is_rule) (by decide +kernel)) (fun _ _ _ _ _ => pg_name (i := 3) nd rfl (Or.inl rfl)) (fun _ _ _ _ _ => pts_one (pt_not (pt_val (pe_call (ok_is_stretch T) (hr.mono (by decide)) (by rfl) T.f_is_stretch.g T.f_is_stretch.F.kp T.f_is_stretch.b .nil pass0 (pa_cons (pv 1) (pa_cons (pv 3) pa_nil)))))) (fun _ _ _ _ _ => (pv 3))) (pe_lst pa_nil) (nomark _)) (pss_one (ps_ret pe_bl)) pss_nil) (pss_one (ps_ret (pe_cmpR (op_eqT (α := (List Int)) (by decide) (hu64 hr)) (pe_lc (own := [("k", 4)]) (g := (gName 4)) rfl nd (pi_range2 (by rfl) T.z_range (pa_cons pe_int (pa_cons (pe_callB (r := rLenT K) call_lenT (by rfl) T.z_len PySem.boot_len (pa_cons (pv 2) pa_nil)) pa_nil))) (blkOk_by (own := [("k", 4)]) (N := N_is_rule) (sc := defScope s_is_rule) (by decide +kernel)) (fun _ _ _ _ _ => pg_name (i := 4) nd rfl (Or.inl rfl)) (fun _ _ _ _ _ => pts_one (pt_cmpR (op_geT' (α := (List Int)) (by decide) (hu64 hr)) (pe_ix (r := rIxL K) ix_list (pv 2) (pe_op op_sub (pv 4) pe_int) (fun _ _ => rfl)) (pe_ix (r := rIxL K) ix_list (pv 2) (pv 4) (fun _ _ => rfl)) (nomark _))) (fun _ _ _ _ _ => (pv 4))) (pe_lst pa_nil) (nomark _)))))))), ?_⟩
  rw [is_rule] at hm
  with_reducible refine x_seq ?_
  with_reducible refine x_if ?_
  with_reducible refine x_or ?_
  with_reducible refine x_not ?_
  with_reducible refine x_B ?_
  with_reducible refine x_cb ?_
  with_reducible refine x_cons ?_
  refine ⟨_, rfl, ?_⟩
  refine ⟨_, _, _, _, true, rfl, ClsV.ty _, TyX.base (TyOf.tup (G0.sub _ _ fa1)), kit_ty (by decide +kernel), ?_⟩
  refine ⟨_, rfl, ?_⟩
  refine iteF ?_
  with_reducible refine x_or ?_
  with_reducible refine x_B ?_
  with_reducible refine x_cmp ?_
  with_reducible refine x_cb ?_
  with_reducible refine x_cons ?_
  refine ⟨_, rfl, ?_⟩
  refine ⟨_, _, rfl, .inr (.inl (.inl (G0.sub _ _ fa1))), ?_⟩
  with_reducible refine x_c ?_
  refine ⟨_, _, rfl, rfl, ?_⟩
  refine ⟨_, rfl, ?_⟩
  refine ifD (fun hc => ?_) (fun hc => ?_)
  · replace hm := itep hm hc
    refine iteT ?_
    with_reducible refine x_ret ?_
    with_reducible refine x_c ?_
    obtain rfl : _ = r := Option.some.inj hm
    exact q _ _ _ G0 (.bl _)
  · replace hm := iten hm (bF hc)
    with_reducible refine x_not ?_
    with_reducible refine x_B ?_
    with_reducible refine x_call ?_
    with_reducible refine x_cons ?_
    with_reducible refine x_op ?_
    refine ⟨_, rfl, ?_⟩
    refine ⟨_, _, _, _, rfl, rfl, .inl (.inl (G0.sub _ _ fa1)), atI_nat (j := 0) rfl, ?_⟩
    obtain ⟨r1, hr1, hm⟩ := bindp hm
    refine ⟨_, _, (thing).1, r1, rfl, G0.sub, (.int _), hr1, fun N1 H1 v3 g1 d3  => ?_⟩
    have G1 := G0.step g1
    obtain rfl := bl_of d3
    refine ⟨_, rfl, ?_⟩
    refine ifD (fun hc => ?_) (fun hc => ?_)
    · replace hm := itep hm hc
      with_reducible refine x_ret ?_
      with_reducible refine x_c ?_
      obtain rfl : _ = r := Option.some.inj hm
      exact q _ _ _ G1 (.bl _)
    · replace hm := iten hm (bF hc)
      with_reducible refine x_next ?_
      with_reducible refine x_seq ?_
      with_reducible refine x_asg ?_
      refine ⟨_, rfl, ?_⟩
      refine ⟨_, _, rfl, .inl (.inl ((g1.ex.trans G1.sub) _ _ fa1)), rfl, ?_⟩
      refine ⟨_, _, rfl, ?_⟩
      with_reducible refine x_gn ?_
      refine ⟨_, _, rfl, ?_⟩
      with_reducible refine x_gn ?_
      refine ⟨rfl, ?_⟩
      with_reducible refine x_seq ?_
      with_reducible refine x_if ?_
      with_reducible refine x_or ?_
      with_reducible refine x_not ?_
      with_reducible refine x_B ?_
      with_reducible refine x_cb ?_
      with_reducible refine x_cons ?_
      refine ⟨_, rfl, ?_⟩
      refine ⟨_, _, _, _, true, rfl, ClsV.ty _, TyX.base (TyOf.lst ((g1.ex.trans G1.sub) _ _ fa2)), kit_ty (by decide +kernel), ?_⟩
      refine ⟨_, rfl, ?_⟩
      refine iteF ?_
      with_reducible refine x_B ?_
      refine useEv (.bl (decide ((4 : Int) < ((thing).2.length : Int)))) (by exact (ev_cmp (ev_lenT (Evl.ev_var rfl) ((g1.ex.trans G1.sub) _ _ fa2) (Rs_mono g1.ex fr1)) Evl.ev_c)) (fun H2 e1 => ?_)
      have g2 := gr_ex G1.sub e1
      have G2 := G1.step g2
      refine ⟨_, rfl, ?_⟩
      refine ifD (fun hc => ?_) (fun hc => ?_)
      · replace hm := itep hm hc
        with_reducible refine x_ret ?_
        with_reducible refine x_c ?_
        obtain rfl : _ = r := Option.some.inj hm
        exact q _ _ _ G2 (.bl _)
      · replace hm := iten hm (bF hc)
        with_reducible refine x_next ?_
        with_reducible refine x_seq ?_
        with_reducible refine x_if ?_
        with_reducible refine x_test ?_
        with_reducible refine x_op ?_
        with_reducible refine x_lc ?_
        with_reducible refine x_iter ?_
        refine ⟨_, rfl, ?_⟩
        refine ⟨_, rfl, ⟨_, .inl (.inl ((g1.ex.trans G2.sub) _ _ fa2))⟩, fun p1 np1 => ?_⟩
        have g3 := Gr.newO (o := .lst []) G2.sub np1
        have o1 := Ow.new (us := []) G2 np1
        have G3 := G2.step g3
        refine lc_lst (α := (List Int)) (fun (ts1 : List (List Int)) H3 => ∃ (F1 : Hp) (x2 : List (List Int)) (us3 : List V), forK (is_rule_c1 thing) ts1 x2 (is_rule_k2 thing) = some r ∧ Sub (N1) F1 ∧ Gr NA F0 H F1 H3 ∧ Ow H F1 H3 p1 us3 ∧ Rs F1 us3 x2) (Rs_mono g1.ex fr1) ⟨N1, ([] : List (List Int)), _, hm, (Sub.refl _), G3, o1, Rs_nil⟩ (fun _ _ h => ?_) (fun t1 ts2 v4 H1 hv1 hW => ?_) (fun H1 hW => ?_)
        · obtain ⟨F9, _, _, _, s9, G9, _⟩ := h
          exact G9.sub _ _ (s9 _ _ (g1.ex _ _ fa2))
        · skip
          obtain ⟨F1, x2, us3, hm, s1, G4, o2, fr2⟩ := hW
          obtain ⟨next1, hnx1⟩ : ∃ nx, nx = fun s => forK (is_rule_c1 thing) ts2 s (is_rule_k2 thing) := ⟨_, rfl⟩
          have hm : (is_rule_c1 thing) x2 t1 next1 = some r := by rw [hnx1]; exact forK_c hm
          rw [is_rule_c1] at hm
          obtain ⟨a3, us4, rfl, fa3, fr3⟩ := lst_of hv1
          with_reducible refine x_gn ?_
          refine ⟨rfl, ?_⟩
          with_reducible refine x_not ?_
          with_reducible refine x_B ?_
          with_reducible refine x_call ?_
          with_reducible refine x_cons ?_
          refine ⟨_, rfl, ?_⟩
          with_reducible refine x_cons ?_
          refine ⟨_, rfl, ?_⟩
          obtain ⟨r2, hr2, hm⟩ := bindp hm
          refine ⟨_, _, _, (thing).1, t1, r2, rfl, G4.sub, (.int _), (mk_lst (s1 _ _ fa3) (Rs_mono s1 fr3)), hr2, fun N2 H4 v5 g4 d4  => ?_⟩
          have G5 := G4.step g4
          have o3 := o2.step g4
          obtain rfl := bl_of d4
          refine ⟨_, rfl, ?_⟩
          refine ifD (fun hc => ?_) (fun hc => ?_)
          · replace hm := itep hm hc
            refine ⟨_, rfl, ?_⟩
            obtain ⟨c1, hm⟩ := guardp hm
            have G6 := o3.mutG (o := .lst (us3 ++ [(.ref a3)])) G5
            have o4 := o3.mut (ws := us3 ++ [(.ref a3)])
            have fr4 : Rs (α := (List Int)) (N2) (us3 ++ [(.ref a3)]) (x2 ++ [t1]) := Rs_snoc (Rs_mono g4.ex fr2) (mk_lst ((s1.trans g4.ex) _ _ fa3) (Rs_mono (s1.trans g4.ex) fr3))
            rw [hnx1] at hm
            exact ⟨_, o3.at_, szl (by rw [Rs_len (Rs_mono g4.ex fr2)]; exact c1), ⟨N2, (x2 ++ [t1]), _, hm, (s1.trans g4.ex), G6, o4, fr4⟩⟩
          · replace hm := iten hm (bF hc)
            rw [hnx1] at hm
            exact ⟨N2, x2, _, hm, (s1.trans g4.ex), G5, o3, (Rs_mono g4.ex fr2)⟩
        · skip
          obtain ⟨F1, x2, us3, hm, s2, G7, o5, fr5⟩ := hW
          have hm : (is_rule_k2 thing) x2 = some r := forK_n hm
          rw [is_rule_k2] at hm
          with_reducible refine x_lst ?_
          refine ⟨szle (show 0 ≤ 16777216 from by decide), fun p2 np2 => ?_⟩
          have fr6 : Rs (α := (List Int)) (F1) [] ([] : (List (List Int))) := Rs_nil
          have g5 := Gr.newO (o := .lst []) G7.sub np2
          have o6 := Ow.new (us := []) G7 np2
          have ne1 := o5.ne_new np2
          have G8 := G7.step g5
          have o7 := o5.step g5
          refine ⟨_, x2, ([] : (List (List Int))), Sub.refl _, (mk_lst o7.at_ (Rs_mono G8.sub fr5)), (mk_lst o6.at_ (Rs_mono G8.sub fr6)), ?_⟩
          refine ⟨_, rfl, ?_⟩
          refine ifD (fun hc => ?_) (fun hc => ?_)
          · replace hm := itep hm hc
            with_reducible refine x_ret ?_
            with_reducible refine x_c ?_
            obtain rfl : _ = r := Option.some.inj hm
            exact q _ _ _ G8 (.bl _)
          · replace hm := iten hm (bF hc)
            with_reducible refine x_next ?_
            with_reducible refine x_ret ?_
            with_reducible refine x_op ?_
            with_reducible refine x_lc ?_
            with_reducible refine x_rng2 ?_
            with_reducible refine x_cons ?_
            with_reducible refine x_c ?_
            with_reducible refine x_cons ?_
            refine useEv (.int ((thing).2.length : Int)) (by exact (ev_lenT (Evl.ev_var rfl) (((g1.ex.trans s2).trans G8.sub) _ _ fa2) (Rs_mono (g1.ex.trans s2) fr1))) (fun H5 e2 => ?_)
            have g6 := gr_ex G8.sub e2
            have G9 := G8.step g6
            have o8 := o7.step g6
            have o9 := o6.step g6
            obtain ⟨c2, hm⟩ := guardp hm
            refine ⟨_, _, rfl, c2.ok, fun p3 np3 => ?_⟩
            have g7 := Gr.newO (o := .lst []) G9.sub np3
            have o10 := Ow.new (us := []) G9 np3
            have ne2 := o8.ne_new np3
            have ne3 := o9.ne_new np3
            have G10 := G9.step g7
            have o11 := o8.step g7
            have o12 := o9.step g7
            refine lc_rng (lo := (1 : Int)) (hi := ((thing).2.length : Int)) rfl (fun (ts3 : List Int) H6 => ∃ (F2 : Hp) (x4 : List Int) (us6 : List V), forK (is_rule_c3 thing) ts3 x4 (is_rule_k4) = some r ∧ Sub (F1) F2 ∧ Gr NA F0 H F2 H6 ∧ Ow H F2 H6 p3 us6 ∧ Rs F2 us6 x4 ∧ Ow H F2 H6 p1 us3 ∧ Ow H F2 H6 p2 []) ⟨F1, ([] : List Int), _, hm, (Sub.refl _), G10, o10, Rs_nil, o11, o12⟩ (fun t2 ts4 H1 hW => ?_) (fun H1 hW => ?_)
            · skip
              obtain ⟨F2, x4, us6, hm, s3, G11, o13, fr7, o14, o15⟩ := hW
              obtain ⟨next2, hnx2⟩ : ∃ nx, nx = fun s => forK (is_rule_c3 thing) ts4 s (is_rule_k4) := ⟨_, rfl⟩
              have hm : (is_rule_c3 thing) x4 t2 next2 = some r := by rw [hnx2]; exact forK_c hm
              rw [is_rule_c3] at hm
              with_reducible refine x_gn ?_
              refine ⟨rfl, ?_⟩
              with_reducible refine x_test ?_
              with_reducible refine x_op ?_
              with_reducible refine x_op ?_
              refine ⟨_, rfl, ?_⟩
              refine useEv (.int (t2 - (1 : Int))) (by exact (Evl.ev_op (Evl.ev_var rfl) Evl.ev_c Evl.rv_I0)) (fun H7 e3 => ?_)
              have g8 := gr_ex G11.sub e3
              have G12 := G11.step g8
              have o16 := o13.step g8
              have o17 := o14.step g8
              have o18 := o15.step g8
              obtain ⟨x5, hx1, hm⟩ := bindp hm
              obtain ⟨v7, hu1, d5⟩ := Rs_at (Rs_mono ((g1.ex.trans s2).trans s3) fr1) hx1
              refine ⟨_, _, _, _, rfl, rfl, .inl (.inl ((((g1.ex.trans s2).trans s3).trans G12.sub) _ _ fa2)), hu1, ?_⟩
              obtain ⟨a4, us7, rfl, fa4, fr8⟩ := lst_of d5
              with_reducible refine x_op ?_
              refine ⟨_, rfl, ?_⟩
              refine ⟨_, rfl, ?_⟩
              obtain ⟨x6, hx2, hm⟩ := bindp hm
              obtain ⟨v8, hu2, d6⟩ := Rs_at (Rs_mono ((g1.ex.trans s2).trans s3) fr1) hx2
              refine ⟨_, _, _, _, rfl, rfl, .inl (.inl ((((g1.ex.trans s2).trans s3).trans G12.sub) _ _ fa2)), hu2, ?_⟩
              obtain ⟨a5, us8, rfl, fa5, fr9⟩ := lst_of d6
              refine ⟨_, x5, x6, Sub.refl _, (RD.mono G12.sub (mk_lst ((Sub.refl _) _ _ fa4) (Rs_mono (Sub.refl _) fr8))), (RD.mono G12.sub (mk_lst ((Sub.refl _) _ _ fa5) (Rs_mono (Sub.refl _) fr9))), ?_⟩
              refine ⟨_, rfl, ?_⟩
              refine ifD (fun hc => ?_) (fun hc => ?_)
              · replace hm := itep hm hc
                refine ⟨_, rfl, ?_⟩
                obtain ⟨c3, hm⟩ := guardp hm
                have G13 := o16.mutG (o := .lst (us6 ++ [(.int t2)])) G12
                have o19 := o16.mut (ws := us6 ++ [(.int t2)])
                have fr10 : Rs (α := Int) (F2) (us6 ++ [(.int t2)]) (x4 ++ [t2]) := Rs_snoc fr7 (.int _)
                have o20 := o17.other (ws := us6 ++ [(.int t2)]) (Ne.symm ne2)
                have o21 := o18.other (ws := us6 ++ [(.int t2)]) (Ne.symm ne3)
                rw [hnx2] at hm
                exact ⟨_, o16.at_, szl (by rw [Rs_len fr7]; exact c3), ⟨F2, (x4 ++ [t2]), _, hm, s3, G13, o19, fr10, o20, o21⟩⟩
              · replace hm := iten hm (bF hc)
                rw [hnx2] at hm
                exact ⟨F2, x4, _, hm, s3, G12, o16, fr7, o17, o18⟩
            · skip
              obtain ⟨F2, x4, us6, hm, s4, G14, o22, fr11, o23, o24⟩ := hW
              have hm : (is_rule_k4) x4 = some r := forK_n hm
              rw [is_rule_k4] at hm
              with_reducible refine x_lst ?_
              refine ⟨szle (show 0 ≤ 16777216 from by decide), fun p4 np4 => ?_⟩
              have fr12 : Rs (α := Int) (F2) [] ([] : (List Int)) := Rs_nil
              have g9 := Gr.newO (o := .lst []) G14.sub np4
              have o25 := Ow.new (us := []) G14 np4
              have ne4 := o22.ne_new np4
              have ne5 := o23.ne_new np4
              have ne6 := o24.ne_new np4
              have G15 := G14.step g9
              have o26 := o22.step g9
              have o27 := o23.step g9
              have o28 := o24.step g9
              refine ⟨_, x4, ([] : (List Int)), Sub.refl _, (mk_lst o26.at_ (Rs_mono G15.sub fr11)), (mk_lst o25.at_ (Rs_mono G15.sub fr12)), ?_⟩
              obtain rfl : _ = r := Option.some.inj hm
              exact q _ _ _ G15 (.bl _)


def need_rule (thing : (Int × (List (List Int)))) : Option Unit :=
  ((is_rule thing).bind fun r1 => (if (!r1) = true then none else (some ())))
abbrev N_need_rule : List Str := ["thing"]
theorem sc_need_rule : FnScope N_need_rule ["thing"] (defScope s_need_rule) := ⟨rfl, rfl, rfl, by decide +kernel, rfl, by decide +kernel, by decide +kernel⟩
def sp_need_rule : Sp := fun vs H Q _ => ∃ (F : Hp) (v_thing : V) (thing : (Int × (List (List Int)))) (r : Unit), vs = [v_thing] ∧ Sub F H ∧ R F v_thing thing ∧ need_rule thing = some r ∧ ∀ N H2 v, Gr NA F H N H2 → R N v r → Q v H2
theorem ok_need_rule {P : Program} {w : World} {K : PySem.W.Frag} {mg : Str → Option Value} {base : Heap} (T : Txt K mg) : FnOk P w K mg base CX0 6 T.f_need_rule.f T.f_need_rule.fd ["thing"] sp_need_rule := by
  have nd := (sc_need_rule).nd
  refine T.f_need_rule.F.ok sc_need_rule (fun vs H Q E h => ?_) (fun cdv A0 outer s H vs Q E hr h => ?_)
  · obtain ⟨_, _, _, _, rfl, _⟩ := h
    rfl
  obtain ⟨F0, v_thing, thing, r, rfl, s0, f_thing, hm, q⟩ := h
  have G0 : Gr NA F0 H F0 H := Gr.refl s0
  obtain ⟨a1, v1, v2, rfl, fa1, d1, d2⟩ := tup2_of f_thing
  obtain rfl := int_of d1
  obtain ⟨a2, us1, rfl, fa2, fr1⟩ := lst_of d2
  refine ⟨_, (pss_one (ps_if (pt_not (pt_val (pe_call (ok_is_rule T) (hr.mono (by decide)) (by rfl) T.f_is_rule.g T.f_is_rule.F.kp T.f_is_rule.b .nil pass0 (pa_cons (pv 0) pa_nil)))) (pss_one ps_never) pss_nil)), ?_⟩
  rw [need_rule] at hm
  with_reducible refine x_if ?_
  with_reducible refine x_not ?_
  with_reducible refine x_B ?_
  with_reducible refine x_call ?_
  with_reducible refine x_cons ?_
  refine ⟨_, rfl, ?_⟩
  obtain ⟨r1, hr1, hm⟩ := bindp hm
  refine ⟨_, _, thing, r1, rfl, G0.sub, (mk_tup2 ((Sub.refl _) _ _ fa1) (.int _) (mk_lst ((Sub.refl _) _ _ fa2) (Rs_mono (Sub.refl _) fr1))), hr1, fun N1 H1 v3 g1 d3  => ?_⟩
  have G1 := G0.step g1
  obtain rfl := bl_of d3
  refine ⟨_, rfl, ?_⟩
  refine ifD (fun hc => ?_) (fun hc => ?_)
  · replace hm := itep hm hc
    exact no_none hm
  · replace hm := iten hm (bF hc)
    with_reducible refine x_next ?_
    obtain rfl : _ = r := Option.some.inj hm
    exact q _ _ _ G1 .non

def ends_of_c3 (figures : (List Int)) (t1 : Int) : (List (List Int)) → (List Int) → ((List (List Int)) → Option (List Int)) → Option (List Int)
  | x2, t2, next2 => (if (eqT (cutT t2 none (some ((cutT figures (some t1) none).length : Int))) (cutT figures (some t1) none)) = true then (if x2.length < 16777216 then (next2 (x2 ++ [t2])) else none) else (next2 x2))
def ends_of_k4 (figures : (List Int)) (t1 : Int) (next1 : (Unit → Option (List Int))) : (List (List Int)) → Option (List Int)
  | x2 => (if (!eqT x2 ([] : (List (List Int)))) = true then (some (cutT figures (some t1) none)) else (next1 ()))
def ends_of_b1 (figures : (List Int)) (rule : (Int × (List (List Int)))) : Unit → Int → (Unit → Option (List Int)) → Option (List Int)
  | _, t1, next1 => (if (eqT (cutT figures (some t1) none) []) = true then (some (cutT figures (some t1) none)) else (forK (ends_of_c3 figures t1) ((rule).2) [] (ends_of_k4 figures t1 next1)))
def ends_of_e2 : Unit → Option (List Int)
  | _ => (some ([] : (List Int)))
def ends_of (rule : (Int × (List (List Int)))) (figures : (List Int)) : Option (List Int) :=
  (if Rg1 ((figures.length : Int) + (1 : Int)) then (forK (ends_of_b1 figures rule) (irange 0 ((figures.length : Int) + (1 : Int))) () (ends_of_e2)) else none)
abbrev N_ends_of : List Str := ["rule", "figures", "at", "end", "one"]
theorem sc_ends_of : FnScope N_ends_of ["rule", "figures"] (defScope s_ends_of) := ⟨rfl, rfl, rfl, by decide +kernel, rfl, by decide +kernel, by decide +kernel⟩
def sp_ends_of : Sp := fun vs H Q _ => ∃ (F : Hp) (v_rule : V) (v_figures : V) (rule : (Int × (List (List Int)))) (figures : (List Int)) (r : (List Int)), vs = [v_rule, v_figures] ∧ Sub F H ∧ R F v_rule rule ∧ R F v_figures figures ∧ ends_of rule figures = some r ∧ ∀ N H2 v, Gr NA F H N H2 → R N v r → Fz H v → Q v H2
theorem ok_ends_of {P : Program} {w : World} {K : PySem.W.Frag} {mg : Str → Option Value} {base : Heap} (T : Txt K mg) : FnOk P w K mg base CX0 1 T.f_ends_of.f T.f_ends_of.fd ["rule", "figures"] sp_ends_of := by
  have nd := (sc_ends_of).nd
  refine T.f_ends_of.F.ok sc_ends_of (fun vs H Q E h => ?_) (fun cdv A0 outer s H vs Q E hr h => ?_)
  · obtain ⟨_, _, _, _, _, _, rfl, _⟩ := h
    rfl
  obtain ⟨F0, v_rule, v_figures, rule, figures, r, rfl, s0, f_rule, f_figures, hm, q⟩ := h
  have G0 : Gr NA F0 H F0 H := Gr.refl s0
  obtain ⟨a1, v1, v2, rfl, fa1, d1, d2⟩ := tup2_of f_rule
  obtain rfl := int_of d1
  obtain ⟨a2, us1, rfl, fa2, fr1⟩ := lst_of d2
  obtain ⟨a3, us2, rfl, fa3, fr2⟩ := lst_of f_figures
  refine ⟨_, (pss_cons (ps_for PassesOwn.never rfl (pi_range1 (by rfl) T.z_range (pa_cons (pe_op op_add (pe_callB (r := rLenT K) call_lenT (by rfl) T.z_len PySem.boot_len (pa_cons (pv 1) pa_nil)) pe_int) pa_nil)) (pg_name (i := 2) nd rfl (by first | exact Or.inl rfl | exact Or.inr rfl)) (pss_cons (ps_set (i := 3) nd rfl (by first | exact Or.inl rfl | exact Or.inr rfl) (pe_slice (r := rSlL K) sl_list (pv 1) (po_some (pv 2)) po_none)) (pss_one (ps_if (PW.pt (pw_or (pt_cmpR (op_eqT (α := (List Int)) (by decide) (hu64 hr)) (pv 3) (pe_lst pa_nil) (nomark _)) (pw_or1 (pt_cmpR (op_neT (α := (List (List Int))) (by decide) (hu64 hr)) (pe_lc (own := [("one", 4)]) (g := (gName 4)) rfl nd (pi_list (pe_ix (r := rIxT K) ix_tup (pv 0) pe_int (fun _ _ => rfl))) (blkOk_by (own := [("one", 4)]) (N := N_ends_of) (sc := defScope s_ends_of) (by decide +kernel)) (fun _ _ _ _ _ => pg_name (i := 4) nd rfl (Or.inl rfl)) (fun _ _ _ _ _ => pts_one (pt_cmpR (op_eqT (α := (List Int)) (by decide) (hu64 hr)) (pe_slice (r := rSlL K) sl_list (pv 4) po_none (po_some (pe_callB (r := rLenT K) call_lenT (by rfl) T.z_len PySem.boot_len (pa_cons (pv 3) pa_nil)))) (pv 3) (nomark _))) (fun _ _ _ _ _ => (pv 4))) (pe_lst pa_nil) (nomark _))))) (pss_one (ps_ret (pe_callTy (r := rListT K) call_listT (by rfl) T.z_list (by decide +kernel) (pa_cons (pv 3) pa_nil)))) pss_nil)))) (pss_one (ps_ret (pe_lst pa_nil)))), ?_⟩
  rw [ends_of] at hm
  with_reducible refine x_seq ?_
  with_reducible refine x_for ?_
  with_reducible refine x_rng1 ?_
  with_reducible refine x_cons ?_
  refine useEv (.int ((figures.length : Int) + (1 : Int))) (by exact (Evl.ev_op (ev_lenT (Evl.ev_var rfl) (G0.sub _ _ fa3) (Rs_mono (Sub.refl _) fr2)) Evl.ev_c Evl.rv_I0)) (fun H1 e1 => ?_)
  have g1 := gr_ex G0.sub e1
  have G1 := G0.step g1
  obtain ⟨c1, hm⟩ := guardp hm
  refine ⟨_, rfl, c1.lo, c1.hi, ?_⟩
  refine for_rng (lo := 0) (hi := ((figures.length : Int) + (1 : Int))) (by rw [Int.sub_zero]) (fun (ts1 : List Int) σ H2 => ∃ (F1 : Hp) (y1 : Option V) (y2 : Option V), forK (ends_of_b1 figures rule) ts1 () (ends_of_e2) = some r ∧ Sub (F0) F1 ∧ Gr NA F0 H F1 H2 ∧ σ = [some (.ref a1), some (.ref a3), y1, y2, none]) ⟨F0, _, _, hm, (Sub.refl _), G1, rfl⟩ (fun t1 ts2 σ H1 hW => ?_) (fun σ H1 hW => ?_)
  · skip
    obtain ⟨F1, y1, y2, hm, s1, G2, rfl⟩ := hW
    obtain ⟨next1, hnx1⟩ : ∃ nx, nx = fun s => forK (ends_of_b1 figures rule) ts2 s (ends_of_e2) := ⟨_, rfl⟩
    have hm : (ends_of_b1 figures rule) () t1 next1 = some r := by rw [hnx1]; exact forK_c hm
    rw [ends_of_b1] at hm
    with_reducible refine x_gn ?_
    with_reducible refine x_seq ?_
    with_reducible refine x_asg ?_
    with_reducible refine x_sl ?_
    refine ⟨_, rfl, ?_⟩
    with_reducible refine x_part ?_
    refine ⟨_, rfl, ?_⟩
    refine ⟨_, rfl, ?_⟩
    with_reducible refine x_nopart ?_
    refine ⟨_, _, rfl, .inl (.inl ((s1.trans G2.sub) _ _ fa3)), fun p1 np1 => ?_⟩
    have fr3 : Rs (α := Int) (F1) (cutV us2 (some t1) none) (cutT figures (some t1) none) := Rs_cut (Rs_mono s1 fr2)
    have g2 := Gr.newO (o := .lst (cutV us2 (some t1) none)) G2.sub np1
    have o1 := Ow.new (us := (cutV us2 (some t1) none)) G2 np1
    have G3 := G2.step g2
    with_reducible refine x_gn ?_
    with_reducible refine x_if ?_
    with_reducible refine x_or ?_
    with_reducible refine x_test ?_
    refine useEv (.bl (eqT (cutT figures (some t1) none) [])) (by exact (ev_eqNil (α := Int) (Evl.ev_var rfl) (mk_lst o1.at_ (Rs_mono G3.sub fr3)))) (fun H3 e2 => ?_)
    have g3 := gr_ex G3.sub e2
    have G4 := G3.step g3
    have o2 := o1.step g3
    refine ⟨_, rfl, ?_⟩
    refine ifD (fun hc => ?_) (fun hc => ?_)
    · replace hm := itep hm hc
      refine iteT ?_
      with_reducible refine x_ret ?_
      with_reducible refine x_cb ?_
      with_reducible refine x_cons ?_
      refine ⟨_, rfl, ?_⟩
      refine ⟨_, _, rfl, .inl (.inl (.inl o2.at_)), fun p2 np2 => ?_⟩
      have g4 := Gr.newO (o := .lst (cutV us2 (some t1) none)) G4.sub np2
      have o3 := Ow.new (us := (cutV us2 (some t1) none)) G4 np2
      have ne1 := o2.ne_new np2
      have G5 := G4.step g4
      have o4 := o2.step g4
      have G6 := o3.frz G5
      have ex1 := o3.ex
      have o5 := o4.frzo (Ne.symm (Ne.symm ne1)) o3
      have fa4 : (upd (F1) p2 (.lst (cutV us2 (some t1) none))) p2 = some (.lst (cutV us2 (some t1) none)) := upd_same
      have fr4 := Rs_mono ex1 fr3
      obtain rfl : _ = r := Option.some.inj hm
      exact q _ _ _ G6 (mk_lst ((Sub.refl _) _ _ fa4) (Rs_mono (Sub.refl _) fr4)) (fun a9 e9 => by cases e9; exact o3.n0)
    · replace hm := iten hm (bF hc)
      with_reducible refine x_test ?_
      with_reducible refine x_op ?_
      with_reducible refine x_lc ?_
      with_reducible refine x_iter ?_
      with_reducible refine x_op ?_
      refine ⟨_, rfl, ?_⟩
      refine ⟨_, _, _, _, rfl, rfl, .inl (.inl ((s1.trans G4.sub) _ _ fa1)), atI_nat (j := 1) rfl, ?_⟩
      refine ⟨_, rfl, ⟨_, .inl (.inl ((s1.trans G4.sub) _ _ fa2))⟩, fun p3 np3 => ?_⟩
      have g5 := Gr.newO (o := .lst []) G4.sub np3
      have o6 := Ow.new (us := []) G4 np3
      have ne2 := o2.ne_new np3
      have G7 := G4.step g5
      have o7 := o2.step g5
      refine lc_lst (α := (List Int)) (fun (ts3 : List (List Int)) H4 => ∃ (F2 : Hp) (x2 : List (List Int)) (us4 : List V), forK (ends_of_c3 figures t1) ts3 x2 (ends_of_k4 figures t1 next1) = some r ∧ Sub (F1) F2 ∧ Gr NA F0 H F2 H4 ∧ Ow H F2 H4 p3 us4 ∧ Rs F2 us4 x2 ∧ Ow H F2 H4 p1 (cutV us2 (some t1) none)) (Rs_mono s1 fr1) ⟨F1, ([] : List (List Int)), _, hm, (Sub.refl _), G7, o6, Rs_nil, o7⟩ (fun _ _ h => ?_) (fun t2 ts4 v4 H1 hv2 hW => ?_) (fun H1 hW => ?_)
      · obtain ⟨F9, _, _, _, s9, G9, _⟩ := h
        exact G9.sub _ _ (s9 _ _ (s1 _ _ fa2))
      · skip
        obtain ⟨F2, x2, us4, hm, s2, G8, o8, fr5, o9⟩ := hW
        obtain ⟨next2, hnx2⟩ : ∃ nx, nx = fun s => forK (ends_of_c3 figures t1) ts4 s (ends_of_k4 figures t1 next1) := ⟨_, rfl⟩
        have hm : (ends_of_c3 figures t1) x2 t2 next2 = some r := by rw [hnx2]; exact forK_c hm
        rw [ends_of_c3] at hm
        obtain ⟨a4, us5, rfl, fa5, fr6⟩ := lst_of hv2
        with_reducible refine x_gn ?_
        refine ⟨rfl, ?_⟩
        with_reducible refine x_test ?_
        with_reducible refine x_op ?_
        with_reducible refine x_sl ?_
        refine ⟨_, rfl, ?_⟩
        with_reducible refine x_nopart ?_
        with_reducible refine x_part ?_
        refine useEv (.int ((cutT figures (some t1) none).length : Int)) (by exact (ev_lenT (Evl.ev_var rfl) o9.at_ (Rs_mono s2 fr3))) (fun H5 e3 => ?_)
        have g6 := gr_ex G8.sub e3
        have G9 := G8.step g6
        have o10 := o8.step g6
        have o11 := o9.step g6
        refine ⟨_, rfl, ?_⟩
        refine ⟨_, _, rfl, .inl (.inl ((s2.trans G9.sub) _ _ fa5)), fun p4 np4 => ?_⟩
        have fr7 : Rs (α := Int) (F2) (cutV us5 none (some ((cutT figures (some t1) none).length : Int))) (cutT t2 none (some ((cutT figures (some t1) none).length : Int))) := Rs_cut (Rs_mono s2 fr6)
        have g7 := Gr.newO (o := .lst (cutV us5 none (some ((cutT figures (some t1) none).length : Int)))) G9.sub np4
        have o12 := Ow.new (us := (cutV us5 none (some ((cutT figures (some t1) none).length : Int)))) G9 np4
        have ne3 := o10.ne_new np4
        have ne4 := o11.ne_new np4
        have G10 := G9.step g7
        have o13 := o10.step g7
        have o14 := o11.step g7
        refine ⟨_, rfl, ?_⟩
        refine ⟨_, (cutT t2 none (some ((cutT figures (some t1) none).length : Int))), (cutT figures (some t1) none), Sub.refl _, (mk_lst o12.at_ (Rs_mono G10.sub fr7)), (mk_lst o14.at_ (Rs_mono G10.sub (Rs_mono s2 fr3))), ?_⟩
        refine ⟨_, rfl, ?_⟩
        refine ifD (fun hc => ?_) (fun hc => ?_)
        · replace hm := itep hm hc
          refine ⟨_, rfl, ?_⟩
          obtain ⟨c2, hm⟩ := guardp hm
          have G11 := o13.mutG (o := .lst (us4 ++ [(.ref a4)])) G10
          have o15 := o13.mut (ws := us4 ++ [(.ref a4)])
          have fr8 : Rs (α := (List Int)) (F2) (us4 ++ [(.ref a4)]) (x2 ++ [t2]) := Rs_snoc fr5 (mk_lst (s2 _ _ fa5) (Rs_mono s2 fr6))
          have o16 := o14.other (ws := us4 ++ [(.ref a4)]) (Ne.symm ne2)
          have o17 := o12.other (ws := us4 ++ [(.ref a4)]) (Ne.symm (Ne.symm ne3))
          rw [hnx2] at hm
          exact ⟨_, o13.at_, szl (by rw [Rs_len fr5]; exact c2), ⟨F2, (x2 ++ [t2]), _, hm, s2, G11, o15, fr8, o16⟩⟩
        · replace hm := iten hm (bF hc)
          rw [hnx2] at hm
          exact ⟨F2, x2, _, hm, s2, G10, o13, fr5, o14⟩
      · skip
        obtain ⟨F2, x2, us4, hm, s3, G12, o18, fr9, o19⟩ := hW
        have hm : (ends_of_k4 figures t1 next1) x2 = some r := forK_n hm
        rw [ends_of_k4] at hm
        with_reducible refine x_lst ?_
        refine ⟨szle (show 0 ≤ 16777216 from by decide), fun p5 np5 => ?_⟩
        have fr10 : Rs (α := (List Int)) (F2) [] ([] : (List (List Int))) := Rs_nil
        have g8 := Gr.newO (o := .lst []) G12.sub np5
        have o20 := Ow.new (us := []) G12 np5
        have ne5 := o18.ne_new np5
        have ne6 := o19.ne_new np5
        have G13 := G12.step g8
        have o21 := o18.step g8
        have o22 := o19.step g8
        refine ⟨_, x2, ([] : (List (List Int))), Sub.refl _, (mk_lst o21.at_ (Rs_mono G13.sub fr9)), (mk_lst o20.at_ (Rs_mono G13.sub fr10)), ?_⟩
        refine ⟨_, rfl, ?_⟩
        refine ifD (fun hc => ?_) (fun hc => ?_)
        · replace hm := itep hm hc
          with_reducible refine x_ret ?_
          with_reducible refine x_cb ?_
          with_reducible refine x_cons ?_
          refine ⟨_, rfl, ?_⟩
          refine ⟨_, _, rfl, .inl (.inl (.inl o22.at_)), fun p6 np6 => ?_⟩
          have g9 := Gr.newO (o := .lst (cutV us2 (some t1) none)) G13.sub np6
          have o23 := Ow.new (us := (cutV us2 (some t1) none)) G13 np6
          have ne7 := o21.ne_new np6
          have ne8 := o22.ne_new np6
          have ne9 := o20.ne_new np6
          have G14 := G13.step g9
          have o24 := o21.step g9
          have o25 := o22.step g9
          have o26 := o20.step g9
          have G15 := o23.frz G14
          have ex2 := o23.ex
          have o27 := o24.frzo (Ne.symm (Ne.symm ne7)) o23
          have o28 := o25.frzo (Ne.symm (Ne.symm ne8)) o23
          have o29 := o26.frzo (Ne.symm (Ne.symm ne9)) o23
          have fa6 : (upd (F2) p6 (.lst (cutV us2 (some t1) none))) p6 = some (.lst (cutV us2 (some t1) none)) := upd_same
          have fr11 := Rs_mono ex2 (Rs_mono s3 fr3)
          obtain rfl : _ = r := Option.some.inj hm
          exact q _ _ _ G15 (mk_lst ((Sub.refl _) _ _ fa6) (Rs_mono (Sub.refl _) fr11)) (fun a9 e9 => by cases e9; exact o23.n0)
        · replace hm := iten hm (bF hc)
          with_reducible refine x_next ?_
          rw [hnx1] at hm
          exact ⟨F2, _, _, hm, (s1.trans s3), G13, rfl⟩
  · skip
    obtain ⟨F1, y1, y2, hm, s4, G16, rfl⟩ := hW
    have hm : (ends_of_e2) () = some r := forK_n hm
    rw [ends_of_e2] at hm
    with_reducible refine x_ret ?_
    with_reducible refine x_lst ?_
    refine ⟨szle (show 0 ≤ 16777216 from by decide), fun p7 np7 => ?_⟩
    have fr12 : Rs (α := Int) (F1) [] ([] : (List Int)) := Rs_nil
    have g10 := Gr.newO (o := .lst []) G16.sub np7
    have o30 := Ow.new (us := []) G16 np7
    have G17 := G16.step g10
    have G18 := o30.frz G17
    have ex3 := o30.ex
    have fa7 : (upd (F1) p7 (.lst [])) p7 = some (.lst []) := upd_same
    have fr13 := Rs_mono ex3 fr12
    obtain rfl : _ = r := Option.some.inj hm
    exact q _ _ _ G18 (mk_lst ((Sub.refl _) _ _ fa7) (Rs_mono (Sub.refl _) fr13)) (fun a9 e9 => by cases e9; exact o30.n0)

def stands_in_c1 (figures : (List Int)) (stretch : (List Int)) : (List Int) → Int → ((List Int) → Option Bool) → Option Bool
  | x2, t1, next1 => (if (eqT (cutT figures (some t1) (some (t1 + (stretch.length : Int)))) stretch) = true then (if x2.length < 16777216 then (next1 (x2 ++ [t1])) else none) else (next1 x2))
def stands_in_k2 : (List Int) → Option Bool
  | x2 => (some (!eqT x2 ([] : (List Int))))
def stands_in (stretch : (List Int)) (figures : (List Int)) : Option Bool :=
  (if Rg1 (((figures.length : Int) - (stretch.length : Int)) + (1 : Int)) then (forK (stands_in_c1 figures stretch) (irange 0 (((figures.length : Int) - (stretch.length : Int)) + (1 : Int))) [] (stands_in_k2)) else none)
abbrev N_stands_in : List Str := ["stretch", "figures", "size", "at"]
theorem sc_stands_in : FnScope N_stands_in ["stretch", "figures"] (defScope s_stands_in) := ⟨rfl, rfl, rfl, by decide +kernel, rfl, by decide +kernel, by decide +kernel⟩
def sp_stands_in : Sp := fun vs H Q _ => ∃ (F : Hp) (v_stretch : V) (v_figures : V) (stretch : (List Int)) (figures : (List Int)) (r : Bool), vs = [v_stretch, v_figures] ∧ Sub F H ∧ R F v_stretch stretch ∧ R F v_figures figures ∧ stands_in stretch figures = some r ∧ ∀ N H2 v, Gr NA F H N H2 → R N v r → Q v H2
theorem ok_stands_in {P : Program} {w : World} {K : PySem.W.Frag} {mg : Str → Option Value} {base : Heap} (T : Txt K mg) : FnOk P w K mg base CX0 1 T.f_stands_in.f T.f_stands_in.fd ["stretch", "figures"] sp_stands_in := by
  have nd := (sc_stands_in).nd
  refine T.f_stands_in.F.ok sc_stands_in (fun vs H Q E h => ?_) (fun cdv A0 outer s H vs Q E hr h => ?_)
  · obtain ⟨_, _, _, _, _, _, rfl, _⟩ := h
    rfl
  obtain ⟨F0, v_stretch, v_figures, stretch, figures, r, rfl, s0, f_stretch, f_figures, hm, q⟩ := h
  have G0 : Gr NA F0 H F0 H := Gr.refl s0
  obtain ⟨a1, us1, rfl, fa1, fr1⟩ := lst_of f_stretch
  obtain ⟨a2, us2, rfl, fa2, fr2⟩ := lst_of f_figures
  refine ⟨_, (pss_cons (ps_set (i := 2) nd rfl (by first | exact Or.inl rfl | exact Or.inr rfl) (pe_callB (r := rLenT K) call_lenT (by rfl) T.z_len PySem.boot_len (pa_cons (pv 0) pa_nil))) (pss_one (ps_ret (pe_cmpR (op_neT (α := (List Int)) (by decide) (hu64 hr)) (pe_lc (own := [("at", 3)]) (g := (gName 3)) rfl nd (pi_range1 (by rfl) T.z_range (pa_cons (pe_op op_add (pe_op op_sub (pe_callB (r := rLenT K) call_lenT (by rfl) T.z_len PySem.boot_len (pa_cons (pv 1) pa_nil)) (pv 2)) pe_int) pa_nil)) (blkOk_by (own := [("at", 3)]) (N := N_stands_in) (sc := defScope s_stands_in) (by decide +kernel)) (fun _ _ _ _ _ => pg_name (i := 3) nd rfl (Or.inl rfl)) (fun _ _ _ _ _ => pts_one (pt_cmpR (op_eqT (α := (List Int)) (by decide) (hu64 hr)) (pe_slice (r := rSlL K) sl_list (pv 1) (po_some (pv 3)) (po_some (pe_op op_add (pv 3) (pv 2)))) (pv 0) (nomark _))) (fun _ _ _ _ _ => (pv 3))) (pe_lst pa_nil) (nomark _))))), ?_⟩
  rw [stands_in] at hm
  with_reducible refine x_seq ?_
  with_reducible refine x_asg ?_
  refine useEv (.int (stretch.length : Int)) (by exact (ev_lenT (Evl.ev_var rfl) (G0.sub _ _ fa1) (Rs_mono (Sub.refl _) fr1))) (fun H1 e1 => ?_)
  have g1 := gr_ex G0.sub e1
  have G1 := G0.step g1
  with_reducible refine x_gn ?_
  with_reducible refine x_ret ?_
  with_reducible refine x_op ?_
  with_reducible refine x_lc ?_
  with_reducible refine x_rng1 ?_
  with_reducible refine x_cons ?_
  refine useEv (.int (((figures.length : Int) - (stretch.length : Int)) + (1 : Int))) (by exact (Evl.ev_op (Evl.ev_op (ev_lenT (Evl.ev_var rfl) (G1.sub _ _ fa2) (Rs_mono (Sub.refl _) fr2)) (Evl.ev_var rfl) Evl.rv_I0) Evl.ev_c Evl.rv_I0)) (fun H2 e2 => ?_)
  have g2 := gr_ex G1.sub e2
  have G2 := G1.step g2
  obtain ⟨c1, hm⟩ := guardp hm
  refine ⟨_, rfl, c1.lo, c1.hi, fun p1 np1 => ?_⟩
  have g3 := Gr.newO (o := .lst []) G2.sub np1
  have o1 := Ow.new (us := []) G2 np1
  have G3 := G2.step g3
  refine lc_rng (lo := 0) (hi := (((figures.length : Int) - (stretch.length : Int)) + (1 : Int))) (by rw [Int.sub_zero]) (fun (ts1 : List Int) H3 => ∃ (F1 : Hp) (x2 : List Int) (us4 : List V), forK (stands_in_c1 figures stretch) ts1 x2 (stands_in_k2) = some r ∧ Sub (F0) F1 ∧ Gr NA F0 H F1 H3 ∧ Ow H F1 H3 p1 us4 ∧ Rs F1 us4 x2) ⟨F0, ([] : List Int), _, hm, (Sub.refl _), G3, o1, Rs_nil⟩ (fun t1 ts2 H1 hW => ?_) (fun H1 hW => ?_)
  · skip
    obtain ⟨F1, x2, us4, hm, s1, G4, o2, fr3⟩ := hW
    obtain ⟨next1, hnx1⟩ : ∃ nx, nx = fun s => forK (stands_in_c1 figures stretch) ts2 s (stands_in_k2) := ⟨_, rfl⟩
    have hm : (stands_in_c1 figures stretch) x2 t1 next1 = some r := by rw [hnx1]; exact forK_c hm
    rw [stands_in_c1] at hm
    with_reducible refine x_gn ?_
    refine ⟨rfl, ?_⟩
    with_reducible refine x_test ?_
    with_reducible refine x_op ?_
    with_reducible refine x_sl ?_
    refine ⟨_, rfl, ?_⟩
    with_reducible refine x_part ?_
    refine ⟨_, rfl, ?_⟩
    refine ⟨_, rfl, ?_⟩
    with_reducible refine x_part ?_
    refine useEv (.int (t1 + (stretch.length : Int))) (by exact (Evl.ev_op (Evl.ev_var rfl) (Evl.ev_var rfl) Evl.rv_I0)) (fun H4 e3 => ?_)
    have g4 := gr_ex G4.sub e3
    have G5 := G4.step g4
    have o3 := o2.step g4
    refine ⟨_, rfl, ?_⟩
    refine ⟨_, _, rfl, .inl (.inl ((s1.trans G5.sub) _ _ fa2)), fun p2 np2 => ?_⟩
    have fr4 : Rs (α := Int) (F1) (cutV us2 (some t1) (some (t1 + (stretch.length : Int)))) (cutT figures (some t1) (some (t1 + (stretch.length : Int)))) := Rs_cut (Rs_mono s1 fr2)
    have g5 := Gr.newO (o := .lst (cutV us2 (some t1) (some (t1 + (stretch.length : Int))))) G5.sub np2
    have o4 := Ow.new (us := (cutV us2 (some t1) (some (t1 + (stretch.length : Int))))) G5 np2
    have ne1 := o3.ne_new np2
    have G6 := G5.step g5
    have o5 := o3.step g5
    refine ⟨_, rfl, ?_⟩
    refine ⟨_, (cutT figures (some t1) (some (t1 + (stretch.length : Int)))), stretch, Sub.refl _, (mk_lst o4.at_ (Rs_mono G6.sub fr4)), (RD.mono G6.sub (mk_lst (s1 _ _ fa1) (Rs_mono s1 fr1))), ?_⟩
    refine ⟨_, rfl, ?_⟩
    refine ifD (fun hc => ?_) (fun hc => ?_)
    · replace hm := itep hm hc
      refine ⟨_, rfl, ?_⟩
      obtain ⟨c2, hm⟩ := guardp hm
      have G7 := o5.mutG (o := .lst (us4 ++ [(.int t1)])) G6
      have o6 := o5.mut (ws := us4 ++ [(.int t1)])
      have fr5 : Rs (α := Int) (F1) (us4 ++ [(.int t1)]) (x2 ++ [t1]) := Rs_snoc fr3 (.int _)
      have o7 := o4.other (ws := us4 ++ [(.int t1)]) (Ne.symm (Ne.symm ne1))
      rw [hnx1] at hm
      exact ⟨_, o5.at_, szl (by rw [Rs_len fr3]; exact c2), ⟨F1, (x2 ++ [t1]), _, hm, s1, G7, o6, fr5⟩⟩
    · replace hm := iten hm (bF hc)
      rw [hnx1] at hm
      exact ⟨F1, x2, _, hm, s1, G6, o5, fr3⟩
  · skip
    obtain ⟨F1, x2, us4, hm, s2, G8, o8, fr6⟩ := hW
    have hm : (stands_in_k2) x2 = some r := forK_n hm
    rw [stands_in_k2] at hm
    with_reducible refine x_lst ?_
    refine ⟨szle (show 0 ≤ 16777216 from by decide), fun p3 np3 => ?_⟩
    have fr7 : Rs (α := Int) (F1) [] ([] : (List Int)) := Rs_nil
    have g6 := Gr.newO (o := .lst []) G8.sub np3
    have o9 := Ow.new (us := []) G8 np3
    have ne2 := o8.ne_new np3
    have G9 := G8.step g6
    have o10 := o8.step g6
    refine ⟨_, x2, ([] : (List Int)), Sub.refl _, (mk_lst o10.at_ (Rs_mono G9.sub fr6)), (mk_lst o9.at_ (Rs_mono G9.sub fr7)), ?_⟩
    obtain rfl : _ = r := Option.some.inj hm
    exact q _ _ _ G9 (.bl _)

def lacks_all_c1 (figures : (List Int)) : (List (List Int)) → (List Int) → ((List (List Int)) → Option Bool) → Option Bool
  | x2, t1, next1 => ((stands_in t1 figures).bind fun r1 => (if r1 = true then (if x2.length < 16777216 then (next1 (x2 ++ [t1])) else none) else (next1 x2)))
def lacks_all_k2 : (List (List Int)) → Option Bool
  | x2 => (some (eqT x2 ([] : (List (List Int)))))
def lacks_all (rule : (Int × (List (List Int)))) (figures : (List Int)) : Option Bool :=
  (forK (lacks_all_c1 figures) ((rule).2) [] (lacks_all_k2))
abbrev N_lacks_all : List Str := ["rule", "figures", "stretch"]
theorem sc_lacks_all : FnScope N_lacks_all ["rule", "figures"] (defScope s_lacks_all) := ⟨rfl, rfl, rfl, by decide +kernel, rfl, by decide +kernel, by decide +kernel⟩
def sp_lacks_all : Sp := fun vs H Q _ => ∃ (F : Hp) (v_rule : V) (v_figures : V) (rule : (Int × (List (List Int)))) (figures : (List Int)) (r : Bool), vs = [v_rule, v_figures] ∧ Sub F H ∧ R F v_rule rule ∧ R F v_figures figures ∧ lacks_all rule figures = some r ∧ ∀ N H2 v, Gr NA F H N H2 → R N v r → Q v H2
theorem ok_lacks_all {P : Program} {w : World} {K : PySem.W.Frag} {mg : Str → Option Value} {base : Heap} (T : Txt K mg) : FnOk P w K mg base CX0 2 T.f_lacks_all.f T.f_lacks_all.fd ["rule", "figures"] sp_lacks_all := by
  have nd := (sc_lacks_all).nd
  refine T.f_lacks_all.F.ok sc_lacks_all (fun vs H Q E h => ?_) (fun cdv A0 outer s H vs Q E hr h => ?_)
  · obtain ⟨_, _, _, _, _, _, rfl, _⟩ := h
    rfl
  obtain ⟨F0, v_rule, v_figures, rule, figures, r, rfl, s0, f_rule, f_figures, hm, q⟩ := h
  have G0 : Gr NA F0 H F0 H := Gr.refl s0
  obtain ⟨a1, v1, v2, rfl, fa1, d1, d2⟩ := tup2_of f_rule
  obtain rfl := int_of d1
  obtain ⟨a2, us1, rfl, fa2, fr1⟩ := lst_of d2
  obtain ⟨a3, us2, rfl, fa3, fr2⟩ := lst_of f_figures
  refine ⟨_, (pss_one (ps_ret (pe_cmpR (op_eqT (α := (List (List Int))) (by decide) (hu64 hr)) (pe_lc (own := [("stretch", 2)]) (g := (gName 2)) rfl nd (pi_list (pe_ix (r := rIxT K) ix_tup (pv 0) pe_int (fun _ _ => rfl))) (blkOk_by (own := [("stretch", 2)]) (N := N_lacks_all) (sc := defScope s_lacks_all) (by decide +kernel)) (fun _ _ _ _ _ => pg_name (i := 2) nd rfl (Or.inl rfl)) (fun _ _ _ _ _ => pts_one (pt_val (pe_call (ok_stands_in T) (hr.mono (by decide)) (by rfl) T.f_stands_in.g T.f_stands_in.F.kp T.f_stands_in.b .nil pass0 (pa_cons (pv 2) (pa_cons (pv 1) pa_nil))))) (fun _ _ _ _ _ => (pv 2))) (pe_lst pa_nil) (nomark _)))), ?_⟩
  rw [lacks_all] at hm
  with_reducible refine x_ret ?_
  with_reducible refine x_op ?_
  with_reducible refine x_lc ?_
  with_reducible refine x_iter ?_
  with_reducible refine x_op ?_
  refine ⟨_, rfl, ?_⟩
  refine ⟨_, _, _, _, rfl, rfl, .inl (.inl (G0.sub _ _ fa1)), atI_nat (j := 1) rfl, ?_⟩
  refine ⟨_, rfl, ⟨_, .inl (.inl (G0.sub _ _ fa2))⟩, fun p1 np1 => ?_⟩
  have g1 := Gr.newO (o := .lst []) G0.sub np1
  have o1 := Ow.new (us := []) G0 np1
  have G1 := G0.step g1
  refine lc_lst (α := (List Int)) (fun (ts1 : List (List Int)) H1 => ∃ (F1 : Hp) (x2 : List (List Int)) (us4 : List V), forK (lacks_all_c1 figures) ts1 x2 (lacks_all_k2) = some r ∧ Sub (F0) F1 ∧ Gr NA F0 H F1 H1 ∧ Ow H F1 H1 p1 us4 ∧ Rs F1 us4 x2) (Rs_mono (Sub.refl _) fr1) ⟨F0, ([] : List (List Int)), _, hm, (Sub.refl _), G1, o1, Rs_nil⟩ (fun _ _ h => ?_) (fun t1 ts2 v3 H1 hv1 hW => ?_) (fun H1 hW => ?_)
  · obtain ⟨F9, _, _, _, s9, G9, _⟩ := h
    exact G9.sub _ _ (s9 _ _ ((Sub.refl _) _ _ fa2))
  · skip
    obtain ⟨F1, x2, us4, hm, s1, G2, o2, fr3⟩ := hW
    obtain ⟨next1, hnx1⟩ : ∃ nx, nx = fun s => forK (lacks_all_c1 figures) ts2 s (lacks_all_k2) := ⟨_, rfl⟩
    have hm : (lacks_all_c1 figures) x2 t1 next1 = some r := by rw [hnx1]; exact forK_c hm
    rw [lacks_all_c1] at hm
    obtain ⟨a4, us5, rfl, fa4, fr4⟩ := lst_of hv1
    with_reducible refine x_gn ?_
    refine ⟨rfl, ?_⟩
    with_reducible refine x_B ?_
    with_reducible refine x_call ?_
    with_reducible refine x_cons ?_
    refine ⟨_, rfl, ?_⟩
    with_reducible refine x_cons ?_
    refine ⟨_, rfl, ?_⟩
    obtain ⟨r1, hr1, hm⟩ := bindp hm
    refine ⟨_, _, _, t1, figures, r1, rfl, G2.sub, (mk_lst (s1 _ _ fa4) (Rs_mono s1 fr4)), (mk_lst (s1 _ _ fa3) (Rs_mono s1 fr2)), hr1, fun N1 H2 v4 g2 d3  => ?_⟩
    have G3 := G2.step g2
    have o3 := o2.step g2
    obtain rfl := bl_of d3
    refine ⟨_, rfl, ?_⟩
    refine ifD (fun hc => ?_) (fun hc => ?_)
    · replace hm := itep hm hc
      refine ⟨_, rfl, ?_⟩
      obtain ⟨c1, hm⟩ := guardp hm
      have G4 := o3.mutG (o := .lst (us4 ++ [(.ref a4)])) G3
      have o4 := o3.mut (ws := us4 ++ [(.ref a4)])
      have fr5 : Rs (α := (List Int)) (N1) (us4 ++ [(.ref a4)]) (x2 ++ [t1]) := Rs_snoc (Rs_mono g2.ex fr3) (mk_lst ((s1.trans g2.ex) _ _ fa4) (Rs_mono (s1.trans g2.ex) fr4))
      rw [hnx1] at hm
      exact ⟨_, o3.at_, szl (by rw [Rs_len (Rs_mono g2.ex fr3)]; exact c1), ⟨N1, (x2 ++ [t1]), _, hm, (s1.trans g2.ex), G4, o4, fr5⟩⟩
    · replace hm := iten hm (bF hc)
      rw [hnx1] at hm
      exact ⟨N1, x2, _, hm, (s1.trans g2.ex), G3, o3, (Rs_mono g2.ex fr3)⟩
  · skip
    obtain ⟨F1, x2, us4, hm, s2, G5, o5, fr6⟩ := hW
    have hm : (lacks_all_k2) x2 = some r := forK_n hm
    rw [lacks_all_k2] at hm
    with_reducible refine x_lst ?_
    refine ⟨szle (show 0 ≤ 16777216 from by decide), fun p2 np2 => ?_⟩
    have fr7 : Rs (α := (List Int)) (F1) [] ([] : (List (List Int))) := Rs_nil
    have g3 := Gr.newO (o := .lst []) G5.sub np2
    have o6 := Ow.new (us := []) G5 np2
    have ne1 := o5.ne_new np2
    have G6 := G5.step g3
    have o7 := o5.step g3
    refine ⟨_, x2, ([] : (List (List Int))), Sub.refl _, (mk_lst o7.at_ (Rs_mono G6.sub fr6)), (mk_lst o6.at_ (Rs_mono G6.sub fr7)), ?_⟩
    obtain rfl : _ = r := Option.some.inj hm
    exact q _ _ _ G6 (.bl _)


def stand_of (rule : (Int × (List (List Int)))) (figures : (List Int)) : Option (Option (List Int)) :=
  ((lacks_all rule figures).bind fun r1 => (if (!r1) = true then (some (none : (Option (List Int)))) else ((ends_of rule figures).bind fun r2 => (some (some r2)))))
abbrev N_stand_of : List Str := ["rule", "figures"]
theorem sc_stand_of : FnScope N_stand_of ["rule", "figures"] (defScope s_stand_of) := ⟨rfl, rfl, rfl, by decide +kernel, rfl, by decide +kernel, by decide +kernel⟩
def sp_stand_of : Sp := fun vs H Q _ => ∃ (F : Hp) (v_rule : V) (v_figures : V) (rule : (Int × (List (List Int)))) (figures : (List Int)) (r : (Option (List Int))), vs = [v_rule, v_figures] ∧ Sub F H ∧ R F v_rule rule ∧ R F v_figures figures ∧ stand_of rule figures = some r ∧ ∀ N H2 v, Gr NA F H N H2 → R N v r → Fz H v → Q v H2
theorem ok_stand_of {P : Program} {w : World} {K : PySem.W.Frag} {mg : Str → Option Value} {base : Heap} (T : Txt K mg) : FnOk P w K mg base CX0 3 T.f_stand_of.f T.f_stand_of.fd ["rule", "figures"] sp_stand_of := by
  have nd := (sc_stand_of).nd
  refine T.f_stand_of.F.ok sc_stand_of (fun vs H Q E h => ?_) (fun cdv A0 outer s H vs Q E hr h => ?_)
  · obtain ⟨_, _, _, _, _, _, rfl, _⟩ := h
    rfl
  obtain ⟨F0, v_rule, v_figures, rule, figures, r, rfl, s0, f_rule, f_figures, hm, q⟩ := h
  have G0 : Gr NA F0 H F0 H := Gr.refl s0
  obtain ⟨a1, v1, v2, rfl, fa1, d1, d2⟩ := tup2_of f_rule
  obtain rfl := int_of d1
  obtain ⟨a2, us1, rfl, fa2, fr1⟩ := lst_of d2
  obtain ⟨a3, us2, rfl, fa3, fr2⟩ := lst_of f_figures
  refine ⟨_, (pss_cons (ps_if (pt_not (pt_val (pe_call (ok_lacks_all T) (hr.mono (by decide)) (by rfl) T.f_lacks_all.g T.f_lacks_all.F.kp T.f_lacks_all.b .nil pass0 (pa_cons (pv 0) (pa_cons (pv 1) pa_nil))))) (pss_one (ps_ret pe_non)) pss_nil) (pss_one (ps_ret (pe_call (ok_ends_of T) (hr.mono (by decide)) (by rfl) T.f_ends_of.g T.f_ends_of.F.kp T.f_ends_of.b .nil pass0 (pa_cons (pv 0) (pa_cons (pv 1) pa_nil)))))), ?_⟩
  rw [stand_of] at hm
  with_reducible refine x_seq ?_
  with_reducible refine x_if ?_
  with_reducible refine x_not ?_
  with_reducible refine x_B ?_
  with_reducible refine x_call ?_
  with_reducible refine x_cons ?_
  refine ⟨_, rfl, ?_⟩
  with_reducible refine x_cons ?_
  refine ⟨_, rfl, ?_⟩
  obtain ⟨r1, hr1, hm⟩ := bindp hm
  refine ⟨_, _, _, rule, figures, r1, rfl, G0.sub, (mk_tup2 ((Sub.refl _) _ _ fa1) (.int _) (mk_lst ((Sub.refl _) _ _ fa2) (Rs_mono (Sub.refl _) fr1))), (mk_lst ((Sub.refl _) _ _ fa3) (Rs_mono (Sub.refl _) fr2)), hr1, fun N1 H1 v3 g1 d3  => ?_⟩
  have G1 := G0.step g1
  obtain rfl := bl_of d3
  refine ⟨_, rfl, ?_⟩
  refine ifD (fun hc => ?_) (fun hc => ?_)
  · replace hm := itep hm hc
    with_reducible refine x_ret ?_
    with_reducible refine x_c ?_
    obtain rfl : _ = r := Option.some.inj hm
    exact q _ _ _ G1 (RD.mono (Sub.refl _) (RD.non)) (fun a9 e9 => nomatch e9)
  · replace hm := iten hm (bF hc)
    with_reducible refine x_next ?_
    with_reducible refine x_ret ?_
    with_reducible refine x_call ?_
    with_reducible refine x_cons ?_
    refine ⟨_, rfl, ?_⟩
    with_reducible refine x_cons ?_
    refine ⟨_, rfl, ?_⟩
    obtain ⟨r2, hr2, hm⟩ := bindp hm
    refine ⟨_, _, _, rule, figures, r2, rfl, G1.sub, (mk_tup2 (g1.ex _ _ fa1) (.int _) (mk_lst (g1.ex _ _ fa2) (Rs_mono g1.ex fr1))), (mk_lst (g1.ex _ _ fa3) (Rs_mono g1.ex fr2)), hr2, fun N2 H2 v4 g2 d4 fz1 => ?_⟩
    obtain ⟨a4, us3, rfl, fa4, fr3⟩ := lst_of d4
    have o1 := own_of (α := Int) (xs := []) G1 g2 (fz1 _ rfl) fa4
    have fr4 := Rs_flatI (F := N1) fr3
    have g3 := g2.flat G1.sub
    have G2 := G1.step g3
    have G3 := o1.frz G2
    have ex1 := o1.ex
    have fa5 : (upd (N1) a4 (.lst us3)) a4 = some (.lst us3) := upd_same
    have fr5 := Rs_mono ex1 fr4
    have d5 : R (upd (N1) a4 (.lst us3)) (.ref a4) (some r2) := (mk_lst ((Sub.refl _) _ _ fa5) (Rs_mono (Sub.refl _) fr5))
    obtain rfl : _ = r := Option.some.inj hm
    exact q _ _ _ G3 (RD.mono (Sub.refl _) d5) (fun a9 e9 => by cases e9; exact o1.n0)

def stands_of_b3 (rule : (Int × (List (List Int)))) (t1 : (List Int)) : (List (Int × (List Int))) → Int → ((List (Int × (List Int))) → Option (List (List Int))) → Option (List (List Int))
  | x2, t2, next2 => ((lacks_all rule (cutT t1 none (some t2))).bind fun r1 => (if r1 = true then (if (!memT (t2, (cutT t1 none (some t2))) x2) = true then (if x2.length < 16777216 then (next2 (x2 ++ [(t2, (cutT t1 none (some t2)))])) else none) else (next2 x2)) else (next2 x2)))
def stands_of_e4 (next1 : ((List (Int × (List Int))) → Option (List (List Int)))) : (List (Int × (List Int))) → Option (List (List Int))
  | x2 => (next1 x2)
def stands_of_b1 (rule : (Int × (List (List Int)))) : (List (Int × (List Int))) → (List Int) → ((List (Int × (List Int))) → Option (List (List Int))) → Option (List (List Int))
  | x1, t1, next1 => (if Rg2 (1 : Int) (t1.length : Int) then (forK (stands_of_b3 rule t1) (irange (1 : Int) (t1.length : Int)) x1 (stands_of_e4 next1)) else none)
def stands_of_c5 : (List (List Int)) → (Int × (List Int)) → ((List (List Int)) → Option (List (List Int))) → Option (List (List Int))
  | x4, t3, next3 => (if x4.length < 16777216 then (next3 (x4 ++ [(t3).2])) else none)
def stands_of_k6 : (List (List Int)) → Option (List (List Int))
  | x4 => (some x4)
def stands_of_e2 : (List (Int × (List Int))) → Option (List (List Int))
  | x1 => (if x1.length ≤ 16777216 then (forK (stands_of_c5) ((sortT x1)) [] (stands_of_k6)) else none)
def stands_of (rule : (Int × (List (List Int)))) : Option (List (List Int)) :=
  (forK (stands_of_b1 rule) ((rule).2) ([((0 : Int), ([] : (List Int)))] : (List (Int × (List Int)))) (stands_of_e2))
abbrev N_stands_of : List Str := ["rule", "found", "stretch", "size", "begin"]
theorem sc_stands_of : FnScope N_stands_of ["rule"] (defScope s_stands_of) := ⟨rfl, rfl, rfl, by decide +kernel, rfl, by decide +kernel, by decide +kernel⟩
def sp_stands_of : Sp := fun vs H Q _ => ∃ (F : Hp) (v_rule : V) (rule : (Int × (List (List Int)))) (r : (List (List Int))), vs = [v_rule] ∧ Sub F H ∧ R F v_rule rule ∧ stands_of rule = some r ∧ ∀ N H2 v, Gr NA F H N H2 → NR H N v r → Q v H2
theorem ok_stands_of {P : Program} {w : World} {K : PySem.W.Frag} {mg : Str → Option Value} {base : Heap} (T : Txt K mg) : FnOk P w K mg base CX0 3 T.f_stands_of.f T.f_stands_of.fd ["rule"] sp_stands_of := by
  have nd := (sc_stands_of).nd
  refine T.f_stands_of.F.ok sc_stands_of (fun vs H Q E h => ?_) (fun cdv A0 outer s H vs Q E hr h => ?_)
  · obtain ⟨_, _, _, _, rfl, _⟩ := h
    rfl
  obtain ⟨F0, v_rule, rule, r, rfl, s0, f_rule, hm, q⟩ := h
  have G0 : Gr NA F0 H F0 H := Gr.refl s0
  obtain ⟨a1, v1, v2, rfl, fa1, d1, d2⟩ := tup2_of f_rule
  obtain rfl := int_of d1
  obtain ⟨a2, us1, rfl, fa2, fr1⟩ := lst_of d2
  refine ⟨_, (pss_cons (ps_set (i := 1) nd rfl (by first | exact Or.inl rfl | exact Or.inr rfl) (pe_lst (pa_cons (pe_tup (pa_cons pe_int (pa_cons (pe_lst pa_nil) pa_nil))) pa_nil))) (pss_cons (ps_for PassesOwn.never rfl (pi_list (pe_ix (r := rIxT K) ix_tup (pv 0) pe_int (fun _ _ => rfl))) (pg_name (i := 2) nd rfl (by first | exact Or.inl rfl | exact Or.inr rfl)) (pss_one (ps_for PassesOwn.never rfl (pi_range2 (by rfl) T.z_range (pa_cons pe_int (pa_cons (pe_callB (r := rLenT K) call_lenT (by rfl) T.z_len PySem.boot_len (pa_cons (pv 2) pa_nil)) pa_nil))) (pg_name (i := 3) nd rfl (by first | exact Or.inl rfl | exact Or.inr rfl)) (pss_cons (ps_set (i := 4) nd rfl (by first | exact Or.inl rfl | exact Or.inr rfl) (pe_slice (r := rSlL K) sl_list (pv 2) po_none (po_some (pv 3)))) (pss_one (ps_if (PW.pt (pw_and (pt_val (pe_call (ok_lacks_all T) (hr.mono (by decide)) (by rfl) T.f_lacks_all.g T.f_lacks_all.F.kp T.f_lacks_all.b .nil pass0 (pa_cons (pv 0) (pa_cons (pv 4) pa_nil)))) (pw_and1 (pt_cmpR (op_niT (α := (Int × (List Int))) (by decide) (hu65 hr)) (pe_tup (pa_cons (pv 3) (pa_cons (pv 4) pa_nil))) (pv 1) (by rfl))))) (pss_one (ps_expr (pe_bm PySem.F.plainAttrs_list PySem.F.slot_list_append PySem.F.type_list_append mt_append (pv 1) (pa_cons (pe_tup (pa_cons (pv 3) (pa_cons (pv 4) pa_nil))) pa_nil)))) pss_nil)))))) (pss_one (ps_ret (pe_lc (own := [("size", 3), ("begin", 4)]) (g := ((gTup K 2 (gCons (gName 3) (gCons (gName 4) gNil))))) rfl nd (pi_list (pe_callB (r := rSortedM (Int × (List Int))) (call_sortedM (by decide) (hu200' hr)) (by rfl) T.z_sorted (by decide +kernel) (pa_cons (pv 1) pa_nil))) (blkOk_by (own := [("size", 3), ("begin", 4)]) (N := N_stands_of) (sc := defScope s_stands_of) (by decide +kernel)) (fun _ _ _ _ _ => pg_tup rfl (pgs_cons (pg_name (i := 3) nd rfl (Or.inl rfl) (Or.inr rfl)) (pgs_cons (pg_name (i := 4) nd rfl (Or.inl rfl) (Or.inr rfl)) pgs_nil))) (fun _ _ _ _ _ => pts_nil) (fun _ _ _ _ _ => (pv 4))))))), ?_⟩
  rw [stands_of] at hm
  with_reducible refine x_seq ?_
  with_reducible refine x_asg ?_
  with_reducible refine x_lst ?_
  with_reducible refine x_cons ?_
  with_reducible refine x_tup ?_
  with_reducible refine x_cons ?_
  with_reducible refine x_c ?_
  with_reducible refine x_cons ?_
  with_reducible refine x_lst ?_
  refine ⟨szle (show 0 ≤ 16777216 from by decide), fun p1 np1 => ?_⟩
  have fr2 : Rs (α := Int) (F0) [] ([] : (List Int)) := Rs_nil
  have g1 := Gr.newO (o := .lst []) G0.sub np1
  have o1 := Ow.new (us := []) G0 np1
  have G1 := G0.step g1
  have G2 := o1.frz G1
  have ex1 := o1.ex
  have fa3 : (upd (F0) p1 (.lst [])) p1 = some (.lst []) := upd_same
  have fr3 := Rs_mono ex1 fr2
  have n01 := o1.n0
  have fr4 := NRs_mono (H0 := H) ex1 (NRs_flatI fr2)
  refine ⟨szle (show 2 ≤ 16777216 from by decide), fun p2 np2 => ?_⟩
  have g2 := Gr.new (o := .tup [(.int 0), (.ref p1)]) G2.sub np2
  have G3 := G2.step g2
  have fa4 : (upd (upd (F0) p1 (.lst [])) p2 (.tup [(.int 0), (.ref p1)])) p2 = some (.tup [(.int 0), (.ref p1)]) := upd_same
  refine ⟨szle (show 1 ≤ 16777216 from by decide), fun p3 np3 => ?_⟩
  have fr5 : Rs (α := (Int × (List Int))) (upd (upd (F0) p1 (.lst [])) p2 (.tup [(.int 0), (.ref p1)])) [(.ref p2)] ([((0 : Int), ([] : (List Int)))] : (List (Int × (List Int)))) := (Rs_cons (mk_tup2 ((Sub.refl _) _ _ fa4) (.int _) (mk_lst (g2.ex _ _ fa3) (Rs_mono g2.ex fr3))) Rs_nil)
  have fr6 : NRs (α := (Int × (List Int))) H (upd (upd (F0) p1 (.lst [])) p2 (.tup [(.int 0), (.ref p1)])) [(.ref p2)] ([((0 : Int), ([] : (List Int)))] : (List (Int × (List Int)))) := (NRs_cons (mkN_tup2 ((Sub.refl _) _ _ fa4) (.int _) (mkN_lst n01 (g2.ex _ _ fa3) (NRs_mono g2.ex fr4))) NRs_nil)
  have g3 := Gr.newO (o := .lst [(.ref p2)]) G3.sub np3
  have o2 := Ow.new (us := [(.ref p2)]) G3 np3
  have G4 := G3.step g3
  with_reducible refine x_gn ?_
  with_reducible refine x_seq ?_
  with_reducible refine x_for ?_
  with_reducible refine x_iter ?_
  with_reducible refine x_op ?_
  refine ⟨_, rfl, ?_⟩
  refine ⟨_, _, _, _, rfl, rfl, .inl (.inl (((ex1.trans g2.ex).trans G4.sub) _ _ fa1)), atI_nat (j := 1) rfl, ?_⟩
  refine ⟨_, rfl, ⟨_, .inl (.inl (((ex1.trans g2.ex).trans G4.sub) _ _ fa2))⟩, ?_⟩
  refine for_lst (α := (List Int)) (fun (ts1 : List (List Int)) σ H1 => ∃ (F1 : Hp) (x1 : (List (Int × (List Int)))) (p4 : Addr) (us2 : List V) (y1 : Option V) (y2 : Option V) (y3 : Option V), forK (stands_of_b1 rule) ts1 x1 (stands_of_e2) = some r ∧ Sub (upd (upd (F0) p1 (.lst [])) p2 (.tup [(.int 0), (.ref p1)])) F1 ∧ Gr NA F0 H F1 H1 ∧ Ow H F1 H1 p4 us2 ∧ Rs F1 us2 x1 ∧ NRs H F1 us2 x1 ∧ σ = [some (.ref a1), some (.ref p4), y3, y2, y1]) (Rs_mono (ex1.trans g2.ex) fr1) ⟨_, ([((0 : Int), ([] : (List Int)))] : (List (Int × (List Int)))), _, _, _, _, _, hm, (Sub.refl _), G4, o2, fr5, fr6, rfl⟩ (fun _ _ _ h => ?_) (fun t1 ts2 v3 σ H1 hv1 hW => ?_) (fun σ H1 hW => ?_)
  · obtain ⟨F1, x1, p4, us2, y1, y2, y3, _, s9, G9, _⟩ := h
    exact G9.sub _ _ (s9 _ _ ((ex1.trans g2.ex) _ _ fa2))
  · skip
    obtain ⟨F1, x1, p4, us2, y1, y2, y3, hm, s1, G5, o3, fr7, fr8, rfl⟩ := hW
    obtain ⟨next1, hnx1⟩ : ∃ nx, nx = fun s => forK (stands_of_b1 rule) ts2 s (stands_of_e2) := ⟨_, rfl⟩
    have hm : (stands_of_b1 rule) x1 t1 next1 = some r := by rw [hnx1]; exact forK_c hm
    rw [stands_of_b1] at hm
    obtain ⟨a3, us3, rfl, fa5, fr9⟩ := lst_of hv1
    with_reducible refine x_gn ?_
    with_reducible refine x_for ?_
    with_reducible refine x_rng2 ?_
    with_reducible refine x_cons ?_
    with_reducible refine x_c ?_
    with_reducible refine x_cons ?_
    refine useEv (.int (t1.length : Int)) (by exact (ev_lenT (Evl.ev_var rfl) ((s1.trans G5.sub) _ _ fa5) (Rs_mono s1 fr9))) (fun H2 e1 => ?_)
    have g4 := gr_ex G5.sub e1
    have G6 := G5.step g4
    have o4 := o3.step g4
    obtain ⟨c1, hm⟩ := guardp hm
    refine ⟨_, _, rfl, c1.ok, ?_⟩
    refine for_rng (lo := (1 : Int)) (hi := (t1.length : Int)) rfl (fun (ts3 : List Int) σ H3 => ∃ (F2 : Hp) (x2 : (List (Int × (List Int)))) (p5 : Addr) (us4 : List V) (y4 : Option V) (y5 : Option V), forK (stands_of_b3 rule t1) ts3 x2 (stands_of_e4 next1) = some r ∧ Sub (F1) F2 ∧ Gr NA F0 H F2 H3 ∧ Ow H F2 H3 p5 us4 ∧ Rs F2 us4 x2 ∧ NRs H F2 us4 x2 ∧ σ = [some (.ref a1), some (.ref p5), some (.ref a3), y5, y4]) ⟨F1, x1, _, _, _, _, hm, (Sub.refl _), G6, o4, fr7, fr8, rfl⟩ (fun t2 ts4 σ H1 hW => ?_) (fun σ H1 hW => ?_)
    · skip
      obtain ⟨F2, x2, p5, us4, y4, y5, hm, s2, G7, o5, fr10, fr11, rfl⟩ := hW
      obtain ⟨next2, hnx2⟩ : ∃ nx, nx = fun s => forK (stands_of_b3 rule t1) ts4 s (stands_of_e4 next1) := ⟨_, rfl⟩
      have hm : (stands_of_b3 rule t1) x2 t2 next2 = some r := by rw [hnx2]; exact forK_c hm
      rw [stands_of_b3] at hm
      with_reducible refine x_gn ?_
      with_reducible refine x_seq ?_
      with_reducible refine x_asg ?_
      with_reducible refine x_sl ?_
      refine ⟨_, rfl, ?_⟩
      with_reducible refine x_nopart ?_
      with_reducible refine x_part ?_
      refine ⟨_, rfl, ?_⟩
      refine ⟨_, rfl, ?_⟩
      refine ⟨_, _, rfl, .inl (.inl (((s1.trans s2).trans G7.sub) _ _ fa5)), fun p6 np4 => ?_⟩
      have fr12 : Rs (α := Int) (F2) (cutV us3 none (some t2)) (cutT t1 none (some t2)) := Rs_cut (Rs_mono (s1.trans s2) fr9)
      have g5 := Gr.newO (o := .lst (cutV us3 none (some t2))) G7.sub np4
      have o6 := Ow.new (us := (cutV us3 none (some t2))) G7 np4
      have ne1 := o5.ne_new np4
      have G8 := G7.step g5
      have o7 := o5.step g5
      with_reducible refine x_gn ?_
      with_reducible refine x_if ?_
      with_reducible refine x_and ?_
      with_reducible refine x_B ?_
      with_reducible refine x_call ?_
      with_reducible refine x_cons ?_
      refine ⟨_, rfl, ?_⟩
      with_reducible refine x_cons ?_
      refine ⟨_, rfl, ?_⟩
      obtain ⟨r1, hr1, hm⟩ := bindp hm
      refine ⟨upd (F2) p6 (.lst (cutV us3 none (some t2))), _, _, rule, (cutT t1 none (some t2)), r1, rfl, o6.sub G8.sub, (RD.mono o6.ex (mk_tup2 ((((ex1.trans g2.ex).trans s1).trans s2) _ _ fa1) (.int _) (mk_lst ((((ex1.trans g2.ex).trans s1).trans s2) _ _ fa2) (Rs_mono (((ex1.trans g2.ex).trans s1).trans s2) fr1)))), (mk_lst upd_same (Rs_mono o6.ex fr12)), hr1, fun N1 H4 v5 g6 d3 => ?_⟩
      obtain rfl := bl_of d3
      have g7 := g6.flat G8.sub
      have G9 := G8.step g7
      have o8 := o7.step g7
      have o9 := o6.step g7
      refine ⟨_, rfl, ?_⟩
      refine ifD (fun hc => ?_) (fun hc => ?_)
      · replace hm := itep hm hc
        with_reducible refine x_test ?_
        with_reducible refine x_op ?_
        with_reducible refine x_tup ?_
        with_reducible refine x_cons ?_
        refine ⟨_, rfl, ?_⟩
        with_reducible refine x_cons ?_
        refine ⟨_, rfl, ?_⟩
        have G10 := o9.frz G9
        have ex2 := o9.ex
        have o10 := o8.frzo (Ne.symm (Ne.symm ne1)) o9
        have fa6 : (upd (F2) p6 (.lst (cutV us3 none (some t2)))) p6 = some (.lst (cutV us3 none (some t2))) := upd_same
        have fr13 := Rs_mono ex2 fr12
        have n02 := o9.n0
        have fr14 := NRs_mono (H0 := H) ex2 (NRs_flatI fr12)
        refine ⟨szle (show 2 ≤ 16777216 from by decide), fun p7 np5 => ?_⟩
        have g8 := Gr.new (o := .tup [(.int t2), (.ref p6)]) G10.sub np5
        have G11 := G10.step g8
        have o11 := o10.step g8
        have fa7 : (upd (upd (F2) p6 (.lst (cutV us3 none (some t2)))) p7 (.tup [(.int t2), (.ref p6)])) p7 = some (.tup [(.int t2), (.ref p6)]) := upd_same
        refine ⟨_, rfl, ?_⟩
        refine ⟨_, (t2, (cutT t1 none (some t2))), x2, Sub.refl _, (RD.mono G11.sub (mk_tup2 ((Sub.refl _) _ _ fa7) (.int _) (mk_lst (g8.ex _ _ fa6) (Rs_mono g8.ex fr13)))), (mk_lst o11.at_ (Rs_mono G11.sub (Rs_mono g8.ex (Rs_mono ex2 fr10)))), ?_⟩
        refine ⟨_, rfl, ?_⟩
        refine ifD (fun hc => ?_) (fun hc => ?_)
        · replace hm := itep hm hc
          with_reducible refine x_drop ?_
          with_reducible refine x_bm ?_
          refine ⟨_, rfl, ?_⟩
          refine ⟨.inl ⟨rfl, _, .inl (.inl o11.at_)⟩, ?_⟩
          with_reducible refine x_cons ?_
          with_reducible refine x_tup ?_
          with_reducible refine x_cons ?_
          refine ⟨_, rfl, ?_⟩
          with_reducible refine x_cons ?_
          refine ⟨_, rfl, ?_⟩
          refine ⟨szle (show 2 ≤ 16777216 from by decide), fun p8 np6 => ?_⟩
          have g9 := Gr.new (o := .tup [(.int t2), (.ref p6)]) G11.sub np6
          have G12 := G11.step g9
          have o12 := o11.step g9
          have fa8 : (upd (upd (upd (F2) p6 (.lst (cutV us3 none (some t2)))) p7 (.tup [(.int t2), (.ref p6)])) p8 (.tup [(.int t2), (.ref p6)])) p8 = some (.tup [(.int t2), (.ref p6)]) := upd_same
          obtain ⟨c2, hm⟩ := guardp hm
          refine ⟨_, _, _, rfl, rfl, o12.at_, szl (by rw [Rs_len (Rs_mono g9.ex (Rs_mono g8.ex (Rs_mono ex2 fr10)))]; exact c2), ?_⟩
          have fr15 := NRs_snoc (α := (Int × (List Int))) (x := (t2, (cutT t1 none (some t2)))) (NRs_mono g9.ex (NRs_mono g8.ex (NRs_mono ex2 fr11))) (mkN_tup2 ((Sub.refl _) _ _ fa8) (.int _) (mkN_lst n02 ((g8.ex.trans g9.ex) _ _ fa6) (NRs_mono (g8.ex.trans g9.ex) fr14)))
          have G13 := o12.mutG (o := .lst (us4 ++ [(.ref p8)])) G12
          have o13 := o12.mut (ws := us4 ++ [(.ref p8)])
          have fr16 : Rs (α := (Int × (List Int))) (upd (upd (upd (F2) p6 (.lst (cutV us3 none (some t2)))) p7 (.tup [(.int t2), (.ref p6)])) p8 (.tup [(.int t2), (.ref p6)])) (us4 ++ [(.ref p8)]) (x2 ++ [(t2, (cutT t1 none (some t2)))]) := Rs_snoc (Rs_mono g9.ex (Rs_mono g8.ex (Rs_mono ex2 fr10))) (mk_tup2 ((Sub.refl _) _ _ fa8) (.int _) (mk_lst ((g8.ex.trans g9.ex) _ _ fa6) (Rs_mono (g8.ex.trans g9.ex) fr13)))
          rw [hnx2] at hm
          exact ⟨_, (x2 ++ [(t2, (cutT t1 none (some t2)))]), _, _, _, _, hm, (((s2.trans ex2).trans g8.ex).trans g9.ex), G13, o13, fr16, fr15, rfl⟩
        · replace hm := iten hm (bF hc)
          with_reducible refine x_next ?_
          rw [hnx2] at hm
          exact ⟨_, x2, _, _, _, _, hm, ((s2.trans ex2).trans g8.ex), G11, o11, (Rs_mono g8.ex (Rs_mono ex2 fr10)), (NRs_mono g8.ex (NRs_mono ex2 fr11)), rfl⟩
      · replace hm := iten hm (bF hc)
        refine iteF ?_
        with_reducible refine x_next ?_
        rw [hnx2] at hm
        exact ⟨F2, x2, _, _, _, _, hm, s2, G9, o8, fr10, fr11, rfl⟩
    · skip
      obtain ⟨F2, x2, p5, us4, y4, y5, hm, s3, G14, o14, fr17, fr18, rfl⟩ := hW
      have hm : (stands_of_e4 next1) x2 = some r := forK_n hm
      rw [stands_of_e4] at hm
      rw [hnx1] at hm
      exact ⟨F2, x2, _, _, _, _, _, hm, (s1.trans s3), G14, o14, fr17, fr18, rfl⟩
  · skip
    obtain ⟨F1, x1, p4, us2, y1, y2, y3, hm, s4, G15, o15, fr19, fr20, rfl⟩ := hW
    have hm : (stands_of_e2) x1 = some r := forK_n hm
    rw [stands_of_e2] at hm
    with_reducible refine x_ret ?_
    with_reducible refine x_lc ?_
    with_reducible refine x_iter ?_
    with_reducible refine x_cb ?_
    with_reducible refine x_cons ?_
    refine ⟨_, rfl, ?_⟩
    obtain ⟨c3, hm⟩ := guardp hm
    refine ⟨_, _, _, x1, rfl, o15.at_, G15.sub, fr19, c3, fun p9 us5 np7 fr21 hm1 => ?_⟩
    have g10 := Gr.newO (o := .lst us5) G15.sub np7
    have o16 := Ow.new (us := us5) G15 np7
    have ne2 := o15.ne_new np7
    have G16 := G15.step g10
    have o17 := o15.step g10
    have G17 := o16.frz G16
    have ex3 := o16.ex
    have o18 := o17.frzo (Ne.symm (Ne.symm ne2)) o16
    have fa9 : (upd (F1) p9 (.lst us5)) p9 = some (.lst us5) := upd_same
    have fr22 := Rs_mono ex3 fr21
    have n03 := o16.n0
    have fr23 := NRs_mono (H0 := H) ex3 (NRs_sub fr20 hm1 fr21)
    refine ⟨_, rfl, ⟨_, .inl (.inl (G17.sub _ _ fa9))⟩, fun p10 np8 => ?_⟩
    have g11 := Gr.newO (o := .lst []) G17.sub np8
    have o19 := Ow.new (us := []) G17 np8
    have ne3 := o18.ne_new np8
    have G18 := G17.step g11
    have o20 := o18.step g11
    refine lc_lstM (α := (Int × (List Int))) (fun (ts5 : List (Int × (List Int))) H5 => ∃ (F3 : Hp) (x4 : List (List Int)) (us7 : List V), forK (stands_of_c5) ts5 x4 (stands_of_k6) = some r ∧ Sub (upd (F1) p9 (.lst us5)) F3 ∧ Gr NA F0 H F3 H5 ∧ Ow H F3 H5 p10 us7 ∧ Rs F3 us7 x4 ∧ NRs H F3 us7 x4 ∧ Ow H F3 H5 p4 us2) (Rs_mono (Sub.refl _) fr22) ⟨_, ([] : List (List Int)), _, hm, (Sub.refl _), G18, o19, Rs_nil, NRs_nil, o20⟩ (fun _ _ h => ?_) (fun t3 ts6 v6 H1 hv3 mem1 hW => ?_) (fun H1 hW => ?_)
    · obtain ⟨F9, _, _, _, s9, G9, _⟩ := h
      exact G9.sub _ _ (s9 _ _ ((Sub.refl _) _ _ fa9))
    · skip
      obtain ⟨F3, x4, us7, hm, s5, G19, o21, fr24, fr25, o22⟩ := hW
      obtain ⟨next3, hnx3⟩ : ∃ nx, nx = fun s => forK (stands_of_c5) ts6 s (stands_of_k6) := ⟨_, rfl⟩
      have hm : (stands_of_c5) x4 t3 next3 = some r := by rw [hnx3]; exact forK_c hm
      rw [stands_of_c5] at hm
      have d4 : NR H (upd (F1) p9 (.lst us5)) v6 t3 := NRs_mem (NRs_mono (Sub.refl _) fr23) mem1 hv3
      obtain ⟨a4, v7, v8, rfl, fa10, d5, d6⟩ := NR_tup2_of d4
      obtain rfl := int_of (NR_r d5)
      obtain ⟨a5, us8, rfl, fa11, fr27, n04⟩ := NR_lst_of d6
      refine ⟨_, _, rfl, .inl (.inl ((s5.trans G19.sub) _ _ fa10)), rfl, ?_⟩
      refine ⟨_, _, rfl, ?_⟩
      with_reducible refine x_gn ?_
      refine ⟨_, _, rfl, ?_⟩
      with_reducible refine x_gn ?_
      refine ⟨rfl, ?_⟩
      refine ⟨rfl, ?_⟩
      with_reducible refine x_yes ?_
      refine iteT ?_
      refine ⟨_, rfl, ?_⟩
      obtain ⟨c4, hm⟩ := guardp hm
      have G20 := o21.mutG (o := .lst (us7 ++ [(.ref a5)])) G19
      have o23 := o21.mut (ws := us7 ++ [(.ref a5)])
      have fr28 : Rs (α := (List Int)) (F3) (us7 ++ [(.ref a5)]) (x4 ++ [(t3).2]) := Rs_snoc fr24 (mk_lst (s5 _ _ fa11) (Rs_mono s5 (NRs_rs fr27)))
      have o24 := o22.other (ws := us7 ++ [(.ref a5)]) (Ne.symm ne3)
      rw [hnx3] at hm
      have fr29 := NRs_snoc (α := (List Int)) (x := (t3).2) fr25 (mkN_lst n04 (s5 _ _ fa11) (NRs_mono s5 fr27))
      exact ⟨_, o21.at_, szl (by rw [Rs_len fr24]; exact c4), ⟨F3, (x4 ++ [(t3).2]), _, hm, s5, G20, o23, fr28, fr29, o24⟩⟩
    · skip
      obtain ⟨F3, x4, us7, hm, s6, G21, o25, fr30, fr31, o26⟩ := hW
      have hm : (stands_of_k6) x4 = some r := forK_n hm
      rw [stands_of_k6] at hm
      have G22 := o25.frz G21
      have ex4 := o25.ex
      have o27 := o26.frzo (Ne.symm (Ne.symm ne3)) o25
      have fa12 : (upd (F3) p10 (.lst us7)) p10 = some (.lst us7) := upd_same
      have fr32 := Rs_mono ex4 fr30
      have n05 := o25.n0
      have fr33 := NRs_mono (H0 := H) ex4 fr31
      obtain rfl : _ = r := Option.some.inj hm
      exact q _ _ _ G22 (mkN_lst n05 ((Sub.refl _) _ _ fa12) (NRs_mono (Sub.refl _) fr33))


def step_from (rule : (Int × (List (List Int)))) (stand : (List Int)) (figure : Int) : Option (Option (List Int)) :=
  ((need_rule rule).bind fun r1 => ((are_figures ((rule).1) stand).bind fun r2 => (if (!r2) = true then none else ((stands_of rule).bind fun r3 => (if (!memT stand r3) = true then none else ((is_figure ((rule).1) figure).bind fun r4 => (if (!r4) = true then none else (if stand.length + ([figure] : (List Int)).length ≤ 16777216 then ((stand_of rule (stand ++ ([figure] : (List Int)))).bind fun r5 => (some r5)) else none))))))))
abbrev N_step_from : List Str := ["rule", "stand", "figure"]
theorem sc_step_from : FnScope N_step_from ["rule", "stand", "figure"] (defScope s_step_from) := ⟨rfl, rfl, rfl, by decide +kernel, rfl, by decide +kernel, by decide +kernel⟩
def sp_step_from : Sp := fun vs H Q _ => ∃ (F : Hp) (v_rule : V) (v_stand : V) (v_figure : V) (rule : (Int × (List (List Int)))) (stand : (List Int)) (figure : Int) (r : (Option (List Int))), vs = [v_rule, v_stand, v_figure] ∧ Sub F H ∧ R F v_rule rule ∧ R F v_stand stand ∧ R F v_figure figure ∧ step_from rule stand figure = some r ∧ ∀ N H2 v, Gr NA F H N H2 → R N v r → Fz H v → Q v H2
theorem ok_step_from {P : Program} {w : World} {K : PySem.W.Frag} {mg : Str → Option Value} {base : Heap} (T : Txt K mg) : FnOk P w K mg base CX0 7 T.f_step_from.f T.f_step_from.fd ["rule", "stand", "figure"] sp_step_from := by
  have nd := (sc_step_from).nd
  refine T.f_step_from.F.ok sc_step_from (fun vs H Q E h => ?_) (fun cdv A0 outer s H vs Q E hr h => ?_)
  · obtain ⟨_, _, _, _, _, _, _, _, rfl, _⟩ := h
    rfl
  obtain ⟨F0, v_rule, v_stand, v_figure, rule, stand, figure, r, rfl, s0, f_rule, f_stand, f_figure, hm, q⟩ := h
  have G0 : Gr NA F0 H F0 H := Gr.refl s0
  obtain ⟨a1, v1, v2, rfl, fa1, d1, d2⟩ := tup2_of f_rule
  obtain rfl := int_of d1
  obtain ⟨a2, us1, rfl, fa2, fr1⟩ := lst_of d2
  obtain ⟨a3, us2, rfl, fa3, fr2⟩ := lst_of f_stand
  obtain rfl := int_of f_figure
  refine ⟨_, (pss_cons (ps_expr (pe_call (ok_need_rule T) (hr.mono (by decide)) (by rfl) T.f_need_rule.g T.f_need_rule.F.kp T.f_need_rule.b .nil pass0 (pa_cons (pv 0) pa_nil))) (pss_cons (ps_if (PW.pt (pw_or (pt_not (pt_val (pe_call (ok_are_figures T) (hr.mono (by decide)) (by rfl) T.f_are_figures.g T.f_are_figures.F.kp T.f_are_figures.b .nil pass0 (pa_cons (pe_ix (r := rIxT K) ix_tup (pv 0) pe_int (fun _ _ => rfl)) (pa_cons (pv 1) pa_nil))))) (pw_or1 (pt_cmpR (op_niT (α := (List Int)) (by decide) (hu65 hr)) (pv 1) (pe_call (ok_stands_of T) (hr.mono (by decide)) (by rfl) T.f_stands_of.g T.f_stands_of.F.kp T.f_stands_of.b .nil pass0 (pa_cons (pv 0) pa_nil)) (by rfl))))) (pss_one ps_never) pss_nil) (pss_cons (ps_if (pt_not (pt_val (pe_call (ok_is_figure T) (hr.mono (by decide)) (by rfl) T.f_is_figure.g T.f_is_figure.F.kp T.f_is_figure.b .nil pass0 (pa_cons (pe_ix (r := rIxT K) ix_tup (pv 0) pe_int (fun _ _ => rfl)) (pa_cons (pv 2) pa_nil))))) (pss_one ps_never) pss_nil) (pss_one (ps_ret (pe_call (ok_stand_of T) (hr.mono (by decide)) (by rfl) T.f_stand_of.g T.f_stand_of.F.kp T.f_stand_of.b .nil pass0 (pa_cons (pv 0) (pa_cons (pe_op op_cat (pv 1) (pe_lst (pa_cons (pv 2) pa_nil))) pa_nil)))))))), ?_⟩
  rw [step_from] at hm
  with_reducible refine x_seq ?_
  with_reducible refine x_drop ?_
  with_reducible refine x_call ?_
  with_reducible refine x_cons ?_
  refine ⟨_, rfl, ?_⟩
  obtain ⟨r1, hr1, hm⟩ := bindp hm
  refine ⟨_, _, rule, r1, rfl, G0.sub, (mk_tup2 ((Sub.refl _) _ _ fa1) (.int _) (mk_lst ((Sub.refl _) _ _ fa2) (Rs_mono (Sub.refl _) fr1))), hr1, fun N1 H1 v3 g1 d3  => ?_⟩
  have G1 := G0.step g1
  obtain rfl := non_of d3
  with_reducible refine x_seq ?_
  with_reducible refine x_if ?_
  with_reducible refine x_or ?_
  with_reducible refine x_not ?_
  with_reducible refine x_B ?_
  with_reducible refine x_call ?_
  with_reducible refine x_cons ?_
  with_reducible refine x_op ?_
  refine ⟨_, rfl, ?_⟩
  refine ⟨_, _, _, _, rfl, rfl, .inl (.inl ((g1.ex.trans G1.sub) _ _ fa1)), atI_nat (j := 0) rfl, ?_⟩
  with_reducible refine x_cons ?_
  refine ⟨_, rfl, ?_⟩
  obtain ⟨r2, hr2, hm⟩ := bindp hm
  refine ⟨_, _, _, (rule).1, stand, r2, rfl, G1.sub, (.int _), (mk_lst (g1.ex _ _ fa3) (Rs_mono g1.ex fr2)), hr2, fun N2 H2 v4 g2 d4  => ?_⟩
  have G2 := G1.step g2
  obtain rfl := bl_of d4
  refine ⟨_, rfl, ?_⟩
  refine ifD (fun hc => ?_) (fun hc => ?_)
  · replace hm := itep hm hc
    refine iteT ?_
    exact no_none hm
  · replace hm := iten hm (bF hc)
    with_reducible refine x_test ?_
    with_reducible refine x_op ?_
    refine ⟨_, rfl, ?_⟩
    with_reducible refine x_call ?_
    with_reducible refine x_cons ?_
    refine ⟨_, rfl, ?_⟩
    obtain ⟨r3, hr3, hm⟩ := bindp hm
    refine ⟨_, _, rule, r3, rfl, G2.sub, (mk_tup2 ((g1.ex.trans g2.ex) _ _ fa1) (.int _) (mk_lst ((g1.ex.trans g2.ex) _ _ fa2) (Rs_mono (g1.ex.trans g2.ex) fr1))), hr3, fun N3 H3 v5 g3 d5 => ?_⟩
    have G3 := G2.step g3
    obtain ⟨a4, us3, rfl, fa4, fr3⟩ := lst_of (NR_r d5)
    refine ⟨_, stand, r3, Sub.refl _, (RD.mono G3.sub (mk_lst (((g1.ex.trans g2.ex).trans g3.ex) _ _ fa3) (Rs_mono ((g1.ex.trans g2.ex).trans g3.ex) fr2))), (RD.mono G3.sub (mk_lst ((Sub.refl _) _ _ fa4) (Rs_mono (Sub.refl _) fr3))), ?_⟩
    refine ⟨_, rfl, ?_⟩
    refine ifD (fun hc => ?_) (fun hc => ?_)
    · replace hm := itep hm hc
      exact no_none hm
    · replace hm := iten hm (bF hc)
      with_reducible refine x_next ?_
      with_reducible refine x_seq ?_
      with_reducible refine x_if ?_
      with_reducible refine x_not ?_
      with_reducible refine x_B ?_
      with_reducible refine x_call ?_
      with_reducible refine x_cons ?_
      with_reducible refine x_op ?_
      refine ⟨_, rfl, ?_⟩
      refine ⟨_, _, _, _, rfl, rfl, .inl (.inl ((((g1.ex.trans g2.ex).trans g3.ex).trans G3.sub) _ _ fa1)), atI_nat (j := 0) rfl, ?_⟩
      with_reducible refine x_cons ?_
      refine ⟨_, rfl, ?_⟩
      obtain ⟨r4, hr4, hm⟩ := bindp hm
      refine ⟨_, _, _, (rule).1, figure, r4, rfl, G3.sub, (.int _), (.int _), hr4, fun N4 H4 v6 g4 d6  => ?_⟩
      have G4 := G3.step g4
      obtain rfl := bl_of d6
      refine ⟨_, rfl, ?_⟩
      refine ifD (fun hc => ?_) (fun hc => ?_)
      · replace hm := itep hm hc
        exact no_none hm
      · replace hm := iten hm (bF hc)
        with_reducible refine x_next ?_
        with_reducible refine x_ret ?_
        with_reducible refine x_call ?_
        with_reducible refine x_cons ?_
        refine ⟨_, rfl, ?_⟩
        with_reducible refine x_cons ?_
        with_reducible refine x_op ?_
        refine ⟨_, rfl, ?_⟩
        with_reducible refine x_lst ?_
        with_reducible refine x_cons ?_
        refine ⟨_, rfl, ?_⟩
        refine ⟨szle (show 1 ≤ 16777216 from by decide), fun p1 np1 => ?_⟩
        have fr4 : Rs (α := Int) (N4) [(.int figure)] ([figure] : (List Int)) := (Rs_cons (.int _) Rs_nil)
        have g5 := Gr.newO (o := .lst [(.int figure)]) G4.sub np1
        have o1 := Ow.new (us := [(.int figure)]) G4 np1
        have G5 := G4.step g5
        obtain ⟨c1, hm⟩ := guardp hm
        refine ⟨_, _, _, _, rfl, rfl, (((((g1.ex.trans g2.ex).trans g3.ex).trans g4.ex).trans G5.sub) _ _ fa3), o1.at_, szle (by rw [Rs_len (Rs_mono (((g1.ex.trans g2.ex).trans g3.ex).trans g4.ex) fr2), Rs_len fr4]; exact c1), fun p2 np2 => ?_⟩
        have fr5 : Rs (α := Int) (N4) (us2 ++ [(.int figure)]) (stand ++ ([figure] : (List Int))) := Rs_app (Rs_mono (((g1.ex.trans g2.ex).trans g3.ex).trans g4.ex) fr2) fr4
        have g6 := Gr.newO (o := .lst (us2 ++ [(.int figure)])) G5.sub np2
        have o2 := Ow.new (us := (us2 ++ [(.int figure)])) G5 np2
        have ne1 := o1.ne_new np2
        have G6 := G5.step g6
        have o3 := o1.step g6
        have G7 := o2.frz G6
        have ex1 := o2.ex
        have o4 := o3.frzo (Ne.symm (Ne.symm ne1)) o2
        have fa5 : (upd (N4) p2 (.lst (us2 ++ [(.int figure)]))) p2 = some (.lst (us2 ++ [(.int figure)])) := upd_same
        have fr6 := Rs_mono ex1 fr5
        obtain ⟨r5, hr5, hm⟩ := bindp hm
        refine ⟨_, _, _, rule, (stand ++ ([figure] : (List Int))), r5, rfl, G7.sub, (mk_tup2 (((((g1.ex.trans g2.ex).trans g3.ex).trans g4.ex).trans ex1) _ _ fa1) (.int _) (mk_lst (((((g1.ex.trans g2.ex).trans g3.ex).trans g4.ex).trans ex1) _ _ fa2) (Rs_mono ((((g1.ex.trans g2.ex).trans g3.ex).trans g4.ex).trans ex1) fr1))), (mk_lst ((Sub.refl _) _ _ fa5) (Rs_mono (Sub.refl _) fr6)), hr5, fun N5 H5 v7 g7 d7 fz1 => ?_⟩
        have z1 := Fz.up G7 fz1
        have G8 := G7.step g7
        have o5 := o4.step g7
        obtain rfl : _ = r := Option.some.inj hm
        exact q _ _ _ G8 (RD.mono (Sub.refl _) d7) z1

def _law_step_right_c4 : ((List Int) × HdS) → Int → (((List Int) × HdS) → Option (Bool × HdS)) → Option (Bool × HdS)
  | (x4, st3), t2, next2 => (next2 (x4, st3))
def _law_step_right_k5 (x2 : (List Int)) (next1 : (HdS → Option (Bool × HdS))) : ((List Int) × HdS) → Option (Bool × HdS)
  | (x4, st3) => (if (!eqT x4 ([] : (List Int))) = true then (some (false, st3)) else (if x2.length < 16777216 then (next1 st3) else none))
def _law_step_right_b2 (handed : (Int × (List (List Int)))) (stand : (List Int)) (figure : Int) (x1 : (Option (List Int))) (rule : (Int × (List (List Int)))) : HdS → Int → (HdS → Option (Bool × HdS)) → Option (Bool × HdS)
  | st2, t1, next1 => ((step_from handed stand figure).bind fun r3 => optE r3 (if (!eqT (none : (Option (List Int))) x1) = true then (some (false, st2)) else (if (!(eqT handed rule)) = true then (some (false, st2)) else (if (!(eqT stand stand)) = true then (some (false, st2)) else (if (!(x1).isNone) = true then (some (false, st2)) else (next1 st2))))) (fun x2 => (if (!eqT (some x2) x1) = true then (some (false, st2)) else (if (!(eqT handed rule)) = true then (some (false, st2)) else (if (!(eqT stand stand)) = true then (some (false, st2)) else (if (!(x1).isNone) = true then (forK (_law_step_right_c4) (x2) ([], st2) (_law_step_right_k5 x2 next1)) else (next1 st2)))))))
def _law_step_right_e3 (handed : (Int × (List (List Int)))) (stand : (List Int)) (figure : Int) (rule : (Int × (List (List Int)))) (x1 : (Option (List Int))) : HdS → Option (Bool × HdS)
  | st2 => ((step_from handed stand figure).bind fun r4 => (if st2.length < 16777216 then (some (((eqT stand stand) && (eqT handed rule)), (st2 ++ [(r4, x1)]))) else none))
def _law_step_right_j1 (handed : (Int × (List (List Int)))) (stand : (List Int)) (figure : Int) (rule : (Int × (List (List Int)))) : ((Option (List Int)) × HdS) → Option (Bool × HdS)
  | (x1, st1) => (forK (_law_step_right_b2 handed stand figure x1 rule) (irange 0 (2 : Int)) st1 (_law_step_right_e3 handed stand figure rule x1))
def _law_step_right (st : HdS) (rule : (Int × (List (List Int)))) (handed : (Int × (List (List Int)))) (stand : (List Int)) (figure : Int) : Option (Bool × HdS) :=
  (if stand.length + ([figure] : (List Int)).length ≤ 16777216 then ((_law_lacks ((rule).2) (stand ++ ([figure] : (List Int)))).bind fun r1 => (if r1 = true then ((_law_tail ((rule).2) (stand ++ ([figure] : (List Int)))).bind fun r2 => ((_law_step_right_j1 handed stand figure rule) ((some r2), st))) else ((_law_step_right_j1 handed stand figure rule) ((none : (Option (List Int))), st)))) else none)
abbrev N__law_step_right : List Str := ["rule", "handed", "stand", "figure", "held", "figures", "due", "row", "turn", "found", "one"]
theorem sc__law_step_right : FnScope N__law_step_right ["rule", "handed", "stand", "figure", "held"] (defScope s__law_step_right) := ⟨rfl, rfl, rfl, by decide +kernel, rfl, by decide +kernel, by decide +kernel⟩
def sp__law_step_right : Sp := fun vs H Q _ => ∃ (F : Hp) (A : Addr → Prop) (dk : Addr) (st : HdS) (v_rule : V) (v_handed : V) (v_stand : V) (v_figure : V) (rule : (Int × (List (List Int)))) (handed : (Int × (List (List Int)))) (stand : (List Int)) (figure : Int) (r : Bool) (stR : HdS), vs = [v_rule, v_handed, v_stand, v_figure, .ref dk] ∧ Sub F H ∧ Held A F H dk st ∧ R F v_rule rule ∧ R F v_handed handed ∧ R F v_stand stand ∧ R F v_figure figure ∧ _law_step_right st rule handed stand figure = some (r, stR) ∧ ∀ N H2 v, Gr A F H N H2 → Held A N H2 dk stR → R N v r → Q v H2
theorem ok__law_step_right {P : Program} {w : World} {K : PySem.W.Frag} {mg : Str → Option Value} {base : Heap} (T : Txt K mg) : FnOk P w K mg base CX0 8 T.f__law_step_right.f T.f__law_step_right.fd ["rule", "handed", "stand", "figure", "held"] sp__law_step_right := by
  have nd := (sc__law_step_right).nd
  refine T.f__law_step_right.F.ok sc__law_step_right (fun vs H Q E h => ?_) (fun cdv A0 outer s H vs Q E hr h => ?_)
  · obtain ⟨_, _, _, _, _, _, _, _, _, _, _, _, _, _, rfl, _⟩ := h
    rfl
  obtain ⟨F0, A, dk, st, v_rule, v_handed, v_stand, v_figure, rule, handed, stand, figure, r, stR, rfl, s0, hdk, f_rule, f_handed, f_stand, f_figure, hm, q⟩ := h
  have G0 : Gr A F0 H F0 H := Gr.refl s0
  have dk0 := HdAt.mk0 hdk
  obtain ⟨a1, v1, v2, rfl, fa1, d1, d2⟩ := tup2_of f_rule
  obtain rfl := int_of d1
  obtain ⟨a2, us1, rfl, fa2, fr1⟩ := lst_of d2
  obtain ⟨a3, v3, v4, rfl, fa3, d3, d4⟩ := tup2_of f_handed
  obtain rfl := int_of d3
  obtain ⟨a4, us2, rfl, fa4, fr2⟩ := lst_of d4
  obtain ⟨a5, us3, rfl, fa5, fr3⟩ := lst_of f_stand
  obtain rfl := int_of f_figure
  refine ⟨_, (pss_cons (ps_set (i := 5) nd rfl (by first | exact Or.inl rfl | exact Or.inr rfl) (pe_op op_cat (pv 2) (pe_lst (pa_cons (pv 3) pa_nil)))) (pss_cons (ps_set (i := 6) nd rfl (by first | exact Or.inl rfl | exact Or.inr rfl) pe_non) (Evl.pss_cut (ps_if (pt_val (pe_call (ok__law_lacks T) (hr.mono (by decide)) (by rfl) T.f__law_lacks.g T.f__law_lacks.F.kp T.f__law_lacks.b .nil pass0 (pa_cons (pe_ix (r := rIxT K) ix_tup (pv 0) pe_int (fun _ _ => rfl)) (pa_cons (pv 5) pa_nil)))) (pss_one (ps_set (i := 6) nd rfl (by first | exact Or.inl rfl | exact Or.inr rfl) (pe_call (ok__law_tail T) (hr.mono (by decide)) (by rfl) T.f__law_tail.g T.f__law_tail.F.kp T.f__law_tail.b .nil pass0 (pa_cons (pe_ix (r := rIxT K) ix_tup (pv 0) pe_int (fun _ _ => rfl)) (pa_cons (pv 5) pa_nil))))) pss_nil) (pss_cons (ps_set (i := 7) nd rfl (by first | exact Or.inl rfl | exact Or.inr rfl) (pe_callTy (r := rListT K) call_listT (by rfl) T.z_list (by decide +kernel) (pa_cons (pv 2) pa_nil))) (pss_cons (ps_for PassesOwn.never rfl (pi_range1 (by rfl) T.z_range (pa_cons pe_int pa_nil)) (pg_name (i := 8) nd rfl (by first | exact Or.inl rfl | exact Or.inr rfl)) (pss_cons (ps_set (i := 9) nd rfl (by first | exact Or.inl rfl | exact Or.inr rfl) (pe_call (ok_step_from T) (hr.mono (by decide)) (by rfl) T.f_step_from.g T.f_step_from.F.kp T.f_step_from.b .nil pass0 (pa_cons (pv 1) (pa_cons (pv 7) (pa_cons (pv 3) pa_nil))))) (pss_cons (ps_if (PW.pt (pw_or (pt_cmpR (op_neT (α := (Option (List Int))) (by decide) (hu64 hr)) (pv 9) (pv 6) (nomark _)) (pw_or (pt_cmpR (op_neT (α := (Int × (List (List Int)))) (by decide) (hu64 hr)) (pv 1) (pv 0) (nomark _)) (pw_or1 (pt_cmpR (op_neT (α := (List Int)) (by decide) (hu64 hr)) (pv 7) (pv 2) (nomark _)))))) (pss_one (ps_ret pe_bl)) pss_nil) (pss_one (ps_if (pt_cmp (pc_notN (pv 6))) (pss_cons (ps_if (PW.pt (pw_or (pt_not (pt_val (pe_callB (r := rIsi K) call_isi (by rfl) T.z_isinstance (by decide +kernel) (pa_cons (pv 9) (pa_cons (pe_bltn (v := .ty "list") (by rfl) T.z_list (by decide +kernel) rfl) pa_nil))))) (pw_or1 (pt_cmpR (op_neT (α := (List Int)) (by decide) (hu64 hr)) (pe_lc (own := [("one", 10)]) (g := (gName 10)) rfl nd (pi_list (pv 9)) (blkOk_by (own := [("one", 10)]) (N := N__law_step_right) (sc := defScope s__law_step_right) (by decide +kernel)) (fun _ _ _ _ _ => pg_name (i := 10) nd rfl (Or.inl rfl)) (fun _ _ _ _ _ => pts_one (pt_val (pe_callB (r := rIsi K) call_isi (by rfl) T.z_isinstance (by decide +kernel) (pa_cons (pv 10) (pa_cons (pe_bltn (v := .ty "bool") (by rfl) T.z_bool (by decide +kernel) rfl) pa_nil))))) (fun _ _ _ _ _ => (pv 10))) (pe_lst pa_nil) (nomark _))))) (pss_one (ps_ret pe_bl)) pss_nil) (pss_one (ps_expr (pe_bm PySem.F.plainAttrs_list PySem.F.slot_list_append PySem.F.type_list_append mt_append (pv 9) (pa_cons pe_int pa_nil))))) pss_nil))))) (pss_cons (ps_expr (pe_bm PySem.F.plainAttrs_list PySem.F.slot_list_append PySem.F.type_list_append mt_append (pv 4) (pa_cons (pe_tup (pa_cons (pe_call (ok_step_from T) (hr.mono (by decide)) (by rfl) T.f_step_from.g T.f_step_from.F.kp T.f_step_from.b .nil pass0 (pa_cons (pv 1) (pa_cons (pv 7) (pa_cons (pv 3) pa_nil)))) (pa_cons (pv 6) pa_nil))) pa_nil))) (pss_one (ps_ret (pe_and (pe_cmpR (op_eqT (α := (List Int)) (by decide) (hu64 hr)) (pv 7) (pv 2) (nomark _)) (pe_one (pe_cmpR (op_eqT (α := (Int × (List (List Int)))) (by decide) (hu64 hr)) (pv 1) (pv 0) (nomark _)))))))))))), ?_⟩
  rw [_law_step_right] at hm
  with_reducible refine x_seq ?_
  with_reducible refine x_asg ?_
  with_reducible refine x_op ?_
  refine ⟨_, rfl, ?_⟩
  with_reducible refine x_lst ?_
  with_reducible refine x_cons ?_
  refine ⟨_, rfl, ?_⟩
  refine ⟨szle (show 1 ≤ 16777216 from by decide), fun p1 np1 => ?_⟩
  have fr4 : Rs (α := Int) (F0) [(.int figure)] ([figure] : (List Int)) := (Rs_cons (.int _) Rs_nil)
  have g1 := Gr.newO (o := .lst [(.int figure)]) G0.sub np1
  have o1 := Ow.new (us := [(.int figure)]) G0 np1
  have G1 := G0.step g1
  have dk1 := dk0.step g1
  obtain ⟨c1, hm⟩ := guardp hm
  refine ⟨_, _, _, _, rfl, rfl, (G1.sub _ _ fa5), o1.at_, szle (by rw [Rs_len (Rs_mono (Sub.refl _) fr3), Rs_len fr4]; exact c1), fun p2 np2 => ?_⟩
  have fr5 : Rs (α := Int) (F0) (us3 ++ [(.int figure)]) (stand ++ ([figure] : (List Int))) := Rs_app (Rs_mono (Sub.refl _) fr3) fr4
  have g2 := Gr.newO (o := .lst (us3 ++ [(.int figure)])) G1.sub np2
  have o2 := Ow.new (us := (us3 ++ [(.int figure)])) G1 np2
  have ne1 := o1.ne_new np2
  have G2 := G1.step g2
  have o3 := o1.step g2
  have dk2 := dk1.step g2
  with_reducible refine x_gn ?_
  with_reducible refine x_seq ?_
  with_reducible refine x_asg ?_
  with_reducible refine x_c ?_
  with_reducible refine x_gn ?_
  have G3 := o3.frz G2
  have ex1 := o3.ex
  have o4 := o2.frzo (Ne.symm ne1) o3
  have fa6 : (upd (F0) p1 (.lst [(.int figure)])) p1 = some (.lst [(.int figure)]) := upd_same
  have fr6 := Rs_mono ex1 fr4
  have dk3 := dk2.frz o3
  have G4 := o4.frz G3
  have ex2 := o4.ex
  have fa7 : (upd (upd (F0) p1 (.lst [(.int figure)])) p2 (.lst (us3 ++ [(.int figure)]))) p2 = some (.lst (us3 ++ [(.int figure)])) := upd_same
  have fr7 := Rs_mono ex2 (Rs_mono ex1 fr5)
  have dk4 := dk3.frz o4
  refine ⟨(fun σ H1 => ∃ (F1 : Hp) (st1 : HdS) (x1 : (Option (List Int))) (v5 : V), (_law_step_right_j1 handed stand figure rule) (x1, st1) = some (r, stR) ∧ Sub (upd (upd (F0) p1 (.lst [(.int figure)])) p2 (.lst (us3 ++ [(.int figure)]))) F1 ∧ Gr A F0 H F1 H1 ∧ R F1 v5 x1 ∧ HdAt A H F1 H1 dk st1 ∧ σ = [some (.ref a1), some (.ref a3), some (.ref a5), some (.int figure), some (.ref dk), some (.ref p2), some v5, none, none, none, none]), ?_, fun σ H1 hW => ?_⟩
  · with_reducible refine x_if ?_
    with_reducible refine x_B ?_
    with_reducible refine x_call ?_
    with_reducible refine x_cons ?_
    with_reducible refine x_op ?_
    refine ⟨_, rfl, ?_⟩
    refine ⟨_, _, _, _, rfl, rfl, .inl (.inl (((ex1.trans ex2).trans G4.sub) _ _ fa1)), atI_nat (j := 1) rfl, ?_⟩
    with_reducible refine x_cons ?_
    refine ⟨_, rfl, ?_⟩
    obtain ⟨r1, hr1, hm⟩ := bindp hm
    refine ⟨_, _, _, (rule).2, (stand ++ ([figure] : (List Int))), r1, rfl, G4.sub, (mk_lst ((ex1.trans ex2) _ _ fa2) (Rs_mono (ex1.trans ex2) fr1)), (mk_lst ((Sub.refl _) _ _ fa7) (Rs_mono (Sub.refl _) fr7)), hr1, fun N1 H2 v6 g3 d5  => ?_⟩
    have G5 := G4.step g3
    have dk5 := dk4.step g3
    obtain rfl := bl_of d5
    refine ⟨_, rfl, ?_⟩
    refine ifD (fun hc => ?_) (fun hc => ?_)
    · replace hm := itep hm hc
      with_reducible refine x_asg ?_
      with_reducible refine x_call ?_
      with_reducible refine x_cons ?_
      with_reducible refine x_op ?_
      refine ⟨_, rfl, ?_⟩
      refine ⟨_, _, _, _, rfl, rfl, .inl (.inl ((((ex1.trans ex2).trans g3.ex).trans G5.sub) _ _ fa1)), atI_nat (j := 1) rfl, ?_⟩
      with_reducible refine x_cons ?_
      refine ⟨_, rfl, ?_⟩
      obtain ⟨r2, hr2, hm⟩ := bindp hm
      refine ⟨_, _, _, (rule).2, (stand ++ ([figure] : (List Int))), r2, rfl, G5.sub, (mk_lst (((ex1.trans ex2).trans g3.ex) _ _ fa2) (Rs_mono ((ex1.trans ex2).trans g3.ex) fr1)), (mk_lst (g3.ex _ _ fa7) (Rs_mono g3.ex fr7)), hr2, fun N2 H3 v7 g4 d6  => ?_⟩
      have G6 := G5.step g4
      have dk6 := dk5.step g4
      obtain ⟨a6, us4, rfl, fa8, fr8⟩ := lst_of d6
      have d7 : R (N2) (.ref a6) (some r2) := (mk_lst ((Sub.refl _) _ _ fa8) (Rs_mono (Sub.refl _) fr8))
      with_reducible refine x_gn ?_
      exact ⟨N2, _, (some r2), _, hm, (g3.ex.trans g4.ex), G6, (RD.mono (Sub.refl _) d7), dk6, rfl⟩
    · replace hm := iten hm (bF hc)
      with_reducible refine x_next ?_
      exact ⟨N1, _, (none : (Option (List Int))), _, hm, g3.ex, G5, (RD.mono ((ex1.trans ex2).trans g3.ex) (RD.non)), dk5, rfl⟩
  · skip
    obtain ⟨F1, st1, x1, v5, hm, s1, G7, d8, dk7, rfl⟩ := hW
    have hm : (_law_step_right_j1 handed stand figure rule) (x1, st1) = some (r, stR) := hm
    rw [_law_step_right_j1] at hm
    with_reducible refine x_seq ?_
    with_reducible refine x_asg ?_
    with_reducible refine x_cb ?_
    with_reducible refine x_cons ?_
    refine ⟨_, rfl, ?_⟩
    refine ⟨_, _, rfl, .inl (.inl (.inl ((((ex1.trans ex2).trans s1).trans G7.sub) _ _ fa5))), fun p3 np3 => ?_⟩
    have g5 := Gr.newO (o := .lst us3) G7.sub np3
    have o5 := Ow.new (us := us3) G7 np3
    have G8 := G7.step g5
    have dk8 := dk7.step g5
    with_reducible refine x_gn ?_
    with_reducible refine x_seq ?_
    with_reducible refine x_for ?_
    with_reducible refine x_rng1 ?_
    with_reducible refine x_cons ?_
    with_reducible refine x_c ?_
    have G9 := o5.frz G8
    have ex3 := o5.ex
    have fa9 : (upd (F1) p3 (.lst us3)) p3 = some (.lst us3) := upd_same
    have fr9 := Rs_mono ex3 (Rs_mono ((ex1.trans ex2).trans s1) fr3)
    have dk9 := dk8.frz o5
    refine ⟨_, rfl, (show Rg1 (2 : Int) from by decide).lo, (show Rg1 (2 : Int) from by decide).hi, ?_⟩
    refine for_rng (lo := 0) (hi := (2 : Int)) (by rw [Int.sub_zero]) (fun (ts1 : List Int) σ H4 => ∃ (F2 : Hp) (st2 : HdS) (y1 : Option V) (y2 : Option V), forK (_law_step_right_b2 handed stand figure x1 rule) ts1 st2 (_law_step_right_e3 handed stand figure rule x1) = some (r, stR) ∧ Sub (upd (F1) p3 (.lst us3)) F2 ∧ Gr A F0 H F2 H4 ∧ HdAt A H F2 H4 dk st2 ∧ σ = [some (.ref a1), some (.ref a3), some (.ref a5), some (.int figure), some (.ref dk), some (.ref p2), some v5, some (.ref p3), y2, y1, none]) ⟨_, _, _, _, hm, (Sub.refl _), G9, dk9, rfl⟩ (fun t1 ts2 σ H1 hW => ?_) (fun σ H1 hW => ?_)
    · skip
      obtain ⟨F2, st2, y1, y2, hm, s2, G10, dk10, rfl⟩ := hW
      obtain ⟨next1, hnx1⟩ : ∃ nx, nx = fun s => forK (_law_step_right_b2 handed stand figure x1 rule) ts2 s (_law_step_right_e3 handed stand figure rule x1) := ⟨_, rfl⟩
      have hm : (_law_step_right_b2 handed stand figure x1 rule) st2 t1 next1 = some (r, stR) := by rw [hnx1]; exact forK_c hm
      rw [_law_step_right_b2] at hm
      with_reducible refine x_gn ?_
      with_reducible refine x_seq ?_
      with_reducible refine x_asg ?_
      with_reducible refine x_call ?_
      with_reducible refine x_cons ?_
      refine ⟨_, rfl, ?_⟩
      with_reducible refine x_cons ?_
      refine ⟨_, rfl, ?_⟩
      with_reducible refine x_cons ?_
      refine ⟨_, rfl, ?_⟩
      obtain ⟨r3, hr3, hm⟩ := bindp hm
      refine ⟨_, _, _, _, handed, stand, figure, r3, rfl, G10.sub, (mk_tup2 (((((ex1.trans ex2).trans s1).trans ex3).trans s2) _ _ fa3) (.int _) (mk_lst (((((ex1.trans ex2).trans s1).trans ex3).trans s2) _ _ fa4) (Rs_mono ((((ex1.trans ex2).trans s1).trans ex3).trans s2) fr2))), (mk_lst (s2 _ _ fa9) (Rs_mono s2 fr9)), (.int _), hr3, fun N3 H5 v9 g6 d9 fz1 => ?_⟩
      rcases optE_cases hm with ⟨he1, hm⟩ | ⟨x2, he1, hm⟩
      · subst he1
        obtain rfl := nonO_of d9
        have G11 := G10.step g6
        have dk11 := dk10.step g6
        with_reducible refine x_gn ?_
        with_reducible refine x_seq ?_
        with_reducible refine x_if ?_
        with_reducible refine x_or ?_
        with_reducible refine x_test ?_
        with_reducible refine x_op ?_
        refine ⟨_, rfl, ?_⟩
        refine ⟨_, rfl, ?_⟩
        refine ⟨_, (none : (Option (List Int))), x1, Sub.refl _, (show R _ _ (none : (Option (List Int))) from .non), (RD.mono G11.sub (RD.mono ((ex3.trans s2).trans g6.ex) d8)), ?_⟩
        refine ⟨_, rfl, ?_⟩
        refine ifD (fun hc => ?_) (fun hc => ?_)
        · replace hm := itep hm hc
          refine iteT ?_
          with_reducible refine x_ret ?_
          with_reducible refine x_c ?_
          obtain ⟨rfl, rfl⟩ := pairp hm
          exact q _ _ _ G11 dk11.held (.bl _)
        · replace hm := iten hm (bF hc)
          with_reducible refine x_or ?_
          with_reducible refine x_test ?_
          refine useEv (.bl (!(eqT handed rule))) (by exact (ev_neqVar (α := (Int × (List (List Int)))) (Evl.ev_var rfl) (Evl.ev_var rfl) (RD.mono G11.sub (mk_tup2 ((((((ex1.trans ex2).trans s1).trans ex3).trans s2).trans g6.ex) _ _ fa3) (.int _) (mk_lst ((((((ex1.trans ex2).trans s1).trans ex3).trans s2).trans g6.ex) _ _ fa4) (Rs_mono (((((ex1.trans ex2).trans s1).trans ex3).trans s2).trans g6.ex) fr2)))) (RD.mono G11.sub (mk_tup2 ((((((ex1.trans ex2).trans s1).trans ex3).trans s2).trans g6.ex) _ _ fa1) (.int _) (mk_lst ((((((ex1.trans ex2).trans s1).trans ex3).trans s2).trans g6.ex) _ _ fa2) (Rs_mono (((((ex1.trans ex2).trans s1).trans ex3).trans s2).trans g6.ex) fr1)))))) (fun H6 e1 => ?_)
          have g7 := gr_ex G11.sub e1
          have G12 := G11.step g7
          have dk12 := dk11.step g7
          refine ⟨_, rfl, ?_⟩
          refine ifD (fun hc => ?_) (fun hc => ?_)
          · replace hm := itep hm hc
            refine iteT ?_
            with_reducible refine x_ret ?_
            with_reducible refine x_c ?_
            obtain ⟨rfl, rfl⟩ := pairp hm
            exact q _ _ _ G12 dk12.held (.bl _)
          · replace hm := iten hm (bF hc)
            with_reducible refine x_test ?_
            refine useEv (.bl (!(eqT stand stand))) (by exact (ev_neqVar (α := (List Int)) (Evl.ev_var rfl) (Evl.ev_var rfl) (RD.mono G12.sub (mk_lst ((s2.trans g6.ex) _ _ fa9) (Rs_mono (s2.trans g6.ex) fr9))) (RD.mono G12.sub (mk_lst ((((((ex1.trans ex2).trans s1).trans ex3).trans s2).trans g6.ex) _ _ fa5) (Rs_mono (((((ex1.trans ex2).trans s1).trans ex3).trans s2).trans g6.ex) fr3))))) (fun H7 e2 => ?_)
            have g8 := gr_ex G12.sub e2
            have G13 := G12.step g8
            have dk13 := dk12.step g8
            refine ⟨_, rfl, ?_⟩
            refine ifD (fun hc => ?_) (fun hc => ?_)
            · replace hm := itep hm hc
              with_reducible refine x_ret ?_
              with_reducible refine x_c ?_
              obtain ⟨rfl, rfl⟩ := pairp hm
              exact q _ _ _ G13 dk13.held (.bl _)
            · replace hm := iten hm (bF hc)
              with_reducible refine x_next ?_
              with_reducible refine x_if ?_
              with_reducible refine x_B ?_
              refine useEv (.bl (!(x1).isNone)) (by exact (ev_notN (Evl.ev_var rfl) (RD.mono ((ex3.trans s2).trans g6.ex) d8))) (fun H8 e3 => ?_)
              have g9 := gr_ex G13.sub e3
              have G14 := G13.step g9
              have dk14 := dk13.step g9
              refine ⟨_, rfl, ?_⟩
              refine ifD (fun hc => ?_) (fun hc => ?_)
              · replace hm := itep hm hc
                with_reducible refine x_seq ?_
                with_reducible refine x_if ?_
                with_reducible refine x_or ?_
                with_reducible refine x_not ?_
                with_reducible refine x_B ?_
                with_reducible refine x_cb ?_
                with_reducible refine x_cons ?_
                refine ⟨_, rfl, ?_⟩
                refine ⟨_, _, _, _, false, rfl, ClsV.ty _, TyX.base (TyOf.non), kit_ty (by decide +kernel), ?_⟩
                refine ⟨_, rfl, ?_⟩
                refine iteT ?_
                refine iteT ?_
                with_reducible refine x_ret ?_
                with_reducible refine x_c ?_
                obtain ⟨rfl, rfl⟩ := pairp hm
                exact q _ _ _ G14 dk14.held (.bl _)
              · replace hm := iten hm (bF hc)
                with_reducible refine x_next ?_
                rw [hnx1] at hm
                exact ⟨N3, _, _, _, hm, (s2.trans g6.ex), G14, dk14, rfl⟩
      · subst he1
        have d9 : R N3 v9 x2 := d9
        obtain ⟨a7, us5, rfl, fa10, fr10⟩ := lst_of d9
        have o6 := own_of (α := Int) (xs := []) G10 g6 (fz1 _ rfl) fa10
        have fr11 := Rs_flatI (F := F2) fr10
        have g10 := g6.flat G10.sub
        have G15 := G10.step g10
        have dk15 := dk10.step g10
        with_reducible refine x_gn ?_
        with_reducible refine x_seq ?_
        with_reducible refine x_if ?_
        with_reducible refine x_or ?_
        with_reducible refine x_test ?_
        with_reducible refine x_op ?_
        refine ⟨_, rfl, ?_⟩
        refine ⟨_, rfl, ?_⟩
        refine ⟨_, (some x2), x1, Sub.refl _, (show R _ _ (some x2) from (mk_lst o6.at_ (Rs_mono G15.sub fr11))), (RD.mono G15.sub (RD.mono (ex3.trans s2) d8)), ?_⟩
        refine ⟨_, rfl, ?_⟩
        refine ifD (fun hc => ?_) (fun hc => ?_)
        · replace hm := itep hm hc
          refine iteT ?_
          with_reducible refine x_ret ?_
          with_reducible refine x_c ?_
          obtain ⟨rfl, rfl⟩ := pairp hm
          exact q _ _ _ G15 dk15.held (.bl _)
        · replace hm := iten hm (bF hc)
          with_reducible refine x_or ?_
          with_reducible refine x_test ?_
          refine useEv (.bl (!(eqT handed rule))) (by exact (ev_neqVar (α := (Int × (List (List Int)))) (Evl.ev_var rfl) (Evl.ev_var rfl) (RD.mono G15.sub (mk_tup2 (((((ex1.trans ex2).trans s1).trans ex3).trans s2) _ _ fa3) (.int _) (mk_lst (((((ex1.trans ex2).trans s1).trans ex3).trans s2) _ _ fa4) (Rs_mono ((((ex1.trans ex2).trans s1).trans ex3).trans s2) fr2)))) (RD.mono G15.sub (mk_tup2 (((((ex1.trans ex2).trans s1).trans ex3).trans s2) _ _ fa1) (.int _) (mk_lst (((((ex1.trans ex2).trans s1).trans ex3).trans s2) _ _ fa2) (Rs_mono ((((ex1.trans ex2).trans s1).trans ex3).trans s2) fr1)))))) (fun H9 e4 => ?_)
          have g11 := gr_ex G15.sub e4
          have G16 := G15.step g11
          have o7 := o6.step g11
          have dk16 := dk15.step g11
          refine ⟨_, rfl, ?_⟩
          refine ifD (fun hc => ?_) (fun hc => ?_)
          · replace hm := itep hm hc
            refine iteT ?_
            with_reducible refine x_ret ?_
            with_reducible refine x_c ?_
            obtain ⟨rfl, rfl⟩ := pairp hm
            exact q _ _ _ G16 dk16.held (.bl _)
          · replace hm := iten hm (bF hc)
            with_reducible refine x_test ?_
            refine useEv (.bl (!(eqT stand stand))) (by exact (ev_neqVar (α := (List Int)) (Evl.ev_var rfl) (Evl.ev_var rfl) (RD.mono G16.sub (mk_lst (s2 _ _ fa9) (Rs_mono s2 fr9))) (RD.mono G16.sub (mk_lst (((((ex1.trans ex2).trans s1).trans ex3).trans s2) _ _ fa5) (Rs_mono ((((ex1.trans ex2).trans s1).trans ex3).trans s2) fr3))))) (fun H10 e5 => ?_)
            have g12 := gr_ex G16.sub e5
            have G17 := G16.step g12
            have o8 := o7.step g12
            have dk17 := dk16.step g12
            refine ⟨_, rfl, ?_⟩
            refine ifD (fun hc => ?_) (fun hc => ?_)
            · replace hm := itep hm hc
              with_reducible refine x_ret ?_
              with_reducible refine x_c ?_
              obtain ⟨rfl, rfl⟩ := pairp hm
              exact q _ _ _ G17 dk17.held (.bl _)
            · replace hm := iten hm (bF hc)
              with_reducible refine x_next ?_
              with_reducible refine x_if ?_
              with_reducible refine x_B ?_
              refine useEv (.bl (!(x1).isNone)) (by exact (ev_notN (Evl.ev_var rfl) (RD.mono (ex3.trans s2) d8))) (fun H11 e6 => ?_)
              have g13 := gr_ex G17.sub e6
              have G18 := G17.step g13
              have o9 := o8.step g13
              have dk18 := dk17.step g13
              refine ⟨_, rfl, ?_⟩
              refine ifD (fun hc => ?_) (fun hc => ?_)
              · replace hm := itep hm hc
                with_reducible refine x_seq ?_
                with_reducible refine x_if ?_
                with_reducible refine x_or ?_
                with_reducible refine x_not ?_
                with_reducible refine x_B ?_
                with_reducible refine x_cb ?_
                with_reducible refine x_cons ?_
                refine ⟨_, rfl, ?_⟩
                refine ⟨_, _, _, _, true, rfl, ClsV.ty _, TyX.base (TyOf.lst o9.at_), kit_ty (by decide +kernel), ?_⟩
                refine ⟨_, rfl, ?_⟩
                refine iteF ?_
                with_reducible refine x_test ?_
                with_reducible refine x_op ?_
                with_reducible refine x_lc ?_
                with_reducible refine x_iter ?_
                refine ⟨_, rfl, ?_⟩
                refine ⟨_, rfl, ⟨_, .inl (.inl o9.at_)⟩, fun p4 np4 => ?_⟩
                have g14 := Gr.newO (o := .lst []) G18.sub np4
                have o10 := Ow.new (us := []) G18 np4
                have ne2 := o9.ne_new np4
                have G19 := G18.step g14
                have o11 := o9.step g14
                have dk19 := dk18.step g14
                refine lc_lst (α := Int) (fun (ts3 : List Int) H12 => ∃ (F3 : Hp) (st3 : HdS) (x4 : List Int) (us7 : List V), forK (_law_step_right_c4) ts3 (x4, st3) (_law_step_right_k5 x2 next1) = some (r, stR) ∧ Sub (F2) F3 ∧ Gr A F0 H F3 H12 ∧ Ow H F3 H12 p4 us7 ∧ Rs F3 us7 x4 ∧ Ow H F3 H12 a7 us5 ∧ HdAt A H F3 H12 dk st3) fr11 ⟨F2, _, ([] : List Int), _, hm, (Sub.refl _), G19, o10, Rs_nil, o11, dk19⟩ (fun _ _ h => ?_) (fun t2 ts4 v10 H1 hv2 hW => ?_) (fun H1 hW => ?_)
                · obtain ⟨F9, _, _, _, _, s9, G9, _, _, q9, _⟩ := h
                  exact q9.at_
                · skip
                  obtain ⟨F3, st3, x4, us7, hm, s3, G20, o12, fr12, o13, dk20⟩ := hW
                  obtain ⟨next2, hnx2⟩ : ∃ nx, nx = fun s => forK (_law_step_right_c4) ts4 s (_law_step_right_k5 x2 next1) := ⟨_, rfl⟩
                  have hm : (_law_step_right_c4) (x4, st3) t2 next2 = some (r, stR) := by rw [hnx2]; exact forK_c hm
                  rw [_law_step_right_c4] at hm
                  obtain rfl := int_of hv2
                  with_reducible refine x_gn ?_
                  refine ⟨rfl, ?_⟩
                  with_reducible refine x_B ?_
                  with_reducible refine x_cb ?_
                  with_reducible refine x_cons ?_
                  refine ⟨_, rfl, ?_⟩
                  refine ⟨_, _, _, _, false, rfl, ClsV.ty _, TyX.base (TyOf.int _), kit_ty (by decide +kernel), ?_⟩
                  refine ⟨_, rfl, ?_⟩
                  refine iteF ?_
                  rw [hnx2] at hm
                  exact ⟨F3, _, x4, _, hm, s3, G20, o12, fr12, o13, dk20⟩
                · skip
                  obtain ⟨F3, st3, x4, us7, hm, s4, G21, o14, fr13, o15, dk21⟩ := hW
                  have hm : (_law_step_right_k5 x2 next1) (x4, st3) = some (r, stR) := forK_n hm
                  rw [_law_step_right_k5] at hm
                  with_reducible refine x_lst ?_
                  refine ⟨szle (show 0 ≤ 16777216 from by decide), fun p5 np5 => ?_⟩
                  have fr14 : Rs (α := Int) (F3) [] ([] : (List Int)) := Rs_nil
                  have g15 := Gr.newO (o := .lst []) G21.sub np5
                  have o16 := Ow.new (us := []) G21 np5
                  have ne3 := o14.ne_new np5
                  have ne4 := o15.ne_new np5
                  have G22 := G21.step g15
                  have o17 := o14.step g15
                  have o18 := o15.step g15
                  have dk22 := dk21.step g15
                  refine ⟨_, x4, ([] : (List Int)), Sub.refl _, (mk_lst o17.at_ (Rs_mono G22.sub fr13)), (mk_lst o16.at_ (Rs_mono G22.sub fr14)), ?_⟩
                  refine ⟨_, rfl, ?_⟩
                  refine ifD (fun hc => ?_) (fun hc => ?_)
                  · replace hm := itep hm hc
                    with_reducible refine x_ret ?_
                    with_reducible refine x_c ?_
                    obtain ⟨rfl, rfl⟩ := pairp hm
                    exact q _ _ _ G22 dk22.held (.bl _)
                  · replace hm := iten hm (bF hc)
                    with_reducible refine x_next ?_
                    with_reducible refine x_drop ?_
                    with_reducible refine x_bm ?_
                    refine ⟨_, rfl, ?_⟩
                    refine ⟨.inl ⟨rfl, _, .inl (.inl o18.at_)⟩, ?_⟩
                    with_reducible refine x_cons ?_
                    with_reducible refine x_c ?_
                    obtain ⟨c2, hm⟩ := guardp hm
                    refine ⟨_, _, _, rfl, rfl, o18.at_, szl (by rw [Rs_len (Rs_mono s4 fr11)]; exact c2), ?_⟩
                    have G23 := o18.mutG (o := .lst (us5 ++ [(.int 0)])) G22
                    have o19 := o18.mut (ws := us5 ++ [(.int 0)])
                    have o20 := o17.other (ws := us5 ++ [(.int 0)]) (Ne.symm (Ne.symm ne2))
                    have o21 := o16.other (ws := us5 ++ [(.int 0)]) (Ne.symm (Ne.symm ne4))
                    have dk23 := dk22.mut (ws := us5 ++ [(.int 0)]) o18
                    have fr15 : Rs (α := Int) (F3) (us5 ++ [(.int 0)]) (x2 ++ [(0 : Int)]) := Rs_snoc (Rs_mono s4 fr11) (.int _)
                    rw [hnx1] at hm
                    exact ⟨F3, _, _, _, hm, (s2.trans s4), G23, dk23, rfl⟩
              · replace hm := iten hm (bF hc)
                with_reducible refine x_next ?_
                rw [hnx1] at hm
                exact ⟨F2, _, _, _, hm, s2, G18, dk18, rfl⟩
    · skip
      obtain ⟨F2, st2, y1, y2, hm, s5, G24, dk24, rfl⟩ := hW
      have hm : (_law_step_right_e3 handed stand figure rule x1) st2 = some (r, stR) := forK_n hm
      rw [_law_step_right_e3] at hm
      with_reducible refine x_seq ?_
      with_reducible refine x_drop ?_
      with_reducible refine x_bm ?_
      refine ⟨_, rfl, ?_⟩
      obtain ⟨us8, fa11, fr16⟩ := dk24.at_
      refine ⟨.inl ⟨rfl, _, .inl (.inl fa11)⟩, ?_⟩
      with_reducible refine x_cons ?_
      with_reducible refine x_tup ?_
      with_reducible refine x_cons ?_
      with_reducible refine x_call ?_
      with_reducible refine x_cons ?_
      refine ⟨_, rfl, ?_⟩
      with_reducible refine x_cons ?_
      refine ⟨_, rfl, ?_⟩
      with_reducible refine x_cons ?_
      refine ⟨_, rfl, ?_⟩
      obtain ⟨r4, hr4, hm⟩ := bindp hm
      refine ⟨_, _, _, _, handed, stand, figure, r4, rfl, G24.sub, (mk_tup2 (((((ex1.trans ex2).trans s1).trans ex3).trans s5) _ _ fa3) (.int _) (mk_lst (((((ex1.trans ex2).trans s1).trans ex3).trans s5) _ _ fa4) (Rs_mono ((((ex1.trans ex2).trans s1).trans ex3).trans s5) fr2))), (mk_lst (s5 _ _ fa9) (Rs_mono s5 fr9)), (.int _), hr4, fun N4 H13 v11 g16 d10 fz2 => ?_⟩
      have z1 := Fz.up G24 fz2
      have G25 := G24.step g16
      have dk25 := dk24.step g16
      with_reducible refine x_cons ?_
      refine ⟨_, rfl, ?_⟩
      refine ⟨szle (show 2 ≤ 16777216 from by decide), fun p6 np6 => ?_⟩
      have g17 := Gr.new (o := .tup [v11, v5]) G25.sub np6
      have G26 := G25.step g17
      have dk26 := dk25.step g17
      have fa12 : (upd N4 p6 (.tup [v11, v5])) p6 = some (.tup [v11, v5]) := upd_same
      obtain ⟨us9, fa13, fr17⟩ := dk26.at_
      obtain ⟨c3, hm⟩ := guardp hm
      refine ⟨_, _, _, rfl, rfl, fa13, szl (by rw [Rs_len fr17]; exact c3), ?_⟩
      have G27 := G26.mutA (o := .lst (us9 ++ [(.ref p6)])) ((dk26.ia _).mpr rfl) dk26.nf
      have dk27 := dk26.app (x := (r4, x1)) fr17 (mk_tup2 ((Sub.refl _) _ _ fa12) (RD.mono g17.ex d10) (RD.mono (((ex3.trans s5).trans g16.ex).trans g17.ex) d8))
      with_reducible refine x_ret ?_
      refine useEv (.bl ((eqT stand stand) && (eqT handed rule))) (by exact (Evl.ev_andV (ev_eqVar (α := (List Int)) (Evl.ev_var rfl) (Evl.ev_var rfl) (RD.mono G27.sub (mk_lst (((s5.trans g16.ex).trans g17.ex) _ _ fa9) (Rs_mono ((s5.trans g16.ex).trans g17.ex) fr9))) (RD.mono G27.sub (mk_lst (((((((ex1.trans ex2).trans s1).trans ex3).trans s5).trans g16.ex).trans g17.ex) _ _ fa5) (Rs_mono ((((((ex1.trans ex2).trans s1).trans ex3).trans s5).trans g16.ex).trans g17.ex) fr3)))) (fun _ => (ev_eqVar (α := (Int × (List (List Int)))) (Evl.ev_var rfl) (Evl.ev_var rfl) (RD.mono G27.sub (mk_tup2 (((((((ex1.trans ex2).trans s1).trans ex3).trans s5).trans g16.ex).trans g17.ex) _ _ fa3) (.int _) (mk_lst (((((((ex1.trans ex2).trans s1).trans ex3).trans s5).trans g16.ex).trans g17.ex) _ _ fa4) (Rs_mono ((((((ex1.trans ex2).trans s1).trans ex3).trans s5).trans g16.ex).trans g17.ex) fr2)))) (RD.mono G27.sub (mk_tup2 (((((((ex1.trans ex2).trans s1).trans ex3).trans s5).trans g16.ex).trans g17.ex) _ _ fa1) (.int _) (mk_lst (((((((ex1.trans ex2).trans s1).trans ex3).trans s5).trans g16.ex).trans g17.ex) _ _ fa2) (Rs_mono ((((((ex1.trans ex2).trans s1).trans ex3).trans s5).trans g16.ex).trans g17.ex) fr1)))))))) (fun H14 e7 => ?_)
      have g18 := gr_ex G27.sub e7
      have G28 := G27.step g18
      have dk28 := dk27.step g18
      obtain ⟨rfl, rfl⟩ := pairp hm
      exact q _ _ _ G28 dk28.held (.bl _)


def all_stands (rule : (Int × (List (List Int)))) : Option (List (List Int)) :=
  ((need_rule rule).bind fun r1 => ((stands_of rule).bind fun r2 => (some r2)))
abbrev N_all_stands : List Str := ["rule"]
theorem sc_all_stands : FnScope N_all_stands ["rule"] (defScope s_all_stands) := ⟨rfl, rfl, rfl, by decide +kernel, rfl, by decide +kernel, by decide +kernel⟩
def sp_all_stands : Sp := fun vs H Q _ => ∃ (F : Hp) (v_rule : V) (rule : (Int × (List (List Int)))) (r : (List (List Int))), vs = [v_rule] ∧ Sub F H ∧ R F v_rule rule ∧ all_stands rule = some r ∧ ∀ N H2 v, Gr NA F H N H2 → NR H N v r → Q v H2
theorem ok_all_stands {P : Program} {w : World} {K : PySem.W.Frag} {mg : Str → Option Value} {base : Heap} (T : Txt K mg) : FnOk P w K mg base CX0 7 T.f_all_stands.f T.f_all_stands.fd ["rule"] sp_all_stands := by
  have nd := (sc_all_stands).nd
  refine T.f_all_stands.F.ok sc_all_stands (fun vs H Q E h => ?_) (fun cdv A0 outer s H vs Q E hr h => ?_)
  · obtain ⟨_, _, _, _, rfl, _⟩ := h
    rfl
  obtain ⟨F0, v_rule, rule, r, rfl, s0, f_rule, hm, q⟩ := h
  have G0 : Gr NA F0 H F0 H := Gr.refl s0
  obtain ⟨a1, v1, v2, rfl, fa1, d1, d2⟩ := tup2_of f_rule
  obtain rfl := int_of d1
  obtain ⟨a2, us1, rfl, fa2, fr1⟩ := lst_of d2
  refine ⟨_, (pss_cons (ps_expr (pe_call (ok_need_rule T) (hr.mono (by decide)) (by rfl) T.f_need_rule.g T.f_need_rule.F.kp T.f_need_rule.b .nil pass0 (pa_cons (pv 0) pa_nil))) (pss_one (ps_ret (pe_call (ok_stands_of T) (hr.mono (by decide)) (by rfl) T.f_stands_of.g T.f_stands_of.F.kp T.f_stands_of.b .nil pass0 (pa_cons (pv 0) pa_nil))))), ?_⟩
  rw [all_stands] at hm
  with_reducible refine x_seq ?_
  with_reducible refine x_drop ?_
  with_reducible refine x_call ?_
  with_reducible refine x_cons ?_
  refine ⟨_, rfl, ?_⟩
  obtain ⟨r1, hr1, hm⟩ := bindp hm
  refine ⟨_, _, rule, r1, rfl, G0.sub, (mk_tup2 ((Sub.refl _) _ _ fa1) (.int _) (mk_lst ((Sub.refl _) _ _ fa2) (Rs_mono (Sub.refl _) fr1))), hr1, fun N1 H1 v3 g1 d3  => ?_⟩
  have G1 := G0.step g1
  obtain rfl := non_of d3
  with_reducible refine x_ret ?_
  with_reducible refine x_call ?_
  with_reducible refine x_cons ?_
  refine ⟨_, rfl, ?_⟩
  obtain ⟨r2, hr2, hm⟩ := bindp hm
  refine ⟨_, _, rule, r2, rfl, G1.sub, (mk_tup2 (g1.ex _ _ fa1) (.int _) (mk_lst (g1.ex _ _ fa2) (Rs_mono g1.ex fr1))), hr2, fun N2 H2 v4 g2 d4 => ?_⟩
  have d5 := RN.up (H0 := H) (fun a9 e9 => G1.fresh e9) d4
  have G2 := G1.step g2
  obtain ⟨a3, us2, rfl, fa3, fr3, n01⟩ := NR_lst_of d5
  obtain rfl : _ = r := Option.some.inj hm
  exact q _ _ _ G2 (mkN_lst n01 ((Sub.refl _) _ _ fa3) (NRs_mono (Sub.refl _) fr3))

def _law_right_c3 (r3 : (List (List Int))) : ((List (List Int)) × DkS) → Nat → (((List (List Int)) × DkS) → Option (Bool × HdS × DkS)) → Option (Bool × HdS × DkS)
  | (x2, st2), t2, next2 => ((r3[t2]?).bind fun x3 => (next2 (x2, st2)))
def _law_right_k4 (hst : HdS) (r3 : (List (List Int))) (r2 : (List (List Int))) (r1 : (Int × (List (List Int)))) (rule : (Int × (List (List Int)))) (next1 : (DkS → Option (Bool × HdS × DkS))) : ((List (List Int)) × DkS) → Option (Bool × HdS × DkS)
  | (x2, st2) => (if (!eqT x2 ([] : (List (List Int)))) = true then (some (false, hst, st2)) else ((atI r3 (0 : Int)).bind fun x4 => (if x4.length < 16777216 then (if (!eqT (cutT (r3.set ((ixN r3.length (0 : Int)).getD 0) (x4 ++ [(0 : Int)])) (some (1 : Int)) none) (cutT r2 (some (1 : Int)) none)) = true then (some (false, hst, st2)) else (if (!(eqT r1 rule)) = true then (some (false, hst, st2)) else (if (r3.set ((ixN r3.length (0 : Int)).getD 0) (x4 ++ [(0 : Int)])).length < 16777216 then (next1 st2) else none))) else none)))
def _law_right_b1 (r1 : (Int × (List (List Int)))) (r2 : (List (List Int))) (hst : HdS) (rule : (Int × (List (List Int)))) : DkS → Int → (DkS → Option (Bool × HdS × DkS)) → Option (Bool × HdS × DkS)
  | st1, t1, next1 => ((all_stands r1).bind fun r3 => (if r3.Nodup then (if (!(eqT r3 r2)) = true then (some (false, hst, st1)) else (if (!(eqT r1 rule)) = true then (some (false, hst, st1)) else (forK (_law_right_c3 r3) (List.range r3.length) ([], st1) (_law_right_k4 hst r3 r2 r1 rule next1)))) else none))
def _law_right_b7 (rule : (Int × (List (List Int)))) (r1 : (Int × (List (List Int)))) (t3 : (List Int)) : ((List ((Option (List Int)) × (Option (List Int)))) × DkS) → Int → (((List ((Option (List Int)) × (Option (List Int)))) × DkS) → Option (Bool × HdS × DkS)) → Option (Bool × HdS × DkS)
  | (x6, st6), t4, next4 => ((_law_step_right x6 rule r1 t3 t4).bind fun (r6, x7) => (if (!r6) = true then (some (false, x7, st6)) else (next4 (x7, st6))))
def _law_right_e8 (next3 : (((List ((Option (List Int)) × (Option (List Int)))) × DkS) → Option (Bool × HdS × DkS))) : ((List ((Option (List Int)) × (Option (List Int)))) × DkS) → Option (Bool × HdS × DkS)
  | (x6, st6) => (next3 (x6, st6))
def _law_right_b5 (r2 : (List (List Int))) (r4 : Int) (rule : (Int × (List (List Int)))) (r1 : (Int × (List (List Int)))) : ((List ((Option (List Int)) × (Option (List Int)))) × DkS) → (List Int) → (((List ((Option (List Int)) × (Option (List Int)))) × DkS) → Option (Bool × HdS × DkS)) → Option (Bool × HdS × DkS)
  | (x5, st4), t3, next3 => ((_law_draw st4 ((1 : Int) + ((if (decide ((4 : Int) < (r2.length : Int))) = true then (1 : Int) else 0) * r4))).bind fun (r5, st5) => (if RgD r5 (rule).1 ((1 : Int) + ((if (decide ((4 : Int) < (r2.length : Int))) = true then (1 : Int) else 0) * r4)) then (forK (_law_right_b7 rule r1 t3) (irangeC r5 (rule).1 ((1 : Int) + ((if (decide ((4 : Int) < (r2.length : Int))) = true then (1 : Int) else 0) * r4))) (x5, st5) (_law_right_e8 next3)) else none))
def _law_right_e6 : ((List ((Option (List Int)) × (Option (List Int)))) × DkS) → Option (Bool × HdS × DkS)
  | (x5, st4) => (some (true, x5, st4))
def _law_right_b11 (rule : (Int × (List (List Int)))) (r1 : (Int × (List (List Int)))) (t5 : (List Int)) : ((List ((Option (List Int)) × (Option (List Int)))) × DkS) → Int → (((List ((Option (List Int)) × (Option (List Int)))) × DkS) → Option (Bool × HdS × DkS)) → Option (Bool × HdS × DkS)
  | (x9, st10), t6, next6 => ((_law_step_right x9 rule r1 t5 t6).bind fun (r9, x10) => (if (!r9) = true then (some (false, x10, st10)) else (next6 (x10, st10))))
def _law_right_e12 (next5 : (((List ((Option (List Int)) × (Option (List Int)))) × DkS) → Option (Bool × HdS × DkS))) : ((List ((Option (List Int)) × (Option (List Int)))) × DkS) → Option (Bool × HdS × DkS)
  | (x9, st10) => (next5 (x9, st10))
def _law_right_b9 (r7 : Int) (rule : (Int × (List (List Int)))) (r1 : (Int × (List (List Int)))) : ((List ((Option (List Int)) × (Option (List Int)))) × DkS) → (List Int) → (((List ((Option (List Int)) × (Option (List Int)))) × DkS) → Option (Bool × HdS × DkS)) → Option (Bool × HdS × DkS)
  | (x8, st8), t5, next5 => ((_law_draw st8 ((1 : Int) + ((if false = true then (1 : Int) else 0) * r7))).bind fun (r8, st9) => (if RgD r8 (rule).1 ((1 : Int) + ((if false = true then (1 : Int) else 0) * r7)) then (forK (_law_right_b11 rule r1 t5) (irangeC r8 (rule).1 ((1 : Int) + ((if false = true then (1 : Int) else 0) * r7))) (x8, st9) (_law_right_e12 next5)) else none))
def _law_right_e10 : ((List ((Option (List Int)) × (Option (List Int)))) × DkS) → Option (Bool × HdS × DkS)
  | (x8, st8) => (some (true, x8, st8))
def _law_right_e2 (rule : (Int × (List (List Int)))) (r2 : (List (List Int))) (r1 : (Int × (List (List Int)))) (hst : HdS) : DkS → Option (Bool × HdS × DkS)
  | st1 => (if (decide ((6 : Int) < (rule).1)) = true then ((_law_draw st1 (3 : Int)).bind fun (r4, st3) => (if Mv (if (decide ((4 : Int) < (r2.length : Int))) = true then (1 : Int) else 0) r4 then (forK (_law_right_b5 r2 r4 rule r1) (r2) (hst, st3) (_law_right_e6)) else none)) else ((_law_draw st1 (3 : Int)).bind fun (r7, st7) => (if Mv (if false = true then (1 : Int) else 0) r7 then (forK (_law_right_b9 r7 rule r1) (r2) (hst, st7) (_law_right_e10)) else none)))
def _law_right (st : DkS) (hst : HdS) (rule : (Int × (List (List Int)))) : Option (Bool × HdS × DkS) :=
  ((_law_own rule).bind fun r1 => ((_law_due ((rule).2)).bind fun r2 => (forK (_law_right_b1 r1 r2 hst rule) (irange 0 (2 : Int)) st (_law_right_e2 rule r2 r1 hst))))
abbrev N__law_right : List Str := ["deck", "rule", "held", "handed", "due", "turn", "found", "by", "stand", "figure", "one"]
theorem sc__law_right : FnScope N__law_right ["deck", "rule", "held"] (defScope s__law_right) := ⟨rfl, rfl, rfl, by decide +kernel, rfl, by decide +kernel, by decide +kernel⟩
def sp__law_right : Sp := fun vs H Q _ => ∃ (F : Hp) (A : Addr → Prop) (dk : Addr) (st : DkS) (hd : Addr) (hst : HdS) (v_rule : V) (rule : (Int × (List (List Int)))) (r : Bool) (hstR : HdS) (stR : DkS), vs = [.ref dk, v_rule, .ref hd] ∧ Sub F H ∧ Deck A H dk st ∧ (∀ a, A a → F a = none) ∧ HeldQ A F H hd hst ∧ R F v_rule rule ∧ _law_right st hst rule = some (r, hstR, stR) ∧ ∀ N H2 v, Gr (AH A hd) F H N H2 → Deck A H2 dk stR → HeldQ A N H2 hd hstR → R N v r → Q v H2
theorem ok__law_right {P : Program} {w : World} {K : PySem.W.Frag} {mg : Str → Option Value} {base : Heap} (T : Txt K mg) : FnOk P w K mg base CX0 9 T.f__law_right.f T.f__law_right.fd ["deck", "rule", "held"] sp__law_right := by
  have nd := (sc__law_right).nd
  refine T.f__law_right.F.ok sc__law_right (fun vs H Q E h => ?_) (fun cdv A0 outer s H vs Q E hr h => ?_)
  · obtain ⟨_, _, _, _, _, _, _, _, _, _, _, rfl, _⟩ := h
    rfl
  obtain ⟨F0, A, dk, st, hd, hst, v_rule, rule, r, hstR, stR, rfl, s0, hdk, hnf, hhd, f_rule, hm, q⟩ := h
  have G0 : Gr (AH A hd) F0 H F0 H := Gr.refl s0
  have dk0 := DkAt.mk0 hdk hnf
  obtain ⟨us0, hp0, hf0⟩ := OwP.mk0 hhd
  obtain ⟨a1, v1, v2, rfl, fa1, d1, d2⟩ := tup2_of f_rule
  obtain rfl := int_of d1
  obtain ⟨a2, us1, rfl, fa2, fr1⟩ := lst_of d2
  refine ⟨_, (pss_cons (ps_set (i := 3) nd rfl (by first | exact Or.inl rfl | exact Or.inr rfl) (pe_call (ok__law_own T) (hr.mono (by decide)) (by rfl) T.f__law_own.g T.f__law_own.F.kp T.f__law_own.b .nil pass0 (pa_cons (pv 1) pa_nil))) (pss_cons (ps_set (i := 4) nd rfl (by first | exact Or.inl rfl | exact Or.inr rfl) (pe_call (ok__law_due T) (hr.mono (by decide)) (by rfl) T.f__law_due.g T.f__law_due.F.kp T.f__law_due.b .nil pass0 (pa_cons (pe_ix (r := rIxT K) ix_tup (pv 1) pe_int (fun _ _ => rfl)) pa_nil))) (pss_cons (ps_for PassesOwn.never rfl (pi_range1 (by rfl) T.z_range (pa_cons pe_int pa_nil)) (pg_name (i := 5) nd rfl (by first | exact Or.inl rfl | exact Or.inr rfl)) (pss_cons (ps_set (i := 6) nd rfl (by first | exact Or.inl rfl | exact Or.inr rfl) (pe_call (ok_all_stands T) (hr.mono (by decide)) (by rfl) T.f_all_stands.g T.f_all_stands.F.kp T.f_all_stands.b .nil pass0 (pa_cons (pv 3) pa_nil))) (pss_cons (ps_if (PW.pt (pw_or (pt_not (pt_val (pe_callB (r := rIsi K) call_isi (by rfl) T.z_isinstance (by decide +kernel) (pa_cons (pv 6) (pa_cons (pe_bltn (v := .ty "list") (by rfl) T.z_list (by decide +kernel) rfl) pa_nil))))) (pw_or (pt_cmpR (op_neT (α := (List (List Int))) (by decide) (hu64 hr)) (pv 6) (pv 4) (nomark _)) (pw_or1 (pt_cmpR (op_neT (α := (Int × (List (List Int)))) (by decide) (hu64 hr)) (pv 3) (pv 1) (nomark _)))))) (pss_one (ps_ret pe_bl)) pss_nil) (pss_cons (ps_if (pt_cmpR (op_neT (α := (List (List Int))) (by decide) (hu64 hr)) (pe_lc (own := [("one", 10)]) (g := (gName 10)) rfl nd (pi_list (pv 6)) (blkOk_by (own := [("one", 10)]) (N := N__law_right) (sc := defScope s__law_right) (by decide +kernel)) (fun _ _ _ _ _ => pg_name (i := 10) nd rfl (Or.inl rfl)) (fun _ _ _ _ _ => pts_one (pt_not (pt_val (pe_callB (r := rIsi K) call_isi (by rfl) T.z_isinstance (by decide +kernel) (pa_cons (pv 10) (pa_cons (pe_bltn (v := .ty "list") (by rfl) T.z_list (by decide +kernel) rfl) pa_nil)))))) (fun _ _ _ _ _ => (pv 10))) (pe_lst pa_nil) (nomark _)) (pss_one (ps_ret pe_bl)) pss_nil) (pss_cons (ps_expr (pe_bm PySem.F.plainAttrs_list PySem.F.slot_list_append PySem.F.type_list_append mt_append (pe_ix (r := rIxL K) ix_list (pv 6) pe_int (fun _ _ => rfl)) (pa_cons pe_int pa_nil))) (pss_cons (ps_if (PW.pt (pw_or (pt_cmpR (op_neT (α := (List (List Int))) (by decide) (hu64 hr)) (pe_slice (r := rSlL K) sl_list (pv 6) (po_some pe_int) po_none) (pe_slice (r := rSlL K) sl_list (pv 4) (po_some pe_int) po_none) (nomark _)) (pw_or1 (pt_cmpR (op_neT (α := (Int × (List (List Int)))) (by decide) (hu64 hr)) (pv 3) (pv 1) (nomark _))))) (pss_one (ps_ret pe_bl)) pss_nil) (pss_one (ps_expr (pe_bm PySem.F.plainAttrs_list PySem.F.slot_list_append PySem.F.type_list_append mt_append (pv 6) (pa_cons (pe_lst pa_nil) pa_nil)))))))))) (pss_cons (ps_set (i := 7) nd rfl (by first | exact Or.inl rfl | exact Or.inr rfl) (pe_op op_add pe_int (pe_op op_mulW (pe_callTy call_int1 (by rfl) T.z_int (by decide +kernel) (pa_cons (pe_and (pe_cmp (pc_gt (pe_ix (r := rIxT K) ix_tup (pv 1) pe_int (fun _ _ => rfl)) pe_int)) (pe_one (pe_cmp (pc_gt (pe_callB (r := rLenT K) call_lenT (by rfl) T.z_len PySem.boot_len (pa_cons (pv 4) pa_nil)) pe_int)))) pa_nil)) (pe_call (ok__law_draw T) (hr.mono (by decide)) (by rfl) T.f__law_draw.g T.f__law_draw.F.kp T.f__law_draw.b .nil pass0 (pa_cons (pv 0) (pa_cons pe_int pa_nil)))))) (pss_cons (ps_for PassesOwn.never rfl (pi_list (pv 4)) (pg_name (i := 8) nd rfl (by first | exact Or.inl rfl | exact Or.inr rfl)) (pss_one (ps_for PassesOwn.never rfl (pi_range3 (by rfl) T.z_range (pa_cons (pe_call (ok__law_draw T) (hr.mono (by decide)) (by rfl) T.f__law_draw.g T.f__law_draw.F.kp T.f__law_draw.b .nil pass0 (pa_cons (pv 0) (pa_cons (pv 7) pa_nil))) (pa_cons (pe_ix (r := rIxT K) ix_tup (pv 1) pe_int (fun _ _ => rfl)) (pa_cons (pv 7) pa_nil)))) (pg_name (i := 9) nd rfl (by first | exact Or.inl rfl | exact Or.inr rfl)) (pss_one (ps_if (pt_not (pt_val (pe_call (ok__law_step_right T) (hr.mono (by decide)) (by rfl) T.f__law_step_right.g T.f__law_step_right.F.kp T.f__law_step_right.b .nil pass0 (pa_cons (pv 1) (pa_cons (pv 3) (pa_cons (pv 8) (pa_cons (pv 9) (pa_cons (pv 2) pa_nil)))))))) (pss_one (ps_ret pe_bl)) pss_nil))))) (pss_one (ps_ret pe_bl))))))), ?_⟩
  rw [_law_right] at hm
  with_reducible refine x_seq ?_
  with_reducible refine x_asg ?_
  with_reducible refine x_call ?_
  with_reducible refine x_cons ?_
  refine ⟨_, rfl, ?_⟩
  obtain ⟨r1, hr1, hm⟩ := bindp hm
  refine ⟨_, _, rule, r1, rfl, G0.sub, (mk_tup2 ((Sub.refl _) _ _ fa1) (.int _) (mk_lst ((Sub.refl _) _ _ fa2) (Rs_mono (Sub.refl _) fr1))), hr1, fun N1 H1 v3 g1 d3  => ?_⟩
  have G1 := G0.step g1
  have o1 := hp0.step g1
  have dk1 := dk0.step g1
  obtain ⟨a3, v4, v5, rfl, fa3, d4, d5⟩ := tup2_of d3
  obtain rfl := int_of d4
  obtain ⟨a4, us2, rfl, fa4, fr2⟩ := lst_of d5
  with_reducible refine x_gn ?_
  with_reducible refine x_seq ?_
  with_reducible refine x_asg ?_
  with_reducible refine x_call ?_
  with_reducible refine x_cons ?_
  with_reducible refine x_op ?_
  refine ⟨_, rfl, ?_⟩
  refine ⟨_, _, _, _, rfl, rfl, .inl (.inl ((g1.ex.trans G1.sub) _ _ fa1)), atI_nat (j := 1) rfl, ?_⟩
  obtain ⟨r2, hr2, hm⟩ := bindp hm
  refine ⟨_, _, (rule).2, r2, rfl, G1.sub, (mk_lst (g1.ex _ _ fa2) (Rs_mono g1.ex fr1)), hr2, fun N2 H2 v6 g2 d6  => ?_⟩
  have G2 := G1.step g2
  have o2 := o1.step g2
  have dk2 := dk1.step g2
  obtain ⟨a5, us3, rfl, fa5, fr3⟩ := lst_of d6
  with_reducible refine x_gn ?_
  with_reducible refine x_seq ?_
  with_reducible refine x_for ?_
  with_reducible refine x_rng1 ?_
  with_reducible refine x_cons ?_
  with_reducible refine x_c ?_
  refine ⟨_, rfl, (show Rg1 (2 : Int) from by decide).lo, (show Rg1 (2 : Int) from by decide).hi, ?_⟩
  refine for_rng (lo := 0) (hi := (2 : Int)) (by rw [Int.sub_zero]) (fun (ts1 : List Int) σ H3 => ∃ (F1 : Hp) (st1 : DkS) (y1 : Option V) (y2 : Option V), forK (_law_right_b1 r1 r2 hst rule) ts1 st1 (_law_right_e2 rule r2 r1 hst) = some (r, hstR, stR) ∧ Sub (N2) F1 ∧ Gr (AH A hd) F0 H F1 H3 ∧ OwP A H F1 H3 hd us0 ∧ DkAt A H F1 H3 dk st1 ∧ σ = [some (.ref dk), some (.ref a1), some (.ref hd), some (.ref a3), some (.ref a5), y2, y1, none, none, none, none]) ⟨N2, _, _, _, hm, (Sub.refl _), G2, o2, dk2, rfl⟩ (fun t1 ts2 σ H1 hW => ?_) (fun σ H1 hW => ?_)
  · skip
    obtain ⟨F1, st1, y1, y2, hm, s1, G3, o3, dk3, rfl⟩ := hW
    obtain ⟨next1, hnx1⟩ : ∃ nx, nx = fun s => forK (_law_right_b1 r1 r2 hst rule) ts2 s (_law_right_e2 rule r2 r1 hst) := ⟨_, rfl⟩
    have hm : (_law_right_b1 r1 r2 hst rule) st1 t1 next1 = some (r, hstR, stR) := by rw [hnx1]; exact forK_c hm
    rw [_law_right_b1] at hm
    with_reducible refine x_gn ?_
    with_reducible refine x_seq ?_
    with_reducible refine x_asg ?_
    with_reducible refine x_call ?_
    with_reducible refine x_cons ?_
    refine ⟨_, rfl, ?_⟩
    obtain ⟨r3, hr3, hm⟩ := bindp hm
    refine ⟨_, _, r1, r3, rfl, G3.sub, (mk_tup2 ((g2.ex.trans s1) _ _ fa3) (.int _) (mk_lst ((g2.ex.trans s1) _ _ fa4) (Rs_mono (g2.ex.trans s1) fr2))), hr3, fun N3 H4 v8 g3 d7 => ?_⟩
    obtain ⟨a6, us4, rfl, fa6, fr4, n01⟩ := NR_lst_of (id d7)
    obtain ⟨c1, hm⟩ := guardp hm
    obtain ⟨as1, o4, fz1⟩ := OwL.of G3 g3 d7 c1
    have g4 := g3.flat G3.sub
    have G4 := G3.step g4
    have o5 := o3.step g4
    have dk4 := dk3.step g4
    with_reducible refine x_gn ?_
    with_reducible refine x_seq ?_
    with_reducible refine x_if ?_
    with_reducible refine x_or ?_
    with_reducible refine x_not ?_
    with_reducible refine x_B ?_
    with_reducible refine x_cb ?_
    with_reducible refine x_cons ?_
    refine ⟨_, rfl, ?_⟩
    refine ⟨_, _, _, _, true, rfl, ClsV.ty _, TyX.base (TyOf.lst o4.at_), kit_ty (by decide +kernel), ?_⟩
    refine ⟨_, rfl, ?_⟩
    refine iteF ?_
    with_reducible refine x_or ?_
    with_reducible refine x_test ?_
    refine useEv (.bl (!(eqT r3 r2))) (by exact (ev_neqVar (α := (List (List Int))) (Evl.ev_var rfl) (Evl.ev_var rfl) o4.rd (RD.mono G4.sub (mk_lst (s1 _ _ fa5) (Rs_mono s1 fr3))))) (fun H5 e1 => ?_)
    have g5 := gr_ex G4.sub e1
    have G5 := G4.step g5
    have o6 := o5.step g5
    have o7 := o4.step g5
    have dk5 := dk4.step g5
    refine ⟨_, rfl, ?_⟩
    refine ifD (fun hc => ?_) (fun hc => ?_)
    · replace hm := itep hm hc
      refine iteT ?_
      with_reducible refine x_ret ?_
      with_reducible refine x_c ?_
      obtain ⟨rfl, h9⟩ := pairp hm
      obtain ⟨rfl, rfl⟩ := Prod.mk.inj h9
      exact q _ _ _ G5 dk5.at_ (o6.held (Rs_mono s1 (Rs_mono g2.ex (Rs_mono g1.ex hf0)))) (.bl _)
    · replace hm := iten hm (bF hc)
      with_reducible refine x_test ?_
      refine useEv (.bl (!(eqT r1 rule))) (by exact (ev_neqVar (α := (Int × (List (List Int)))) (Evl.ev_var rfl) (Evl.ev_var rfl) (RD.mono G5.sub (mk_tup2 ((g2.ex.trans s1) _ _ fa3) (.int _) (mk_lst ((g2.ex.trans s1) _ _ fa4) (Rs_mono (g2.ex.trans s1) fr2)))) (RD.mono G5.sub (mk_tup2 (((g1.ex.trans g2.ex).trans s1) _ _ fa1) (.int _) (mk_lst (((g1.ex.trans g2.ex).trans s1) _ _ fa2) (Rs_mono ((g1.ex.trans g2.ex).trans s1) fr1)))))) (fun H6 e2 => ?_)
      have g6 := gr_ex G5.sub e2
      have G6 := G5.step g6
      have o8 := o6.step g6
      have o9 := o7.step g6
      have dk6 := dk5.step g6
      refine ⟨_, rfl, ?_⟩
      refine ifD (fun hc => ?_) (fun hc => ?_)
      · replace hm := itep hm hc
        with_reducible refine x_ret ?_
        with_reducible refine x_c ?_
        obtain ⟨rfl, h9⟩ := pairp hm
        obtain ⟨rfl, rfl⟩ := Prod.mk.inj h9
        exact q _ _ _ G6 dk6.at_ (o8.held (Rs_mono s1 (Rs_mono g2.ex (Rs_mono g1.ex hf0)))) (.bl _)
      · replace hm := iten hm (bF hc)
        with_reducible refine x_next ?_
        with_reducible refine x_seq ?_
        with_reducible refine x_if ?_
        with_reducible refine x_test ?_
        with_reducible refine x_op ?_
        with_reducible refine x_lc ?_
        with_reducible refine x_iter ?_
        refine ⟨_, rfl, ?_⟩
        refine ⟨_, rfl, ⟨_, .inl (.inl o9.at_)⟩, fun p1 np1 => ?_⟩
        have g7 := Gr.newO (o := .lst []) G6.sub np1
        have o10 := Ow.new (us := []) G6 np1
        have ne2 := o8.ne_new np1
        have ne3 := o9.ne_new np1
        have G7 := G6.step g7
        have o11 := o8.step g7
        have o12 := o9.step g7
        have dk7 := dk6.step g7
        refine lc_ll (as := as1) (fun (ts3 : List Nat) H7 => ∃ (F2 : Hp) (st2 : DkS) (x2 : List (List Int)) (us6 : List V), forK (_law_right_c3 r3) ts3 (x2, st2) (_law_right_k4 hst r3 r2 r1 rule next1) = some (r, hstR, stR) ∧ Sub (F1) F2 ∧ Gr (AH A hd) F0 H F2 H7 ∧ Ow H F2 H7 p1 us6 ∧ Rs F2 us6 x2 ∧ OwP A H F2 H7 hd us0 ∧ OwL H F2 H7 a6 as1 r3 ∧ DkAt A H F2 H7 dk st2) ⟨F1, _, ([] : List (List Int)), _, (by rw [o12.len]; exact hm), (Sub.refl _), G7, o10, Rs_nil, o11, o12, dk7⟩ (fun _ _ h => ?_) (fun t2 ts4 v9 H1 hv2 hW => ?_) (fun H1 hW => ?_)
        · obtain ⟨F9, _, _, _, _, s9, G9, _, _, _, q9, _⟩ := h
          exact q9.at_
        · skip
          obtain ⟨F2, st2, x2, us6, hm, s2, G8, o13, fr5, o14, o15, dk8⟩ := hW
          obtain ⟨next2, hnx2⟩ : ∃ nx, nx = fun s => forK (_law_right_c3 r3) ts4 s (_law_right_k4 hst r3 r2 r1 rule next1) := ⟨_, rfl⟩
          have hm : (_law_right_c3 r3) (x2, st2) t2 next2 = some (r, hstR, stR) := by rw [hnx2]; exact forK_c hm
          rw [_law_right_c3] at hm
          obtain ⟨x3, hx1, hm⟩ := bindp hm
          with_reducible refine x_gn ?_
          refine ⟨rfl, ?_⟩
          with_reducible refine x_not ?_
          with_reducible refine x_B ?_
          with_reducible refine x_cb ?_
          with_reducible refine x_cons ?_
          refine ⟨_, rfl, ?_⟩
          refine ⟨_, _, _, _, true, rfl, ClsV.ty _, TyX.base (TyOf.lst (o15.item hv2 hx1)), kit_ty (by decide +kernel), ?_⟩
          refine ⟨_, rfl, ?_⟩
          refine iteF ?_
          rw [hnx2] at hm
          exact ⟨F2, _, x2, _, hm, s2, G8, o13, fr5, o14, o15, dk8⟩
        · skip
          obtain ⟨F2, st2, x2, us6, hm, s3, G9, o16, fr6, o17, o18, dk9⟩ := hW
          have hm : (_law_right_k4 hst r3 r2 r1 rule next1) (x2, st2) = some (r, hstR, stR) := forK_n hm
          rw [_law_right_k4] at hm
          with_reducible refine x_lst ?_
          refine ⟨szle (show 0 ≤ 16777216 from by decide), fun p2 np2 => ?_⟩
          have fr7 : Rs (α := (List Int)) (F2) [] ([] : (List (List Int))) := Rs_nil
          have g8 := Gr.newO (o := .lst []) G9.sub np2
          have o19 := Ow.new (us := []) G9 np2
          have ne4 := o16.ne_new np2
          have ne5 := o17.ne_new np2
          have ne6 := o18.ne_new np2
          have G10 := G9.step g8
          have o20 := o16.step g8
          have o21 := o17.step g8
          have o22 := o18.step g8
          have dk10 := dk9.step g8
          refine ⟨_, x2, ([] : (List (List Int))), Sub.refl _, (mk_lst o20.at_ (Rs_mono G10.sub fr6)), (mk_lst o19.at_ (Rs_mono G10.sub fr7)), ?_⟩
          refine ⟨_, rfl, ?_⟩
          refine ifD (fun hc => ?_) (fun hc => ?_)
          · replace hm := itep hm hc
            with_reducible refine x_ret ?_
            with_reducible refine x_c ?_
            obtain ⟨rfl, h9⟩ := pairp hm
            obtain ⟨rfl, rfl⟩ := Prod.mk.inj h9
            exact q _ _ _ G10 dk10.at_ (o21.held (Rs_mono s3 (Rs_mono s1 (Rs_mono g2.ex (Rs_mono g1.ex hf0))))) (.bl _)
          · replace hm := iten hm (bF hc)
            with_reducible refine x_next ?_
            with_reducible refine x_seq ?_
            with_reducible refine x_drop ?_
            with_reducible refine x_bm ?_
            with_reducible refine x_op ?_
            refine ⟨_, rfl, ?_⟩
            with_reducible refine x_c ?_
            obtain ⟨x4, hx2, hm⟩ := bindp hm
            obtain ⟨a7, hy1, hj1, hu1⟩ := o22.ix2 hx2
            refine ⟨_, _, _, _, rfl, rfl, .inl (.inl o22.at_), hu1, ?_⟩
            refine ⟨.inl ⟨rfl, _, .inl (.inl (o22.item hj1 hy1))⟩, ?_⟩
            with_reducible refine x_cons ?_
            with_reducible refine x_c ?_
            obtain ⟨c2, hm⟩ := guardp hm
            refine ⟨_, _, _, rfl, rfl, (o22.item hj1 hy1), szl (by rw [List.length_map]; exact c2), ?_⟩
            have hx3 := o22.set_get (y := (x4 ++ [(0 : Int)])) hj1
            have G11 := o22.mutG (o := .lst (x4.map V.int ++ [(.int 0)])) (OwL.memA hj1) G10
            have o23 := o22.put (us := x4.map V.int ++ [(.int 0)]) (y := (x4 ++ [(0 : Int)])) hj1 (by simp)
            have o24 := o20.other (ws := x4.map V.int ++ [(.int 0)]) (OwL.ne_it ne3 (OwL.memA hj1))
            have o25 := o21.other (xs := x4.map V.int ++ [(.int 0)]) (OwL.ne_it (o21.ne_l o22) (OwL.memA hj1))
            have o26 := o19.other (ws := x4.map V.int ++ [(.int 0)]) (OwL.ne_it ne6 (OwL.memA hj1))
            have dk11 := dk10.mutL (ws := x4.map V.int ++ [(.int 0)]) o22 (OwL.memA hj1)
            with_reducible refine x_seq ?_
            with_reducible refine x_if ?_
            with_reducible refine x_or ?_
            with_reducible refine x_test ?_
            with_reducible refine x_op ?_
            with_reducible refine x_sl ?_
            refine ⟨_, rfl, ?_⟩
            with_reducible refine x_part ?_
            with_reducible refine x_c ?_
            refine ⟨_, rfl, ?_⟩
            with_reducible refine x_nopart ?_
            refine ⟨_, _, rfl, .inl (.inl o23.at_), fun p3 np3 => ?_⟩
            have g9 := Gr.newO (o := .lst (cutV (as1.map V.ref) (some (1 : Int)) none)) G11.sub np3
            have G12 := G11.step g9
            have o27 := o24.step g9
            have o28 := o25.step g9
            have o29 := o23.step g9
            have o30 := o26.step g9
            have dk12 := dk11.step g9
            have d8 := o29.cut
            with_reducible refine x_sl ?_
            refine ⟨_, rfl, ?_⟩
            with_reducible refine x_part ?_
            with_reducible refine x_c ?_
            refine ⟨_, rfl, ?_⟩
            with_reducible refine x_nopart ?_
            refine ⟨_, _, rfl, .inl (.inl (((s1.trans s3).trans G12.sub) _ _ fa5)), fun p4 np4 => ?_⟩
            have fr8 : Rs (α := (List Int)) (F2) (cutV us3 (some (1 : Int)) none) (cutT r2 (some (1 : Int)) none) := Rs_cut (Rs_mono (s1.trans s3) fr3)
            have g10 := Gr.newO (o := .lst (cutV us3 (some (1 : Int)) none)) G12.sub np4
            have o31 := Ow.new (us := (cutV us3 (some (1 : Int)) none)) G12 np4
            have ne7 := o27.ne_new np4
            have ne8 := o28.ne_new np4
            have ne9 := o29.ne_new np4
            have ne10 := o30.ne_new np4
            have G13 := G12.step g10
            have o32 := o27.step g10
            have o33 := o28.step g10
            have o34 := o29.step g10
            have o35 := o30.step g10
            have d9 := RD.mono g10.subN d8
            have dk13 := dk12.step g10
            refine ⟨_, (cutT (r3.set ((ixN r3.length (0 : Int)).getD 0) (x4 ++ [(0 : Int)])) (some (1 : Int)) none), (cutT r2 (some (1 : Int)) none), Sub.refl _, d9, (mk_lst o31.at_ (Rs_mono G13.sub fr8)), ?_⟩
            refine ⟨_, rfl, ?_⟩
            refine ifD (fun hc => ?_) (fun hc => ?_)
            · replace hm := itep hm hc
              refine iteT ?_
              with_reducible refine x_ret ?_
              with_reducible refine x_c ?_
              obtain ⟨rfl, h9⟩ := pairp hm
              obtain ⟨rfl, rfl⟩ := Prod.mk.inj h9
              exact q _ _ _ G13 dk13.at_ (o33.held (Rs_mono s3 (Rs_mono s1 (Rs_mono g2.ex (Rs_mono g1.ex hf0))))) (.bl _)
            · replace hm := iten hm (bF hc)
              with_reducible refine x_test ?_
              refine useEv (.bl (!(eqT r1 rule))) (by exact (ev_neqVar (α := (Int × (List (List Int)))) (Evl.ev_var rfl) (Evl.ev_var rfl) (RD.mono G13.sub (mk_tup2 (((g2.ex.trans s1).trans s3) _ _ fa3) (.int _) (mk_lst (((g2.ex.trans s1).trans s3) _ _ fa4) (Rs_mono ((g2.ex.trans s1).trans s3) fr2)))) (RD.mono G13.sub (mk_tup2 ((((g1.ex.trans g2.ex).trans s1).trans s3) _ _ fa1) (.int _) (mk_lst ((((g1.ex.trans g2.ex).trans s1).trans s3) _ _ fa2) (Rs_mono (((g1.ex.trans g2.ex).trans s1).trans s3) fr1)))))) (fun H8 e3 => ?_)
              have g11 := gr_ex G13.sub e3
              have G14 := G13.step g11
              have o36 := o32.step g11
              have o37 := o33.step g11
              have o38 := o34.step g11
              have o39 := o35.step g11
              have o40 := o31.step g11
              have d10 := RD.mono g11.subN d9
              have dk14 := dk13.step g11
              refine ⟨_, rfl, ?_⟩
              refine ifD (fun hc => ?_) (fun hc => ?_)
              · replace hm := itep hm hc
                with_reducible refine x_ret ?_
                with_reducible refine x_c ?_
                obtain ⟨rfl, h9⟩ := pairp hm
                obtain ⟨rfl, rfl⟩ := Prod.mk.inj h9
                exact q _ _ _ G14 dk14.at_ (o37.held (Rs_mono s3 (Rs_mono s1 (Rs_mono g2.ex (Rs_mono g1.ex hf0))))) (.bl _)
              · replace hm := iten hm (bF hc)
                with_reducible refine x_next ?_
                with_reducible refine x_drop ?_
                with_reducible refine x_bm ?_
                refine ⟨_, rfl, ?_⟩
                refine ⟨.inl ⟨rfl, _, .inl (.inl o38.at_)⟩, ?_⟩
                with_reducible refine x_cons ?_
                with_reducible refine x_lst ?_
                refine ⟨szle (show 0 ≤ 16777216 from by decide), fun p5 np5 => ?_⟩
                have fr9 : Rs (α := Int) (F2) [] ([] : (List Int)) := Rs_nil
                have g12 := Gr.newO (o := .lst []) G14.sub np5
                have o41 := Ow.new (us := []) G14 np5
                have ne11 := o36.ne_new np5
                have ne12 := o37.ne_new np5
                have ne13 := o38.ne_new np5
                have ne14 := o39.ne_new np5
                have ne15 := o40.ne_new np5
                have G15 := G14.step g12
                have o42 := o36.step g12
                have o43 := o37.step g12
                have o44 := o38.step g12
                have o45 := o39.step g12
                have o46 := o40.step g12
                have d11 := RD.mono g12.subN d10
                have dk15 := dk14.step g12
                obtain ⟨c3, hm⟩ := guardp hm
                refine ⟨_, _, _, rfl, rfl, o44.at_, szl (by rw [List.length_map, o44.len]; exact c3), ?_⟩
                have ne16 := OwL.ne_push ne3 (Ne.symm (Ne.symm ne11))
                have ne17 := OwL.ne_push (o43.ne_l o44) (Ne.symm (Ne.symm ne12))
                have ne18 := OwL.ne_push ne6 (Ne.symm (Ne.symm ne14))
                have ne19 := OwL.ne_push ne9 (Ne.symm (Ne.symm ne15))
                have G16 := o44.mutG (o := .lst ((as1.map V.ref) ++ [(.ref p5)])) (List.mem_cons_self) G15
                have o47 := o44.push o41 ne13 fr9
                have o48 := o42.other (ws := (as1.map V.ref) ++ [(.ref p5)]) (OwL.ne_it ne3 (List.mem_cons_self))
                have o49 := o43.other (xs := (as1.map V.ref) ++ [(.ref p5)]) (OwL.ne_it (o43.ne_l o44) (List.mem_cons_self))
                have o50 := o45.other (ws := (as1.map V.ref) ++ [(.ref p5)]) (OwL.ne_it ne6 (List.mem_cons_self))
                have o51 := o46.other (ws := (as1.map V.ref) ++ [(.ref p5)]) (OwL.ne_it ne9 (List.mem_cons_self))
                have dk16 := dk15.mutL (ws := (as1.map V.ref) ++ [(.ref p5)]) o44 (List.mem_cons_self)
                rw [hnx1] at hm
                exact ⟨F2, _, _, _, hm, (s1.trans s3), G16, o49, dk16, rfl⟩
  · skip
    obtain ⟨F1, st1, y1, y2, hm, s4, G17, o52, dk17, rfl⟩ := hW
    have hm : (_law_right_e2 rule r2 r1 hst) st1 = some (r, hstR, stR) := forK_n hm
    rw [_law_right_e2] at hm
    with_reducible refine x_seq ?_
    with_reducible refine x_asg ?_
    with_reducible refine x_op ?_
    with_reducible refine x_c ?_
    with_reducible refine x_op ?_
    with_reducible refine x_cb ?_
    with_reducible refine x_cons ?_
    with_reducible refine x_andV ?_
    with_reducible refine x_cmp ?_
    with_reducible refine x_op ?_
    refine ⟨_, rfl, ?_⟩
    refine ⟨_, _, _, _, rfl, rfl, .inl (.inl ((((g1.ex.trans g2.ex).trans s4).trans G17.sub) _ _ fa1)), atI_nat (j := 0) rfl, ?_⟩
    with_reducible refine x_c ?_
    refine ⟨_, _, rfl, rfl, ?_⟩
    refine ⟨_, rfl, ?_⟩
    refine ifD (fun hc => ?_) (fun hc => ?_)
    · replace hm := itep hm hc
      refine useEv (.bl (decide ((4 : Int) < (r2.length : Int)))) (by exact (ev_cmp (ev_lenT (Evl.ev_var rfl) ((s4.trans G17.sub) _ _ fa5) (Rs_mono s4 fr3)) Evl.ev_c)) (fun H9 e4 => ?_)
      have g13 := gr_ex G17.sub e4
      have G18 := G17.step g13
      have o53 := o52.step g13
      have dk18 := dk17.step g13
      refine .inr ⟨_, rfl, ?_⟩
      with_reducible refine x_call ?_
      with_reducible refine x_cons ?_
      refine ⟨_, rfl, ?_⟩
      with_reducible refine x_cons ?_
      with_reducible refine x_c ?_
      obtain ⟨⟨r4, st3⟩, hr4, hm⟩ := bindp hm
      refine ⟨_, _, _, _, _, (3 : Int), r4, st3, rfl, G18.sub, dk18.at_, dk18.nf, (.int _), hr4, fun N4 H10 v10 g14 dk19 d12 => ?_⟩
      have G19 := G18.trans g14.wid
      have o54 := o53.stepA g14
      have dk20 := dk18.stepA g14 dk19
      obtain rfl := int_of d12
      obtain ⟨c4, hm⟩ := guardp hm
      refine ⟨_, _, rfl, rfl, c4.w, ?_⟩
      refine ⟨_, _, rfl, rfl, ?_⟩
      with_reducible refine x_gn ?_
      with_reducible refine x_seq ?_
      with_reducible refine x_for ?_
      with_reducible refine x_iter ?_
      refine ⟨_, rfl, ?_⟩
      refine ⟨_, rfl, ⟨_, .inl (.inl (((s4.trans g14.ex).trans G19.sub) _ _ fa5))⟩, ?_⟩
      refine for_lst (α := (List Int)) (fun (ts5 : List (List Int)) σ H11 => ∃ (F3 : Hp) (st4 : DkS) (x5 : (List ((Option (List Int)) × (Option (List Int))))) (us7 : List V) (y3 : Option V) (y4 : Option V), forK (_law_right_b5 r2 r4 rule r1) ts5 (x5, st4) (_law_right_e6) = some (r, hstR, stR) ∧ Sub (N4) F3 ∧ Gr (AH A hd) F0 H F3 H11 ∧ OwP A H F3 H11 hd us7 ∧ Rs F3 us7 x5 ∧ DkAt A H F3 H11 dk st4 ∧ σ = [some (.ref dk), some (.ref a1), some (.ref hd), some (.ref a3), some (.ref a5), y2, y1, some (.int ((1 : Int) + ((if (decide ((4 : Int) < (r2.length : Int))) = true then (1 : Int) else 0) * r4))), y4, y3, none]) (Rs_mono (s4.trans g14.ex) fr3) ⟨N4, _, hst, _, _, _, hm, (Sub.refl _), G19, o54, (Rs_mono g14.ex (Rs_mono s4 (Rs_mono g2.ex (Rs_mono g1.ex hf0)))), dk20, rfl⟩ (fun _ _ _ h => ?_) (fun t3 ts6 v11 σ H1 hv3 hW => ?_) (fun σ H1 hW => ?_)
      · obtain ⟨F3, st4, x5, us7, y3, y4, _, s9, G9, _⟩ := h
        exact G9.sub _ _ (s9 _ _ ((s4.trans g14.ex) _ _ fa5))
      · skip
        obtain ⟨F3, st4, x5, us7, y3, y4, hm, s5, G20, o55, fr10, dk21, rfl⟩ := hW
        obtain ⟨next3, hnx3⟩ : ∃ nx, nx = fun s => forK (_law_right_b5 r2 r4 rule r1) ts6 s (_law_right_e6) := ⟨_, rfl⟩
        have hm : (_law_right_b5 r2 r4 rule r1) (x5, st4) t3 next3 = some (r, hstR, stR) := by rw [hnx3]; exact forK_c hm
        rw [_law_right_b5] at hm
        obtain ⟨a8, us8, rfl, fa7, fr11⟩ := lst_of hv3
        with_reducible refine x_gn ?_
        with_reducible refine x_for ?_
        with_reducible refine x_rng3 ?_
        with_reducible refine x_cons ?_
        with_reducible refine x_call ?_
        with_reducible refine x_cons ?_
        refine ⟨_, rfl, ?_⟩
        with_reducible refine x_cons ?_
        refine ⟨_, rfl, ?_⟩
        obtain ⟨⟨r5, st5⟩, hr5, hm⟩ := bindp hm
        refine ⟨_, _, _, _, _, ((1 : Int) + ((if (decide ((4 : Int) < (r2.length : Int))) = true then (1 : Int) else 0) * r4)), r5, st5, rfl, G20.sub, dk21.at_, dk21.nf, (.int _), hr5, fun N5 H12 v12 g15 dk22 d13 => ?_⟩
        have G21 := G20.trans g15.wid
        have o56 := o55.stepA g15
        have dk23 := dk21.stepA g15 dk22
        obtain rfl := int_of d13
        with_reducible refine x_cons ?_
        with_reducible refine x_op ?_
        refine ⟨_, rfl, ?_⟩
        refine ⟨_, _, _, _, rfl, rfl, .inl (.inl (((((((g1.ex.trans g2.ex).trans s4).trans g14.ex).trans s5).trans g15.ex).trans G21.sub) _ _ fa1)), atI_nat (j := 0) rfl, ?_⟩
        with_reducible refine x_cons ?_
        refine ⟨_, rfl, ?_⟩
        obtain ⟨c5, hm⟩ := guardp hm
        refine ⟨_, _, _, _, rfl, c5.ok, ?_⟩
        refine for_rngC (lo := r5) (hi := (rule).1) (c := ((1 : Int) + ((if (decide ((4 : Int) < (r2.length : Int))) = true then (1 : Int) else 0) * r4))) (fun (ts7 : List Int) σ H13 => ∃ (F4 : Hp) (st6 : DkS) (x6 : (List ((Option (List Int)) × (Option (List Int))))) (us9 : List V) (y5 : Option V), forK (_law_right_b7 rule r1 t3) ts7 (x6, st6) (_law_right_e8 next3) = some (r, hstR, stR) ∧ Sub (N5) F4 ∧ Gr (AH A hd) F0 H F4 H13 ∧ OwP A H F4 H13 hd us9 ∧ Rs F4 us9 x6 ∧ DkAt A H F4 H13 dk st6 ∧ σ = [some (.ref dk), some (.ref a1), some (.ref hd), some (.ref a3), some (.ref a5), y2, y1, some (.int ((1 : Int) + ((if (decide ((4 : Int) < (r2.length : Int))) = true then (1 : Int) else 0) * r4))), some (.ref a8), y5, none]) ⟨N5, _, x5, _, _, hm, (Sub.refl _), G21, o56, (Rs_mono g15.ex fr10), dk23, rfl⟩ (fun t4 ts8 σ H1 hW => ?_) (fun σ H1 hW => ?_)
        · skip
          obtain ⟨F4, st6, x6, us9, y5, hm, s6, G22, o57, fr12, dk24, rfl⟩ := hW
          obtain ⟨next4, hnx4⟩ : ∃ nx, nx = fun s => forK (_law_right_b7 rule r1 t3) ts8 s (_law_right_e8 next3) := ⟨_, rfl⟩
          have hm : (_law_right_b7 rule r1 t3) (x6, st6) t4 next4 = some (r, hstR, stR) := by rw [hnx4]; exact forK_c hm
          rw [_law_right_b7] at hm
          with_reducible refine x_gn ?_
          with_reducible refine x_if ?_
          with_reducible refine x_not ?_
          with_reducible refine x_B ?_
          with_reducible refine x_call ?_
          with_reducible refine x_cons ?_
          refine ⟨_, rfl, ?_⟩
          with_reducible refine x_cons ?_
          refine ⟨_, rfl, ?_⟩
          with_reducible refine x_cons ?_
          refine ⟨_, rfl, ?_⟩
          with_reducible refine x_cons ?_
          refine ⟨_, rfl, ?_⟩
          with_reducible refine x_cons ?_
          refine ⟨_, rfl, ?_⟩
          obtain ⟨⟨r6, x7⟩, hr6, hm⟩ := bindp hm
          refine ⟨_, (fun a9 => a9 = hd), hd, _, _, _, _, _, rule, r1, t3, t4, r6, x7, rfl, G22.sub, ⟨⟨_, o57.at_, fr12⟩, o57.nf, fun _ => Iff.rfl⟩, (mk_tup2 (((((((g1.ex.trans g2.ex).trans s4).trans g14.ex).trans s5).trans g15.ex).trans s6) _ _ fa1) (.int _) (mk_lst (((((((g1.ex.trans g2.ex).trans s4).trans g14.ex).trans s5).trans g15.ex).trans s6) _ _ fa2) (Rs_mono ((((((g1.ex.trans g2.ex).trans s4).trans g14.ex).trans s5).trans g15.ex).trans s6) fr1))), (mk_tup2 ((((((g2.ex.trans s4).trans g14.ex).trans s5).trans g15.ex).trans s6) _ _ fa3) (.int _) (mk_lst ((((((g2.ex.trans s4).trans g14.ex).trans s5).trans g15.ex).trans s6) _ _ fa4) (Rs_mono (((((g2.ex.trans s4).trans g14.ex).trans s5).trans g15.ex).trans s6) fr2))), (mk_lst (((s5.trans g15.ex).trans s6) _ _ fa7) (Rs_mono ((s5.trans g15.ex).trans s6) fr11)), (.int _), hr6, fun N6 H14 v14 g16 hd1 d14 => ?_⟩
          obtain ⟨⟨us10, fa8, fr13⟩, nf1, _⟩ := hd1
          have G23 := G22.trans g16.widR
          have dk25 := dk24.stepP g16 o57.na
          have o58 : OwP A _ N6 H14 hd us10 := ⟨fa8, nf1, o57.n0, o57.na⟩
          obtain rfl := bl_of d14
          refine ⟨_, rfl, ?_⟩
          refine ifD (fun hc => ?_) (fun hc => ?_)
          · replace hm := itep hm hc
            with_reducible refine x_ret ?_
            with_reducible refine x_c ?_
            obtain ⟨rfl, h9⟩ := pairp hm
            obtain ⟨rfl, rfl⟩ := Prod.mk.inj h9
            exact q _ _ _ G23 dk25.at_ (o58.held fr13) (.bl _)
          · replace hm := iten hm (bF hc)
            with_reducible refine x_next ?_
            rw [hnx4] at hm
            exact ⟨N6, _, x7, _, _, hm, (s6.trans g16.ex), G23, o58, fr13, dk25, rfl⟩
        · skip
          obtain ⟨F4, st6, x6, us9, y5, hm, s7, G24, o59, fr14, dk26, rfl⟩ := hW
          have hm : (_law_right_e8 next3) (x6, st6) = some (r, hstR, stR) := forK_n hm
          rw [_law_right_e8] at hm
          rw [hnx3] at hm
          exact ⟨F4, _, x6, _, _, _, hm, ((s5.trans g15.ex).trans s7), G24, o59, fr14, dk26, rfl⟩
      · skip
        obtain ⟨F3, st4, x5, us7, y3, y4, hm, s8, G25, o60, fr15, dk27, rfl⟩ := hW
        have hm : (_law_right_e6) (x5, st4) = some (r, hstR, stR) := forK_n hm
        rw [_law_right_e6] at hm
        with_reducible refine x_ret ?_
        with_reducible refine x_c ?_
        obtain ⟨rfl, h9⟩ := pairp hm
        obtain ⟨rfl, rfl⟩ := Prod.mk.inj h9
        exact q _ _ _ G25 dk27.at_ (o60.held fr15) (.bl _)
    · replace hm := iten hm (bF hc)
      refine .inr ⟨_, rfl, ?_⟩
      with_reducible refine x_call ?_
      with_reducible refine x_cons ?_
      refine ⟨_, rfl, ?_⟩
      with_reducible refine x_cons ?_
      with_reducible refine x_c ?_
      obtain ⟨⟨r7, st7⟩, hr7, hm⟩ := bindp hm
      refine ⟨_, _, _, _, _, (3 : Int), r7, st7, rfl, G17.sub, dk17.at_, dk17.nf, (.int _), hr7, fun N7 H15 v15 g17 dk28 d15 => ?_⟩
      have G26 := G17.trans g17.wid
      have o61 := o52.stepA g17
      have dk29 := dk17.stepA g17 dk28
      obtain rfl := int_of d15
      obtain ⟨c6, hm⟩ := guardp hm
      refine ⟨_, _, rfl, rfl, c6.w, ?_⟩
      refine ⟨_, _, rfl, rfl, ?_⟩
      with_reducible refine x_gn ?_
      with_reducible refine x_seq ?_
      with_reducible refine x_for ?_
      with_reducible refine x_iter ?_
      refine ⟨_, rfl, ?_⟩
      refine ⟨_, rfl, ⟨_, .inl (.inl (((s4.trans g17.ex).trans G26.sub) _ _ fa5))⟩, ?_⟩
      refine for_lst (α := (List Int)) (fun (ts9 : List (List Int)) σ H16 => ∃ (F5 : Hp) (st8 : DkS) (x8 : (List ((Option (List Int)) × (Option (List Int))))) (us11 : List V) (y6 : Option V) (y7 : Option V), forK (_law_right_b9 r7 rule r1) ts9 (x8, st8) (_law_right_e10) = some (r, hstR, stR) ∧ Sub (N7) F5 ∧ Gr (AH A hd) F0 H F5 H16 ∧ OwP A H F5 H16 hd us11 ∧ Rs F5 us11 x8 ∧ DkAt A H F5 H16 dk st8 ∧ σ = [some (.ref dk), some (.ref a1), some (.ref hd), some (.ref a3), some (.ref a5), y2, y1, some (.int ((1 : Int) + ((if false = true then (1 : Int) else 0) * r7))), y7, y6, none]) (Rs_mono (s4.trans g17.ex) fr3) ⟨N7, _, hst, _, _, _, hm, (Sub.refl _), G26, o61, (Rs_mono g17.ex (Rs_mono s4 (Rs_mono g2.ex (Rs_mono g1.ex hf0)))), dk29, rfl⟩ (fun _ _ _ h => ?_) (fun t5 ts10 v16 σ H1 hv5 hW => ?_) (fun σ H1 hW => ?_)
      · obtain ⟨F5, st8, x8, us11, y6, y7, _, s9, G9, _⟩ := h
        exact G9.sub _ _ (s9 _ _ ((s4.trans g17.ex) _ _ fa5))
      · skip
        obtain ⟨F5, st8, x8, us11, y6, y7, hm, s9, G27, o62, fr16, dk30, rfl⟩ := hW
        obtain ⟨next5, hnx5⟩ : ∃ nx, nx = fun s => forK (_law_right_b9 r7 rule r1) ts10 s (_law_right_e10) := ⟨_, rfl⟩
        have hm : (_law_right_b9 r7 rule r1) (x8, st8) t5 next5 = some (r, hstR, stR) := by rw [hnx5]; exact forK_c hm
        rw [_law_right_b9] at hm
        obtain ⟨a9, us12, rfl, fa9, fr17⟩ := lst_of hv5
        with_reducible refine x_gn ?_
        with_reducible refine x_for ?_
        with_reducible refine x_rng3 ?_
        with_reducible refine x_cons ?_
        with_reducible refine x_call ?_
        with_reducible refine x_cons ?_
        refine ⟨_, rfl, ?_⟩
        with_reducible refine x_cons ?_
        refine ⟨_, rfl, ?_⟩
        obtain ⟨⟨r8, st9⟩, hr8, hm⟩ := bindp hm
        refine ⟨_, _, _, _, _, ((1 : Int) + ((if false = true then (1 : Int) else 0) * r7)), r8, st9, rfl, G27.sub, dk30.at_, dk30.nf, (.int _), hr8, fun N8 H17 v17 g18 dk31 d16 => ?_⟩
        have G28 := G27.trans g18.wid
        have o63 := o62.stepA g18
        have dk32 := dk30.stepA g18 dk31
        obtain rfl := int_of d16
        with_reducible refine x_cons ?_
        with_reducible refine x_op ?_
        refine ⟨_, rfl, ?_⟩
        refine ⟨_, _, _, _, rfl, rfl, .inl (.inl (((((((g1.ex.trans g2.ex).trans s4).trans g17.ex).trans s9).trans g18.ex).trans G28.sub) _ _ fa1)), atI_nat (j := 0) rfl, ?_⟩
        with_reducible refine x_cons ?_
        refine ⟨_, rfl, ?_⟩
        obtain ⟨c7, hm⟩ := guardp hm
        refine ⟨_, _, _, _, rfl, c7.ok, ?_⟩
        refine for_rngC (lo := r8) (hi := (rule).1) (c := ((1 : Int) + ((if false = true then (1 : Int) else 0) * r7))) (fun (ts11 : List Int) σ H18 => ∃ (F6 : Hp) (st10 : DkS) (x9 : (List ((Option (List Int)) × (Option (List Int))))) (us13 : List V) (y8 : Option V), forK (_law_right_b11 rule r1 t5) ts11 (x9, st10) (_law_right_e12 next5) = some (r, hstR, stR) ∧ Sub (N8) F6 ∧ Gr (AH A hd) F0 H F6 H18 ∧ OwP A H F6 H18 hd us13 ∧ Rs F6 us13 x9 ∧ DkAt A H F6 H18 dk st10 ∧ σ = [some (.ref dk), some (.ref a1), some (.ref hd), some (.ref a3), some (.ref a5), y2, y1, some (.int ((1 : Int) + ((if false = true then (1 : Int) else 0) * r7))), some (.ref a9), y8, none]) ⟨N8, _, x8, _, _, hm, (Sub.refl _), G28, o63, (Rs_mono g18.ex fr16), dk32, rfl⟩ (fun t6 ts12 σ H1 hW => ?_) (fun σ H1 hW => ?_)
        · skip
          obtain ⟨F6, st10, x9, us13, y8, hm, s10, G29, o64, fr18, dk33, rfl⟩ := hW
          obtain ⟨next6, hnx6⟩ : ∃ nx, nx = fun s => forK (_law_right_b11 rule r1 t5) ts12 s (_law_right_e12 next5) := ⟨_, rfl⟩
          have hm : (_law_right_b11 rule r1 t5) (x9, st10) t6 next6 = some (r, hstR, stR) := by rw [hnx6]; exact forK_c hm
          rw [_law_right_b11] at hm
          with_reducible refine x_gn ?_
          with_reducible refine x_if ?_
          with_reducible refine x_not ?_
          with_reducible refine x_B ?_
          with_reducible refine x_call ?_
          with_reducible refine x_cons ?_
          refine ⟨_, rfl, ?_⟩
          with_reducible refine x_cons ?_
          refine ⟨_, rfl, ?_⟩
          with_reducible refine x_cons ?_
          refine ⟨_, rfl, ?_⟩
          with_reducible refine x_cons ?_
          refine ⟨_, rfl, ?_⟩
          with_reducible refine x_cons ?_
          refine ⟨_, rfl, ?_⟩
          obtain ⟨⟨r9, x10⟩, hr9, hm⟩ := bindp hm
          refine ⟨_, (fun a9 => a9 = hd), hd, _, _, _, _, _, rule, r1, t5, t6, r9, x10, rfl, G29.sub, ⟨⟨_, o64.at_, fr18⟩, o64.nf, fun _ => Iff.rfl⟩, (mk_tup2 (((((((g1.ex.trans g2.ex).trans s4).trans g17.ex).trans s9).trans g18.ex).trans s10) _ _ fa1) (.int _) (mk_lst (((((((g1.ex.trans g2.ex).trans s4).trans g17.ex).trans s9).trans g18.ex).trans s10) _ _ fa2) (Rs_mono ((((((g1.ex.trans g2.ex).trans s4).trans g17.ex).trans s9).trans g18.ex).trans s10) fr1))), (mk_tup2 ((((((g2.ex.trans s4).trans g17.ex).trans s9).trans g18.ex).trans s10) _ _ fa3) (.int _) (mk_lst ((((((g2.ex.trans s4).trans g17.ex).trans s9).trans g18.ex).trans s10) _ _ fa4) (Rs_mono (((((g2.ex.trans s4).trans g17.ex).trans s9).trans g18.ex).trans s10) fr2))), (mk_lst (((s9.trans g18.ex).trans s10) _ _ fa9) (Rs_mono ((s9.trans g18.ex).trans s10) fr17)), (.int _), hr9, fun N9 H19 v19 g19 hd2 d17 => ?_⟩
          obtain ⟨⟨us14, fa10, fr19⟩, nf2, _⟩ := hd2
          have G30 := G29.trans g19.widR
          have dk34 := dk33.stepP g19 o64.na
          have o65 : OwP A _ N9 H19 hd us14 := ⟨fa10, nf2, o64.n0, o64.na⟩
          obtain rfl := bl_of d17
          refine ⟨_, rfl, ?_⟩
          refine ifD (fun hc => ?_) (fun hc => ?_)
          · replace hm := itep hm hc
            with_reducible refine x_ret ?_
            with_reducible refine x_c ?_
            obtain ⟨rfl, h9⟩ := pairp hm
            obtain ⟨rfl, rfl⟩ := Prod.mk.inj h9
            exact q _ _ _ G30 dk34.at_ (o65.held fr19) (.bl _)
          · replace hm := iten hm (bF hc)
            with_reducible refine x_next ?_
            rw [hnx6] at hm
            exact ⟨N9, _, x10, _, _, hm, (s10.trans g19.ex), G30, o65, fr19, dk34, rfl⟩
        · skip
          obtain ⟨F6, st10, x9, us13, y8, hm, s11, G31, o66, fr20, dk35, rfl⟩ := hW
          have hm : (_law_right_e12 next5) (x9, st10) = some (r, hstR, stR) := forK_n hm
          rw [_law_right_e12] at hm
          rw [hnx5] at hm
          exact ⟨F6, _, x9, _, _, _, hm, ((s9.trans g18.ex).trans s11), G31, o66, fr20, dk35, rfl⟩
      · skip
        obtain ⟨F5, st8, x8, us11, y6, y7, hm, s12, G32, o67, fr21, dk36, rfl⟩ := hW
        have hm : (_law_right_e10) (x8, st8) = some (r, hstR, stR) := forK_n hm
        rw [_law_right_e10] at hm
        with_reducible refine x_ret ?_
        with_reducible refine x_c ?_
        obtain ⟨rfl, h9⟩ := pairp hm
        obtain ⟨rfl, rfl⟩ := Prod.mk.inj h9
        exact q _ _ _ G32 dk36.at_ (o67.held fr21) (.bl _)

def _law_some_rule_c3 (x2 : Int) (x1 : Int) (r5 : Int) : ((List Int) × DkS) → Int → (((List Int) × DkS) → Option ((Int × (List (List Int))) × DkS)) → Option ((Int × (List (List Int))) × DkS)
  | (x7, st12), t2, next2 => ((_law_draw st12 (if x2 < x1 then x2 else x1)).bind fun (r11, st13) => (if x7.length < 16777216 then (next2 ((x7 ++ [(r5 + r11)]), st13)) else none))
def _law_some_rule_k4 (x5 : (List (List Int))) (next1 : (((List (List Int)) × DkS) → Option ((Int × (List (List Int))) × DkS))) : ((List Int) × DkS) → Option ((Int × (List (List Int))) × DkS)
  | (x7, st12) => (if (!memT x7 x5) = true then (if x5.length < 16777216 then (next1 ((x5 ++ [x7]), st12)) else none) else (next1 (x5, st12)))
def _law_some_rule_b1 (x3 : Int) (x2 : Int) (x1 : Int) (r5 : Int) : ((List (List Int)) × DkS) → Int → (((List (List Int)) × DkS) → Option ((Int × (List (List Int))) × DkS)) → Option ((Int × (List (List Int))) × DkS)
  | (x5, st10), t1, next1 => ((_law_draw st10 x3).bind fun (r10, st11) => (if Rg1 ((1 : Int) + r10) then (forK (_law_some_rule_c3 x2 x1 r5) (irange 0 ((1 : Int) + r10)) ([], st11) (_law_some_rule_k4 x5 next1)) else none))
def _law_some_rule_e2 (x1 : Int) : ((List (List Int)) × DkS) → Option ((Int × (List (List Int))) × DkS)
  | (x5, st10) => (if x5.length ≤ 16777216 then (some ((x1, (sortT x5)), st10)) else none)
def _law_some_rule (st : DkS)  : Option ((Int × (List (List Int))) × DkS) :=
  ((_law_draw st (15 : Int)).bind fun (r1, st1) => ((_law_draw st1 (3 : Int)).bind fun (r2, st2) => ((_law_draw st2 (6 : Int)).bind fun (r3, st3) => ((atI ([((2 : Int) + r1), (2 : Int), (3 : Int), (10 : Int), (16 : Int), ((2 : Int) + r2)] : (List Int)) r3).bind fun x1 => ((_law_draw st3 (3 : Int)).bind fun (r4, st4) => ((atI ([(2 : Int), (3 : Int), (16 : Int)] : (List Int)) r4).bind fun x2 => ((_law_draw st4 ((x1 - (if x2 < x1 then x2 else x1)) + (1 : Int))).bind fun (r5, st5) => ((_law_draw st5 (4 : Int)).bind fun (r6, st6) => ((_law_draw st6 (4 : Int)).bind fun (r7, st7) => ((atI ([((1 : Int) + r6), (2 : Int), (3 : Int), (4 : Int)] : (List Int)) r7).bind fun x3 => ((_law_draw st7 (5 : Int)).bind fun (r8, st8) => ((_law_draw st8 (4 : Int)).bind fun (r9, st9) => ((atI ([r8, (4 : Int), (3 : Int), (1 : Int)] : (List Int)) r9).bind fun x4 => (if Rg1 x4 then (forK (_law_some_rule_b1 x3 x2 x1 r5) (irange 0 x4) (([] : (List (List Int))), st9) (_law_some_rule_e2 x1)) else none))))))))))))))
abbrev N__law_some_rule : List Str := ["deck", "base", "few", "first", "most", "bad", "k", "one", "at"]
theorem sc__law_some_rule : FnScope N__law_some_rule ["deck"] (defScope s__law_some_rule) := ⟨rfl, rfl, rfl, by decide +kernel, rfl, by decide +kernel, by decide +kernel⟩
def sp__law_some_rule : Sp := fun vs H Q _ => ∃ (F : Hp) (A : Addr → Prop) (dk : Addr) (st : DkS) (r : (Int × (List (List Int)))) (stR : DkS), vs = [.ref dk] ∧ Sub F H ∧ Deck A H dk st ∧ (∀ a, A a → F a = none) ∧ _law_some_rule st = some (r, stR) ∧ ∀ N H2 v, Gr A F H N H2 → Deck A H2 dk stR → R N v r → Q v H2
theorem ok__law_some_rule {P : Program} {w : World} {K : PySem.W.Frag} {mg : Str → Option Value} {base : Heap} (T : Txt K mg) : FnOk P w K mg base CX0 2 T.f__law_some_rule.f T.f__law_some_rule.fd ["deck"] sp__law_some_rule := by
  have nd := (sc__law_some_rule).nd
  refine T.f__law_some_rule.F.ok sc__law_some_rule (fun vs H Q E h => ?_) (fun cdv A0 outer s H vs Q E hr h => ?_)
  · obtain ⟨_, _, _, _, _, _, rfl, _⟩ := h
    rfl
  obtain ⟨F0, A, dk, st, r, stR, rfl, s0, hdk, hnf, hm, q⟩ := h
  have G0 : Gr A F0 H F0 H := Gr.refl s0
  have dk0 := DkAt.mk0 hdk hnf
  refine ⟨_, (pss_cons (ps_set (i := 1) nd rfl (by first | exact Or.inl rfl | exact Or.inr rfl) (pe_ix (r := rIxL K) ix_list (pe_lst (pa_cons (pe_op op_add pe_int (pe_call (ok__law_draw T) (hr.mono (by decide)) (by rfl) T.f__law_draw.g T.f__law_draw.F.kp T.f__law_draw.b .nil pass0 (pa_cons (pv 0) (pa_cons pe_int pa_nil)))) (pa_cons pe_int (pa_cons pe_int (pa_cons pe_int (pa_cons pe_int (pa_cons (pe_op op_add pe_int (pe_call (ok__law_draw T) (hr.mono (by decide)) (by rfl) T.f__law_draw.g T.f__law_draw.F.kp T.f__law_draw.b .nil pass0 (pa_cons (pv 0) (pa_cons pe_int pa_nil)))) pa_nil))))))) (pe_call (ok__law_draw T) (hr.mono (by decide)) (by rfl) T.f__law_draw.g T.f__law_draw.F.kp T.f__law_draw.b .nil pass0 (pa_cons (pv 0) (pa_cons pe_int pa_nil))) (fun _ _ => rfl))) (pss_cons (ps_set (i := 2) nd rfl (by first | exact Or.inl rfl | exact Or.inr rfl) (pe_callB (call_min2 rfl) (by rfl) T.z_min (by decide +kernel) (pa_cons (pv 1) (pa_cons (pe_ix (r := rIxL K) ix_list (pe_lst (pa_cons pe_int (pa_cons pe_int (pa_cons pe_int pa_nil)))) (pe_call (ok__law_draw T) (hr.mono (by decide)) (by rfl) T.f__law_draw.g T.f__law_draw.F.kp T.f__law_draw.b .nil pass0 (pa_cons (pv 0) (pa_cons pe_int pa_nil))) (fun _ _ => rfl)) pa_nil)))) (pss_cons (ps_set (i := 3) nd rfl (by first | exact Or.inl rfl | exact Or.inr rfl) (pe_call (ok__law_draw T) (hr.mono (by decide)) (by rfl) T.f__law_draw.g T.f__law_draw.F.kp T.f__law_draw.b .nil pass0 (pa_cons (pv 0) (pa_cons (pe_op op_add (pe_op op_sub (pv 1) (pv 2)) pe_int) pa_nil)))) (pss_cons (ps_set (i := 4) nd rfl (by first | exact Or.inl rfl | exact Or.inr rfl) (pe_ix (r := rIxL K) ix_list (pe_lst (pa_cons (pe_op op_add pe_int (pe_call (ok__law_draw T) (hr.mono (by decide)) (by rfl) T.f__law_draw.g T.f__law_draw.F.kp T.f__law_draw.b .nil pass0 (pa_cons (pv 0) (pa_cons pe_int pa_nil)))) (pa_cons pe_int (pa_cons pe_int (pa_cons pe_int pa_nil))))) (pe_call (ok__law_draw T) (hr.mono (by decide)) (by rfl) T.f__law_draw.g T.f__law_draw.F.kp T.f__law_draw.b .nil pass0 (pa_cons (pv 0) (pa_cons pe_int pa_nil))) (fun _ _ => rfl))) (pss_cons (ps_set (i := 5) nd rfl (by first | exact Or.inl rfl | exact Or.inr rfl) (pe_lst pa_nil)) (pss_cons (ps_for PassesOwn.never rfl (pi_range1 (by rfl) T.z_range (pa_cons (pe_ix (r := rIxL K) ix_list (pe_lst (pa_cons (pe_call (ok__law_draw T) (hr.mono (by decide)) (by rfl) T.f__law_draw.g T.f__law_draw.F.kp T.f__law_draw.b .nil pass0 (pa_cons (pv 0) (pa_cons pe_int pa_nil))) (pa_cons pe_int (pa_cons pe_int (pa_cons pe_int pa_nil))))) (pe_call (ok__law_draw T) (hr.mono (by decide)) (by rfl) T.f__law_draw.g T.f__law_draw.F.kp T.f__law_draw.b .nil pass0 (pa_cons (pv 0) (pa_cons pe_int pa_nil))) (fun _ _ => rfl)) pa_nil)) (pg_name (i := 6) nd rfl (by first | exact Or.inl rfl | exact Or.inr rfl)) (pss_cons (ps_setLc (i := 7) (own := [("at", 8)]) (g := (gName 8)) rfl nd rfl rfl (sw_true rfl rfl rfl (by decide +kernel)) (pi_range1 (by rfl) T.z_range (pa_cons (pe_op op_add pe_int (pe_call (ok__law_draw T) (hr.mono (by decide)) (by rfl) T.f__law_draw.g T.f__law_draw.F.kp T.f__law_draw.b .nil pass0 (pa_cons (pv 0) (pa_cons (pv 4) pa_nil)))) pa_nil)) (blkOk_by (own := [("at", 8)]) (N := N__law_some_rule) (sc := defScope s__law_some_rule) (by decide +kernel)) (fun _ _ _ _ _ => pg_name (i := 8) nd rfl (Or.inl rfl)) (fun _ _ _ _ _ => pts_nil) (fun _ _ _ _ _ => (pe_op op_add (pv 3) (pe_call (ok__law_draw T) (hr.mono (by decide)) (by rfl) T.f__law_draw.g T.f__law_draw.F.kp T.f__law_draw.b .nil pass0 (pa_cons (pv 0) (pa_cons (pv 2) pa_nil)))))) (pss_one (ps_if (pt_cmpR (op_niT (α := (List Int)) (by decide) (hu65 hr)) (pv 7) (pv 5) (by rfl)) (pss_one (ps_expr (pe_bm PySem.F.plainAttrs_list PySem.F.slot_list_append PySem.F.type_list_append mt_append (pv 5) (pa_cons (pv 7) pa_nil)))) pss_nil)))) (pss_one (ps_ret (pe_tup (pa_cons (pv 1) (pa_cons (pe_callB (r := rSortedT (List Int)) (call_sortedT (by decide) (hu200' hr)) (by rfl) T.z_sorted (by decide +kernel) (pa_cons (pv 5) pa_nil)) pa_nil))))))))))), ?_⟩
  rw [_law_some_rule] at hm
  with_reducible refine x_seq ?_
  with_reducible refine x_asg ?_
  with_reducible refine x_op ?_
  with_reducible refine x_lst ?_
  with_reducible refine x_cons ?_
  with_reducible refine x_op ?_
  with_reducible refine x_c ?_
  with_reducible refine x_call ?_
  with_reducible refine x_cons ?_
  refine ⟨_, rfl, ?_⟩
  with_reducible refine x_cons ?_
  with_reducible refine x_c ?_
  obtain ⟨⟨r1, st1⟩, hr1, hm⟩ := bindp hm
  refine ⟨_, _, _, _, _, (15 : Int), r1, st1, rfl, G0.sub, dk0.at_, dk0.nf, (.int _), hr1, fun N1 H1 v1 g1 dk1 d1 => ?_⟩
  have G1 := G0.trans g1
  have dk2 := dk0.stepA g1 dk1
  obtain rfl := int_of d1
  refine ⟨_, _, rfl, rfl, ?_⟩
  with_reducible refine x_cons ?_
  with_reducible refine x_c ?_
  with_reducible refine x_cons ?_
  with_reducible refine x_c ?_
  with_reducible refine x_cons ?_
  with_reducible refine x_c ?_
  with_reducible refine x_cons ?_
  with_reducible refine x_c ?_
  with_reducible refine x_cons ?_
  with_reducible refine x_op ?_
  with_reducible refine x_c ?_
  with_reducible refine x_call ?_
  with_reducible refine x_cons ?_
  refine ⟨_, rfl, ?_⟩
  with_reducible refine x_cons ?_
  with_reducible refine x_c ?_
  obtain ⟨⟨r2, st2⟩, hr2, hm⟩ := bindp hm
  refine ⟨_, _, _, _, _, (3 : Int), r2, st2, rfl, G1.sub, dk2.at_, dk2.nf, (.int _), hr2, fun N2 H2 v2 g2 dk3 d2 => ?_⟩
  have G2 := G1.trans g2
  have dk4 := dk2.stepA g2 dk3
  obtain rfl := int_of d2
  refine ⟨_, _, rfl, rfl, ?_⟩
  refine ⟨szle (show 6 ≤ 16777216 from by decide), fun p1 np1 => ?_⟩
  have fr1 : Rs (α := Int) (N2) [(.int ((2 : Int) + r1)), (.int 2), (.int 3), (.int 10), (.int 16), (.int ((2 : Int) + r2))] ([((2 : Int) + r1), (2 : Int), (3 : Int), (10 : Int), (16 : Int), ((2 : Int) + r2)] : (List Int)) := (Rs_cons (.int _) (Rs_cons (.int _) (Rs_cons (.int _) (Rs_cons (.int _) (Rs_cons (.int _) (Rs_cons (.int _) Rs_nil))))))
  have g3 := Gr.newO (o := .lst [(.int ((2 : Int) + r1)), (.int 2), (.int 3), (.int 10), (.int 16), (.int ((2 : Int) + r2))]) G2.sub np1
  have o1 := Ow.new (us := [(.int ((2 : Int) + r1)), (.int 2), (.int 3), (.int 10), (.int 16), (.int ((2 : Int) + r2))]) G2 np1
  have G3 := G2.step g3
  have dk5 := dk4.step g3
  with_reducible refine x_call ?_
  with_reducible refine x_cons ?_
  refine ⟨_, rfl, ?_⟩
  with_reducible refine x_cons ?_
  with_reducible refine x_c ?_
  obtain ⟨⟨r3, st3⟩, hr3, hm⟩ := bindp hm
  refine ⟨_, _, _, _, _, (6 : Int), r3, st3, rfl, G3.sub, dk5.at_, dk5.nf, (.int _), hr3, fun N3 H3 v3 g4 dk6 d3 => ?_⟩
  have G4 := G3.trans g4
  have o2 := o1.stepA g4 (dk5.out o1)
  have dk7 := dk5.stepA g4 dk6
  obtain rfl := int_of d3
  obtain ⟨x1, hx1, hm⟩ := bindp hm
  obtain ⟨v4, hu1, d4⟩ := Rs_at (Rs_mono g4.ex fr1) hx1
  refine ⟨_, _, _, _, rfl, rfl, .inl (.inl o2.at_), hu1, ?_⟩
  obtain rfl := int_of d4
  with_reducible refine x_gn ?_
  with_reducible refine x_seq ?_
  with_reducible refine x_asg ?_
  with_reducible refine x_cb ?_
  with_reducible refine x_cons ?_
  refine ⟨_, rfl, ?_⟩
  with_reducible refine x_cons ?_
  with_reducible refine x_op ?_
  with_reducible refine x_lst ?_
  with_reducible refine x_cons ?_
  with_reducible refine x_c ?_
  with_reducible refine x_cons ?_
  with_reducible refine x_c ?_
  with_reducible refine x_cons ?_
  with_reducible refine x_c ?_
  refine ⟨szle (show 3 ≤ 16777216 from by decide), fun p2 np2 => ?_⟩
  have fr2 : Rs (α := Int) (N3) [(.int 2), (.int 3), (.int 16)] ([(2 : Int), (3 : Int), (16 : Int)] : (List Int)) := (Rs_cons (.int _) (Rs_cons (.int _) (Rs_cons (.int _) Rs_nil)))
  have g5 := Gr.newO (o := .lst [(.int 2), (.int 3), (.int 16)]) G4.sub np2
  have o3 := Ow.new (us := [(.int 2), (.int 3), (.int 16)]) G4 np2
  have ne1 := o2.ne_new np2
  have G5 := G4.step g5
  have o4 := o2.step g5
  have dk8 := dk7.step g5
  with_reducible refine x_call ?_
  with_reducible refine x_cons ?_
  refine ⟨_, rfl, ?_⟩
  with_reducible refine x_cons ?_
  with_reducible refine x_c ?_
  obtain ⟨⟨r4, st4⟩, hr4, hm⟩ := bindp hm
  refine ⟨_, _, _, _, _, (3 : Int), r4, st4, rfl, G5.sub, dk8.at_, dk8.nf, (.int _), hr4, fun N4 H4 v5 g6 dk9 d5 => ?_⟩
  have G6 := G5.trans g6
  have o5 := o4.stepA g6 (dk8.out o4)
  have o6 := o3.stepA g6 (dk8.out o3)
  have dk10 := dk8.stepA g6 dk9
  obtain rfl := int_of d5
  obtain ⟨x2, hx2, hm⟩ := bindp hm
  obtain ⟨v6, hu2, d6⟩ := Rs_at (Rs_mono g6.ex fr2) hx2
  refine ⟨_, _, _, _, rfl, rfl, .inl (.inl o6.at_), hu2, ?_⟩
  obtain rfl := int_of d6
  refine ⟨_, _, rfl, ?_⟩
  with_reducible refine x_gn ?_
  with_reducible refine x_seq ?_
  with_reducible refine x_asg ?_
  with_reducible refine x_call ?_
  with_reducible refine x_cons ?_
  refine ⟨_, rfl, ?_⟩
  with_reducible refine x_cons ?_
  refine useEv (.int ((x1 - (if x2 < x1 then x2 else x1)) + (1 : Int))) (by exact (Evl.ev_op (Evl.ev_op (Evl.ev_var rfl) (Evl.ev_var rfl) Evl.rv_I0) Evl.ev_c Evl.rv_I0)) (fun H5 e1 => ?_)
  have g7 := gr_ex G6.sub e1
  have G7 := G6.step g7
  have o7 := o5.step g7
  have o8 := o6.step g7
  have dk11 := dk10.step g7
  obtain ⟨⟨r5, st5⟩, hr5, hm⟩ := bindp hm
  refine ⟨_, _, _, _, _, ((x1 - (if x2 < x1 then x2 else x1)) + (1 : Int)), r5, st5, rfl, G7.sub, dk11.at_, dk11.nf, (.int _), hr5, fun N5 H6 v7 g8 dk12 d7 => ?_⟩
  have G8 := G7.trans g8
  have o9 := o7.stepA g8 (dk11.out o7)
  have o10 := o8.stepA g8 (dk11.out o8)
  have dk13 := dk11.stepA g8 dk12
  obtain rfl := int_of d7
  with_reducible refine x_gn ?_
  with_reducible refine x_seq ?_
  with_reducible refine x_asg ?_
  with_reducible refine x_op ?_
  with_reducible refine x_lst ?_
  with_reducible refine x_cons ?_
  with_reducible refine x_op ?_
  with_reducible refine x_c ?_
  with_reducible refine x_call ?_
  with_reducible refine x_cons ?_
  refine ⟨_, rfl, ?_⟩
  with_reducible refine x_cons ?_
  with_reducible refine x_c ?_
  obtain ⟨⟨r6, st6⟩, hr6, hm⟩ := bindp hm
  refine ⟨_, _, _, _, _, (4 : Int), r6, st6, rfl, G8.sub, dk13.at_, dk13.nf, (.int _), hr6, fun N6 H7 v8 g9 dk14 d8 => ?_⟩
  have G9 := G8.trans g9
  have o11 := o9.stepA g9 (dk13.out o9)
  have o12 := o10.stepA g9 (dk13.out o10)
  have dk15 := dk13.stepA g9 dk14
  obtain rfl := int_of d8
  refine ⟨_, _, rfl, rfl, ?_⟩
  with_reducible refine x_cons ?_
  with_reducible refine x_c ?_
  with_reducible refine x_cons ?_
  with_reducible refine x_c ?_
  with_reducible refine x_cons ?_
  with_reducible refine x_c ?_
  refine ⟨szle (show 4 ≤ 16777216 from by decide), fun p3 np3 => ?_⟩
  have fr3 : Rs (α := Int) (N6) [(.int ((1 : Int) + r6)), (.int 2), (.int 3), (.int 4)] ([((1 : Int) + r6), (2 : Int), (3 : Int), (4 : Int)] : (List Int)) := (Rs_cons (.int _) (Rs_cons (.int _) (Rs_cons (.int _) (Rs_cons (.int _) Rs_nil))))
  have g10 := Gr.newO (o := .lst [(.int ((1 : Int) + r6)), (.int 2), (.int 3), (.int 4)]) G9.sub np3
  have o13 := Ow.new (us := [(.int ((1 : Int) + r6)), (.int 2), (.int 3), (.int 4)]) G9 np3
  have ne2 := o11.ne_new np3
  have ne3 := o12.ne_new np3
  have G10 := G9.step g10
  have o14 := o11.step g10
  have o15 := o12.step g10
  have dk16 := dk15.step g10
  with_reducible refine x_call ?_
  with_reducible refine x_cons ?_
  refine ⟨_, rfl, ?_⟩
  with_reducible refine x_cons ?_
  with_reducible refine x_c ?_
  obtain ⟨⟨r7, st7⟩, hr7, hm⟩ := bindp hm
  refine ⟨_, _, _, _, _, (4 : Int), r7, st7, rfl, G10.sub, dk16.at_, dk16.nf, (.int _), hr7, fun N7 H8 v9 g11 dk17 d9 => ?_⟩
  have G11 := G10.trans g11
  have o16 := o14.stepA g11 (dk16.out o14)
  have o17 := o15.stepA g11 (dk16.out o15)
  have o18 := o13.stepA g11 (dk16.out o13)
  have dk18 := dk16.stepA g11 dk17
  obtain rfl := int_of d9
  obtain ⟨x3, hx3, hm⟩ := bindp hm
  obtain ⟨v10, hu3, d10⟩ := Rs_at (Rs_mono g11.ex fr3) hx3
  refine ⟨_, _, _, _, rfl, rfl, .inl (.inl o18.at_), hu3, ?_⟩
  obtain rfl := int_of d10
  with_reducible refine x_gn ?_
  with_reducible refine x_seq ?_
  with_reducible refine x_asg ?_
  with_reducible refine x_lst ?_
  refine ⟨szle (show 0 ≤ 16777216 from by decide), fun p4 np4 => ?_⟩
  have fr4 : Rs (α := (List Int)) (N7) [] ([] : (List (List Int))) := Rs_nil
  have g12 := Gr.newO (o := .lst []) G11.sub np4
  have o19 := Ow.new (us := []) G11 np4
  have ne4 := o16.ne_new np4
  have ne5 := o17.ne_new np4
  have ne6 := o18.ne_new np4
  have G12 := G11.step g12
  have o20 := o16.step g12
  have o21 := o17.step g12
  have o22 := o18.step g12
  have dk19 := dk18.step g12
  with_reducible refine x_gn ?_
  with_reducible refine x_seq ?_
  with_reducible refine x_for ?_
  with_reducible refine x_rng1 ?_
  with_reducible refine x_cons ?_
  with_reducible refine x_op ?_
  with_reducible refine x_lst ?_
  with_reducible refine x_cons ?_
  with_reducible refine x_call ?_
  with_reducible refine x_cons ?_
  refine ⟨_, rfl, ?_⟩
  with_reducible refine x_cons ?_
  with_reducible refine x_c ?_
  obtain ⟨⟨r8, st8⟩, hr8, hm⟩ := bindp hm
  refine ⟨_, _, _, _, _, (5 : Int), r8, st8, rfl, G12.sub, dk19.at_, dk19.nf, (.int _), hr8, fun N8 H9 v11 g13 dk20 d11 => ?_⟩
  have G13 := G12.trans g13
  have o23 := o20.stepA g13 (dk19.out o20)
  have o24 := o21.stepA g13 (dk19.out o21)
  have o25 := o22.stepA g13 (dk19.out o22)
  have o26 := o19.stepA g13 (dk19.out o19)
  have dk21 := dk19.stepA g13 dk20
  obtain rfl := int_of d11
  with_reducible refine x_cons ?_
  with_reducible refine x_c ?_
  with_reducible refine x_cons ?_
  with_reducible refine x_c ?_
  with_reducible refine x_cons ?_
  with_reducible refine x_c ?_
  refine ⟨szle (show 4 ≤ 16777216 from by decide), fun p5 np5 => ?_⟩
  have fr5 : Rs (α := Int) (N8) [(.int r8), (.int 4), (.int 3), (.int 1)] ([r8, (4 : Int), (3 : Int), (1 : Int)] : (List Int)) := (Rs_cons (.int _) (Rs_cons (.int _) (Rs_cons (.int _) (Rs_cons (.int _) Rs_nil))))
  have g14 := Gr.newO (o := .lst [(.int r8), (.int 4), (.int 3), (.int 1)]) G13.sub np5
  have o27 := Ow.new (us := [(.int r8), (.int 4), (.int 3), (.int 1)]) G13 np5
  have ne7 := o23.ne_new np5
  have ne8 := o24.ne_new np5
  have ne9 := o25.ne_new np5
  have ne10 := o26.ne_new np5
  have G14 := G13.step g14
  have o28 := o23.step g14
  have o29 := o24.step g14
  have o30 := o25.step g14
  have o31 := o26.step g14
  have dk22 := dk21.step g14
  with_reducible refine x_call ?_
  with_reducible refine x_cons ?_
  refine ⟨_, rfl, ?_⟩
  with_reducible refine x_cons ?_
  with_reducible refine x_c ?_
  obtain ⟨⟨r9, st9⟩, hr9, hm⟩ := bindp hm
  refine ⟨_, _, _, _, _, (4 : Int), r9, st9, rfl, G14.sub, dk22.at_, dk22.nf, (.int _), hr9, fun N9 H10 v12 g15 dk23 d12 => ?_⟩
  have G15 := G14.trans g15
  have o32 := o28.stepA g15 (dk22.out o28)
  have o33 := o29.stepA g15 (dk22.out o29)
  have o34 := o30.stepA g15 (dk22.out o30)
  have o35 := o31.stepA g15 (dk22.out o31)
  have o36 := o27.stepA g15 (dk22.out o27)
  have dk24 := dk22.stepA g15 dk23
  obtain rfl := int_of d12
  obtain ⟨x4, hx4, hm⟩ := bindp hm
  obtain ⟨v13, hu4, d13⟩ := Rs_at (Rs_mono g15.ex fr5) hx4
  refine ⟨_, _, _, _, rfl, rfl, .inl (.inl o36.at_), hu4, ?_⟩
  obtain rfl := int_of d13
  obtain ⟨c1, hm⟩ := guardp hm
  refine ⟨_, rfl, c1.lo, c1.hi, ?_⟩
  refine for_rng (lo := 0) (hi := x4) (by rw [Int.sub_zero]) (fun (ts1 : List Int) σ H11 => ∃ (F1 : Hp) (st10 : DkS) (x5 : (List (List Int))) (p6 : Addr) (us1 : List V) (y1 : Option V) (y2 : Option V), forK (_law_some_rule_b1 x3 x2 x1 r5) ts1 (x5, st10) (_law_some_rule_e2 x1) = some (r, stR) ∧ Sub (N9) F1 ∧ Gr A F0 H F1 H11 ∧ Ow H F1 H11 p6 us1 ∧ Rs F1 us1 x5 ∧ DkAt A H F1 H11 dk st10 ∧ σ = [some (.ref dk), some (.int x1), some (.int (if x2 < x1 then x2 else x1)), some (.int r5), some (.int x3), some (.ref p6), y1, y2, none]) ⟨N9, _, ([] : (List (List Int))), _, _, _, _, hm, (Sub.refl _), G15, o35, (Rs_mono g15.ex (Rs_mono g13.ex fr4)), dk24, rfl⟩ (fun t1 ts2 σ H1 hW => ?_) (fun σ H1 hW => ?_)
  · skip
    obtain ⟨F1, st10, x5, p6, us1, y1, y2, hm, s1, G16, o37, fr6, dk25, rfl⟩ := hW
    obtain ⟨next1, hnx1⟩ : ∃ nx, nx = fun s => forK (_law_some_rule_b1 x3 x2 x1 r5) ts2 s (_law_some_rule_e2 x1) := ⟨_, rfl⟩
    have hm : (_law_some_rule_b1 x3 x2 x1 r5) (x5, st10) t1 next1 = some (r, stR) := by rw [hnx1]; exact forK_c hm
    rw [_law_some_rule_b1] at hm
    with_reducible refine x_gn ?_
    with_reducible refine x_seq ?_
    with_reducible refine x_asg ?_
    with_reducible refine x_lc ?_
    with_reducible refine x_rng1 ?_
    with_reducible refine x_cons ?_
    with_reducible refine x_op ?_
    with_reducible refine x_c ?_
    with_reducible refine x_call ?_
    with_reducible refine x_cons ?_
    refine ⟨_, rfl, ?_⟩
    with_reducible refine x_cons ?_
    refine ⟨_, rfl, ?_⟩
    obtain ⟨⟨r10, st11⟩, hr10, hm⟩ := bindp hm
    refine ⟨_, _, _, _, _, x3, r10, st11, rfl, G16.sub, dk25.at_, dk25.nf, (.int _), hr10, fun N10 H12 v15 g16 dk26 d14 => ?_⟩
    have G17 := G16.trans g16
    have o38 := o37.stepA g16 (dk25.out o37)
    have dk27 := dk25.stepA g16 dk26
    obtain rfl := int_of d14
    refine ⟨_, _, rfl, rfl, ?_⟩
    obtain ⟨c2, hm⟩ := guardp hm
    refine ⟨_, rfl, c2.lo, c2.hi, fun p7 np6 => ?_⟩
    have g17 := Gr.newO (o := .lst []) G17.sub np6
    have o39 := Ow.new (us := []) G17 np6
    have ne11 := o38.ne_new np6
    have G18 := G17.step g17
    have o40 := o38.step g17
    have dk28 := dk27.step g17
    refine lc_rng (lo := 0) (hi := ((1 : Int) + r10)) (by rw [Int.sub_zero]) (fun (ts3 : List Int) H13 => ∃ (F2 : Hp) (st12 : DkS) (x7 : List Int) (us3 : List V), forK (_law_some_rule_c3 x2 x1 r5) ts3 (x7, st12) (_law_some_rule_k4 x5 next1) = some (r, stR) ∧ Sub (N10) F2 ∧ Gr A F0 H F2 H13 ∧ Ow H F2 H13 p7 us3 ∧ Rs F2 us3 x7 ∧ Ow H F2 H13 p6 us1 ∧ DkAt A H F2 H13 dk st12) ⟨N10, _, ([] : List Int), _, hm, (Sub.refl _), G18, o39, Rs_nil, o40, dk28⟩ (fun t2 ts4 H1 hW => ?_) (fun H1 hW => ?_)
    · skip
      obtain ⟨F2, st12, x7, us3, hm, s2, G19, o41, fr7, o42, dk29⟩ := hW
      obtain ⟨next2, hnx2⟩ : ∃ nx, nx = fun s => forK (_law_some_rule_c3 x2 x1 r5) ts4 s (_law_some_rule_k4 x5 next1) := ⟨_, rfl⟩
      have hm : (_law_some_rule_c3 x2 x1 r5) (x7, st12) t2 next2 = some (r, stR) := by rw [hnx2]; exact forK_c hm
      rw [_law_some_rule_c3] at hm
      with_reducible refine x_gn ?_
      refine ⟨rfl, ?_⟩
      with_reducible refine x_yes ?_
      refine iteT ?_
      with_reducible refine x_op ?_
      refine ⟨_, rfl, ?_⟩
      with_reducible refine x_call ?_
      with_reducible refine x_cons ?_
      refine ⟨_, rfl, ?_⟩
      with_reducible refine x_cons ?_
      refine ⟨_, rfl, ?_⟩
      obtain ⟨⟨r11, st13⟩, hr11, hm⟩ := bindp hm
      refine ⟨_, _, _, _, _, (if x2 < x1 then x2 else x1), r11, st13, rfl, G19.sub, dk29.at_, dk29.nf, (.int _), hr11, fun N11 H14 v17 g18 dk30 d15 => ?_⟩
      have G20 := G19.trans g18
      have o43 := o41.stepA g18 (dk29.out o41)
      have o44 := o42.stepA g18 (dk29.out o42)
      have dk31 := dk29.stepA g18 dk30
      obtain rfl := int_of d15
      refine ⟨_, _, rfl, rfl, ?_⟩
      obtain ⟨c3, hm⟩ := guardp hm
      have G21 := o43.mutG (o := .lst (us3 ++ [(.int (r5 + r11))])) G20
      have o45 := o43.mut (ws := us3 ++ [(.int (r5 + r11))])
      have fr8 : Rs (α := Int) (N11) (us3 ++ [(.int (r5 + r11))]) (x7 ++ [(r5 + r11)]) := Rs_snoc (Rs_mono g18.ex fr7) (.int _)
      have o46 := o44.other (ws := us3 ++ [(.int (r5 + r11))]) (Ne.symm ne11)
      have dk32 := dk31.mut (ws := us3 ++ [(.int (r5 + r11))]) o43
      rw [hnx2] at hm
      exact ⟨_, o43.at_, szl (by rw [Rs_len (Rs_mono g18.ex fr7)]; exact c3), ⟨N11, _, (x7 ++ [(r5 + r11)]), _, hm, (s2.trans g18.ex), G21, o45, fr8, o46, dk32⟩⟩
    · skip
      obtain ⟨F2, st12, x7, us3, hm, s3, G22, o47, fr9, o48, dk33⟩ := hW
      have hm : (_law_some_rule_k4 x5 next1) (x7, st12) = some (r, stR) := forK_n hm
      rw [_law_some_rule_k4] at hm
      with_reducible refine x_gn ?_
      with_reducible refine x_if ?_
      with_reducible refine x_test ?_
      with_reducible refine x_op ?_
      refine ⟨_, rfl, ?_⟩
      refine ⟨_, rfl, ?_⟩
      refine ⟨_, x7, x5, Sub.refl _, (mk_lst o47.at_ (Rs_mono G22.sub fr9)), (mk_lst o48.at_ (Rs_mono G22.sub (Rs_mono s3 (Rs_mono g16.ex fr6)))), ?_⟩
      refine ⟨_, rfl, ?_⟩
      refine ifD (fun hc => ?_) (fun hc => ?_)
      · replace hm := itep hm hc
        with_reducible refine x_drop ?_
        with_reducible refine x_bm ?_
        refine ⟨_, rfl, ?_⟩
        refine ⟨.inl ⟨rfl, _, .inl (.inl o48.at_)⟩, ?_⟩
        with_reducible refine x_cons ?_
        refine ⟨_, rfl, ?_⟩
        have G23 := o47.frz G22
        have ex1 := o47.ex
        have o49 := o48.frzo (Ne.symm (Ne.symm ne11)) o47
        have fa1 : (upd (F2) p7 (.lst us3)) p7 = some (.lst us3) := upd_same
        have fr10 := Rs_mono ex1 fr9
        have dk34 := dk33.frz o47
        obtain ⟨c4, hm⟩ := guardp hm
        refine ⟨_, _, _, rfl, rfl, o49.at_, szl (by rw [Rs_len (Rs_mono ex1 (Rs_mono s3 (Rs_mono g16.ex fr6)))]; exact c4), ?_⟩
        have G24 := o49.mutG (o := .lst (us1 ++ [(.ref p7)])) G23
        have o50 := o49.mut (ws := us1 ++ [(.ref p7)])
        have dk35 := dk34.mut (ws := us1 ++ [(.ref p7)]) o49
        have fr11 : Rs (α := (List Int)) (upd (F2) p7 (.lst us3)) (us1 ++ [(.ref p7)]) (x5 ++ [x7]) := Rs_snoc (Rs_mono ex1 (Rs_mono s3 (Rs_mono g16.ex fr6))) (mk_lst ((Sub.refl _) _ _ fa1) (Rs_mono (Sub.refl _) fr10))
        rw [hnx1] at hm
        exact ⟨_, _, (x5 ++ [x7]), _, _, _, _, hm, (((s1.trans g16.ex).trans s3).trans ex1), G24, o50, fr11, dk35, rfl⟩
      · replace hm := iten hm (bF hc)
        with_reducible refine x_next ?_
        rw [hnx1] at hm
        exact ⟨F2, _, x5, _, _, _, _, hm, ((s1.trans g16.ex).trans s3), G22, o48, (Rs_mono s3 (Rs_mono g16.ex fr6)), dk33, rfl⟩
  · skip
    obtain ⟨F1, st10, x5, p6, us1, y1, y2, hm, s4, G25, o51, fr12, dk36, rfl⟩ := hW
    have hm : (_law_some_rule_e2 x1) (x5, st10) = some (r, stR) := forK_n hm
    rw [_law_some_rule_e2] at hm
    with_reducible refine x_ret ?_
    with_reducible refine x_tup ?_
    with_reducible refine x_cons ?_
    refine ⟨_, rfl, ?_⟩
    with_reducible refine x_cons ?_
    with_reducible refine x_cb ?_
    with_reducible refine x_cons ?_
    refine ⟨_, rfl, ?_⟩
    obtain ⟨c5, hm⟩ := guardp hm
    refine ⟨_, _, _, x5, rfl, o51.at_, G25.sub, fr12, c5, fun p8 us4 np7 fr13 => ?_⟩
    have g19 := Gr.newO (o := .lst us4) G25.sub np7
    have o52 := Ow.new (us := us4) G25 np7
    have ne12 := o51.ne_new np7
    have G26 := G25.step g19
    have o53 := o51.step g19
    have dk37 := dk36.step g19
    have G27 := o52.frz G26
    have ex2 := o52.ex
    have o54 := o53.frzo (Ne.symm (Ne.symm ne12)) o52
    have fa2 : (upd (F1) p8 (.lst us4)) p8 = some (.lst us4) := upd_same
    have fr14 := Rs_mono ex2 fr13
    have dk38 := dk37.frz o52
    refine ⟨szle (show 2 ≤ 16777216 from by decide), fun p9 np8 => ?_⟩
    have g20 := Gr.new (o := .tup [(.int x1), (.ref p8)]) G27.sub np8
    have G28 := G27.step g20
    have o55 := o54.step g20
    have dk39 := dk38.step g20
    have fa3 : (upd (upd (F1) p8 (.lst us4)) p9 (.tup [(.int x1), (.ref p8)])) p9 = some (.tup [(.int x1), (.ref p8)]) := upd_same
    obtain ⟨rfl, rfl⟩ := pairp hm
    exact q _ _ _ G28 dk39.at_ (mk_tup2 ((Sub.refl _) _ _ fa3) (.int _) (mk_lst (g20.ex _ _ fa2) (Rs_mono g20.ex fr14)))

def law_b1 : ((List ((Option (List Int)) × (Option (List Int)))) × DkS) → Int → (((List ((Option (List Int)) × (Option (List Int)))) × DkS) → Option Bool) → Option Bool
  | (x1, st1), t1, next1 => ((_law_some_rule st1).bind fun (r1, st2) => ((_law_right st2 x1 r1).bind fun (r2, x2, st3) => (if (!r2) = true then (some false) else (next1 (x2, st3)))))
def law_c3 : ((List ((Option (List Int)) × (Option (List Int)))) × DkS) → ((Option (List Int)) × (Option (List Int))) → (((List ((Option (List Int)) × (Option (List Int)))) × DkS) → Option Bool) → Option Bool
  | (x4, st4), t2, next2 => (if (!eqT (t2).1 (t2).2) = true then (if x4.length < 16777216 then (next2 ((x4 ++ [t2]), st4)) else none) else (next2 (x4, st4)))
def law_k4 : ((List ((Option (List Int)) × (Option (List Int)))) × DkS) → Option Bool
  | (x4, st4) => (if (!eqT x4 ([] : (List ((Option (List Int)) × (Option (List Int)))))) = true then (some false) else ((all_stands ((10 : Int), ([([(1 : Int), (3 : Int)] : (List Int)), ([(7 : Int)] : (List Int))] : (List (List Int))))).bind fun r3 => (if (eqT r3 ([([] : (List Int)), ([(1 : Int)] : (List Int))] : (List (List Int)))) = true then ((step_from ((10 : Int), ([([(1 : Int), (3 : Int)] : (List Int))] : (List (List Int)))) ([(1 : Int)] : (List Int)) (3 : Int)).bind fun r4 => (some (r4).isNone)) else (some false))))
def law_e2 : ((List ((Option (List Int)) × (Option (List Int)))) × DkS) → Option Bool
  | (x1, st1) => (forK (law_c3) (x1) ([], st1) (law_k4))
def law (ns : List Int) : Option Bool :=
  (forK (law_b1) (irange 0 (14 : Int)) (([] : (List ((Option (List Int)) × (Option (List Int))))), (mkDeck ns)) (law_e2))
abbrev N_law : List Str := ["script", "deck", "held", "k", "one"]
theorem sc_law : FnScope N_law ["script"] (defScope s_law) := ⟨rfl, rfl, rfl, by decide +kernel, rfl, by decide +kernel, by decide +kernel⟩
def sp_law (K : PySem.W.Frag) : Sp := fun vs H Q _ => ∃ (a : Addr) (ns : List Int), vs = [.ref a] ∧ SqL K H a (ns.map V.int) ∧ law ns = some true ∧ ∀ H2, Q (.bl true) H2
theorem ok_law {P : Program} {w : World} {K : PySem.W.Frag} {mg : Str → Option Value} {base : Heap} (T : Txt K mg) : FnOk P w K mg base CX0 10 T.f_law.f T.f_law.fd ["script"] (sp_law K) := by
  have nd := sc_law.nd
  refine T.f_law.F.ok sc_law (fun vs H Q E h => ?_) (fun cdv A0 outer s Hx vs Q E hr h => ?_)
  · obtain ⟨_, _, rfl, _⟩ := h
    rfl
  obtain ⟨a0, ns, rfl, hS, hm, q⟩ := h
  refine ⟨_, (pss_cons (ps_set (i := 1) nd rfl (by first | exact Or.inl rfl | exact Or.inr rfl) (pe_call (ok__law_deck T) (hr.mono (by decide)) (by rfl) T.f__law_deck.g T.f__law_deck.F.kp T.f__law_deck.b .nil pass0 (pa_cons (pv 0) pa_nil))) (pss_cons (ps_set (i := 2) nd rfl (by first | exact Or.inl rfl | exact Or.inr rfl) (pe_lst pa_nil)) (pss_cons (ps_for PassesOwn.never rfl (pi_range1 (by rfl) T.z_range (pa_cons pe_int pa_nil)) (pg_name (i := 3) nd rfl (by first | exact Or.inl rfl | exact Or.inr rfl)) (pss_one (ps_if (pt_not (pt_val (pe_call (ok__law_right T) (hr.mono (by decide)) (by rfl) T.f__law_right.g T.f__law_right.F.kp T.f__law_right.b .nil pass0 (pa_cons (pv 1) (pa_cons (pe_call (ok__law_some_rule T) (hr.mono (by decide)) (by rfl) T.f__law_some_rule.g T.f__law_some_rule.F.kp T.f__law_some_rule.b .nil pass0 (pa_cons (pv 1) pa_nil)) (pa_cons (pv 2) pa_nil)))))) (pss_one (ps_ret pe_bl)) pss_nil))) (pss_cons (ps_if (pt_cmpR (op_neT (α := (List ((Option (List Int)) × (Option (List Int))))) (by decide) (hu64 hr)) (pe_lc (own := [("one", 4)]) (g := (gName 4)) rfl nd (pi_list (pv 2)) (blkOk_by (own := [("one", 4)]) (N := N_law) (sc := defScope s_law) (by decide +kernel)) (fun _ _ _ _ _ => pg_name (i := 4) nd rfl (Or.inl rfl)) (fun _ _ _ _ _ => pts_one (pt_cmpR (op_neT (α := (Option (List Int))) (by decide) (hu64 hr)) (pe_ix (r := rIxT K) ix_tup (pv 4) pe_int (fun _ _ => rfl)) (pe_ix (r := rIxT K) ix_tup (pv 4) pe_int (fun _ _ => rfl)) (nomark _))) (fun _ _ _ _ _ => (pv 4))) (pe_lst pa_nil) (nomark _)) (pss_one (ps_ret pe_bl)) pss_nil) (pss_one (ps_ret (pe_and (pe_cmpR (op_eqT (α := (List (List Int))) (by decide) (hu64 hr)) (pe_call (ok_all_stands T) (hr.mono (by decide)) (by rfl) T.f_all_stands.g T.f_all_stands.F.kp T.f_all_stands.b .nil pass0 (pa_cons (pe_tup (pa_cons pe_int (pa_cons (pe_lst (pa_cons (pe_lst (pa_cons pe_int (pa_cons pe_int pa_nil))) (pa_cons (pe_lst (pa_cons pe_int pa_nil)) pa_nil))) pa_nil))) pa_nil)) (pe_lst (pa_cons (pe_lst pa_nil) (pa_cons (pe_lst (pa_cons pe_int pa_nil)) pa_nil))) (nomark _)) (pe_one (pe_cmp (pc_isN (pe_call (ok_step_from T) (hr.mono (by decide)) (by rfl) T.f_step_from.g T.f_step_from.F.kp T.f_step_from.b .nil pass0 (pa_cons (pe_tup (pa_cons pe_int (pa_cons (pe_lst (pa_cons (pe_lst (pa_cons pe_int (pa_cons pe_int pa_nil))) pa_nil)) pa_nil))) (pa_cons (pe_lst (pa_cons pe_int pa_nil)) (pa_cons pe_int pa_nil)))))))))))))), ?_⟩
  rw [law] at hm
  with_reducible refine x_seq ?_
  with_reducible refine x_asg ?_
  with_reducible refine x_call ?_
  with_reducible refine x_cons ?_
  refine ⟨_, rfl, ?_⟩
  refine ⟨_, ns, rfl, hS, fun H dk A k1 hdk hA => ?_⟩
  with_reducible refine x_gn ?_
  obtain ⟨F0, hF0⟩ : ∃ F : Hp, F = fun _ => none := ⟨_, rfl⟩
  have s0 : Sub F0 H := fun a o e => by rw [hF0] at e; cases e
  have G0 : Gr A F0 H F0 H := Gr.refl s0
  have dk0 : DkAt A H F0 H dk (mkDeck ns) := ⟨hdk, fun a _ => by rw [hF0], fun _ h => hdk.there h⟩
  with_reducible refine x_seq ?_
  with_reducible refine x_asg ?_
  with_reducible refine x_lst ?_
  refine ⟨szle (show 0 ≤ 16777216 from by decide), fun p1 np1 => ?_⟩
  have fr1 : Rs (α := ((Option (List Int)) × (Option (List Int)))) (F0) [] ([] : (List ((Option (List Int)) × (Option (List Int))))) := Rs_nil
  have g1 := Gr.newO (o := .lst []) G0.sub np1
  have o1 := Ow.new (us := []) G0 np1
  have G1 := G0.step g1
  have dk1 := dk0.step g1
  with_reducible refine x_gn ?_
  with_reducible refine x_seq ?_
  with_reducible refine x_for ?_
  with_reducible refine x_rng1 ?_
  with_reducible refine x_cons ?_
  with_reducible refine x_c ?_
  refine ⟨_, rfl, (show Rg1 (14 : Int) from by decide).lo, (show Rg1 (14 : Int) from by decide).hi, ?_⟩
  refine for_rng (lo := 0) (hi := (14 : Int)) (by rw [Int.sub_zero]) (fun (ts1 : List Int) σ H1 => ∃ (F1 : Hp) (st1 : DkS) (x1 : (List ((Option (List Int)) × (Option (List Int))))) (p2 : Addr) (us1 : List V) (y1 : Option V), forK (law_b1) ts1 (x1, st1) (law_e2) = some true ∧ Sub (F0) F1 ∧ Gr A F0 H F1 H1 ∧ Ow H F1 H1 p2 us1 ∧ Rs F1 us1 x1 ∧ DkAt A H F1 H1 dk st1 ∧ σ = [some (.ref a0), some (.ref dk), some (.ref p2), y1, none]) ⟨F0, _, ([] : (List ((Option (List Int)) × (Option (List Int))))), _, _, _, hm, (Sub.refl _), G1, o1, fr1, dk1, rfl⟩ (fun t1 ts2 σ H1 hW => ?_) (fun σ H1 hW => ?_)
  · skip
    obtain ⟨F1, st1, x1, p2, us1, y1, hm, s1, G2, o2, fr2, dk2, rfl⟩ := hW
    obtain ⟨next1, hnx1⟩ : ∃ nx, nx = fun s => forK (law_b1) ts2 s (law_e2) := ⟨_, rfl⟩
    have hm : (law_b1) (x1, st1) t1 next1 = some true := by rw [hnx1]; exact forK_c hm
    rw [law_b1] at hm
    with_reducible refine x_gn ?_
    with_reducible refine x_if ?_
    with_reducible refine x_not ?_
    with_reducible refine x_B ?_
    with_reducible refine x_call ?_
    with_reducible refine x_cons ?_
    refine ⟨_, rfl, ?_⟩
    with_reducible refine x_cons ?_
    with_reducible refine x_call ?_
    with_reducible refine x_cons ?_
    refine ⟨_, rfl, ?_⟩
    obtain ⟨⟨r1, st2⟩, hr1, hm⟩ := bindp hm
    refine ⟨_, _, _, _, r1, st2, rfl, G2.sub, dk2.at_, dk2.nf, hr1, fun N1 H2 v2 g2 dk3 d1 => ?_⟩
    have G3 := G2.trans g2
    have o3 := o2.stepA g2 (dk2.out o2)
    have dk4 := dk2.stepA g2 dk3
    obtain ⟨a1, v3, v4, rfl, fa1, d2, d3⟩ := tup2_of d1
    obtain rfl := int_of d2
    obtain ⟨a2, us2, rfl, fa2, fr3⟩ := lst_of d3
    with_reducible refine x_cons ?_
    refine ⟨_, rfl, ?_⟩
    obtain ⟨⟨r2, x2, st3⟩, hr2, hm⟩ := bindp hm
    refine ⟨_, _, _, _, p2, _, _, r1, r2, x2, st3, rfl, G3.sub, dk4.at_, dk4.nf, ⟨⟨_, o3.at_, (Rs_mono g2.ex fr2)⟩, o3.nf, dk4.out o3⟩, (mk_tup2 ((Sub.refl _) _ _ fa1) (.int _) (mk_lst ((Sub.refl _) _ _ fa2) (Rs_mono (Sub.refl _) fr3))), hr2, fun N2 H3 v5 g3 dk5 hd1 d4 => ?_⟩
    obtain ⟨⟨us3, fa3, fr4⟩, nf1, _⟩ := hd1
    have G4 := G3.transAH g3 o3.n0
    have dk6 := dk4.stepAH g3 dk5
    have o4 : Ow _ N2 H3 p2 us3 := ⟨fa3, nf1, o3.n0⟩
    obtain rfl := bl_of d4
    refine ⟨_, rfl, ?_⟩
    refine ifD (fun hc => ?_) (fun hc => ?_)
    · replace hm := itep hm hc
      with_reducible refine x_ret ?_
      with_reducible refine x_c ?_
      exact ret_true hm q
    · replace hm := iten hm (bF hc)
      with_reducible refine x_next ?_
      rw [hnx1] at hm
      exact ⟨N2, _, x2, _, _, _, hm, ((s1.trans g2.ex).trans g3.ex), G4, o4, fr4, dk6, rfl⟩
  · skip
    obtain ⟨F1, st1, x1, p2, us1, y1, hm, s2, G5, o5, fr5, dk7, rfl⟩ := hW
    have hm : (law_e2) (x1, st1) = some true := forK_n hm
    rw [law_e2] at hm
    with_reducible refine x_seq ?_
    with_reducible refine x_if ?_
    with_reducible refine x_test ?_
    with_reducible refine x_op ?_
    with_reducible refine x_lc ?_
    with_reducible refine x_iter ?_
    refine ⟨_, rfl, ?_⟩
    refine ⟨_, rfl, ⟨_, .inl (.inl o5.at_)⟩, fun p3 np2 => ?_⟩
    have g4 := Gr.newO (o := .lst []) G5.sub np2
    have o6 := Ow.new (us := []) G5 np2
    have ne1 := o5.ne_new np2
    have G6 := G5.step g4
    have o7 := o5.step g4
    have dk8 := dk7.step g4
    refine lc_lst (α := ((Option (List Int)) × (Option (List Int)))) (fun (ts3 : List ((Option (List Int)) × (Option (List Int)))) H4 => ∃ (F2 : Hp) (st4 : DkS) (x4 : List ((Option (List Int)) × (Option (List Int)))) (us5 : List V), forK (law_c3) ts3 (x4, st4) (law_k4) = some true ∧ Sub (F1) F2 ∧ Gr A F0 H F2 H4 ∧ Ow H F2 H4 p3 us5 ∧ Rs F2 us5 x4 ∧ Ow H F2 H4 p2 us1 ∧ DkAt A H F2 H4 dk st4) fr5 ⟨F1, _, ([] : List ((Option (List Int)) × (Option (List Int)))), _, hm, (Sub.refl _), G6, o6, Rs_nil, o7, dk8⟩ (fun _ _ h => ?_) (fun t2 ts4 v6 H1 hv2 hW => ?_) (fun H1 hW => ?_)
    · obtain ⟨F9, _, _, _, _, s9, G9, _, _, q9, _⟩ := h
      exact q9.at_
    · skip
      obtain ⟨F2, st4, x4, us5, hm, s3, G7, o8, fr6, o9, dk9⟩ := hW
      obtain ⟨next2, hnx2⟩ : ∃ nx, nx = fun s => forK (law_c3) ts4 s (law_k4) := ⟨_, rfl⟩
      have hm : (law_c3) (x4, st4) t2 next2 = some true := by rw [hnx2]; exact forK_c hm
      rw [law_c3] at hm
      obtain ⟨a3, v7, v8, rfl, fa4, d5, d6⟩ := tup2_of hv2
      with_reducible refine x_gn ?_
      refine ⟨rfl, ?_⟩
      with_reducible refine x_test ?_
      with_reducible refine x_op ?_
      with_reducible refine x_op ?_
      refine ⟨_, rfl, ?_⟩
      refine ⟨_, _, _, _, rfl, rfl, .inl (.inl ((s3.trans G7.sub) _ _ fa4)), atI_nat (j := 0) rfl, ?_⟩
      with_reducible refine x_op ?_
      refine ⟨_, rfl, ?_⟩
      refine ⟨_, _, _, _, rfl, rfl, .inl (.inl ((s3.trans G7.sub) _ _ fa4)), atI_nat (j := 1) rfl, ?_⟩
      refine ⟨_, (t2).1, (t2).2, Sub.refl _, (RD.mono G7.sub (RD.mono s3 d5)), (RD.mono G7.sub (RD.mono s3 d6)), ?_⟩
      refine ⟨_, rfl, ?_⟩
      refine ifD (fun hc => ?_) (fun hc => ?_)
      · replace hm := itep hm hc
        refine ⟨_, rfl, ?_⟩
        obtain ⟨c1, hm⟩ := guardp hm
        have G8 := o8.mutG (o := .lst (us5 ++ [(.ref a3)])) G7
        have o10 := o8.mut (ws := us5 ++ [(.ref a3)])
        have fr7 : Rs (α := ((Option (List Int)) × (Option (List Int)))) (F2) (us5 ++ [(.ref a3)]) (x4 ++ [t2]) := Rs_snoc fr6 (mk_tup2 (s3 _ _ fa4) (RD.mono s3 d5) (RD.mono s3 d6))
        have o11 := o9.other (ws := us5 ++ [(.ref a3)]) (Ne.symm ne1)
        have dk10 := dk9.mut (ws := us5 ++ [(.ref a3)]) o8
        rw [hnx2] at hm
        exact ⟨_, o8.at_, szl (by rw [Rs_len fr6]; exact c1), ⟨F2, _, (x4 ++ [t2]), _, hm, s3, G8, o10, fr7, o11, dk10⟩⟩
      · replace hm := iten hm (bF hc)
        rw [hnx2] at hm
        exact ⟨F2, _, x4, _, hm, s3, G7, o8, fr6, o9, dk9⟩
    · skip
      obtain ⟨F2, st4, x4, us5, hm, s4, G9, o12, fr8, o13, dk11⟩ := hW
      have hm : (law_k4) (x4, st4) = some true := forK_n hm
      rw [law_k4] at hm
      with_reducible refine x_lst ?_
      refine ⟨szle (show 0 ≤ 16777216 from by decide), fun p4 np3 => ?_⟩
      have fr9 : Rs (α := ((Option (List Int)) × (Option (List Int)))) (F2) [] ([] : (List ((Option (List Int)) × (Option (List Int))))) := Rs_nil
      have g5 := Gr.newO (o := .lst []) G9.sub np3
      have o14 := Ow.new (us := []) G9 np3
      have ne2 := o12.ne_new np3
      have ne3 := o13.ne_new np3
      have G10 := G9.step g5
      have o15 := o12.step g5
      have o16 := o13.step g5
      have dk12 := dk11.step g5
      refine ⟨_, x4, ([] : (List ((Option (List Int)) × (Option (List Int))))), Sub.refl _, (mk_lst o15.at_ (Rs_mono G10.sub fr8)), (mk_lst o14.at_ (Rs_mono G10.sub fr9)), ?_⟩
      refine ⟨_, rfl, ?_⟩
      refine ifD (fun hc => ?_) (fun hc => ?_)
      · replace hm := itep hm hc
        with_reducible refine x_ret ?_
        with_reducible refine x_c ?_
        exact ret_true hm q
      · replace hm := iten hm (bF hc)
        with_reducible refine x_next ?_
        with_reducible refine x_ret ?_
        with_reducible refine x_andV ?_
        with_reducible refine x_op ?_
        with_reducible refine x_call ?_
        with_reducible refine x_cons ?_
        with_reducible refine x_tup ?_
        with_reducible refine x_cons ?_
        with_reducible refine x_c ?_
        with_reducible refine x_cons ?_
        with_reducible refine x_lst ?_
        with_reducible refine x_cons ?_
        with_reducible refine x_lst ?_
        with_reducible refine x_cons ?_
        with_reducible refine x_c ?_
        with_reducible refine x_cons ?_
        with_reducible refine x_c ?_
        refine ⟨szle (show 2 ≤ 16777216 from by decide), fun p5 np4 => ?_⟩
        have fr10 : Rs (α := Int) (F2) [(.int 1), (.int 3)] ([(1 : Int), (3 : Int)] : (List Int)) := (Rs_cons (.int _) (Rs_cons (.int _) Rs_nil))
        have g6 := Gr.newO (o := .lst [(.int 1), (.int 3)]) G10.sub np4
        have o17 := Ow.new (us := [(.int 1), (.int 3)]) G10 np4
        have ne4 := o15.ne_new np4
        have ne5 := o16.ne_new np4
        have ne6 := o14.ne_new np4
        have G11 := G10.step g6
        have o18 := o15.step g6
        have o19 := o16.step g6
        have o20 := o14.step g6
        have dk13 := dk12.step g6
        with_reducible refine x_cons ?_
        with_reducible refine x_lst ?_
        with_reducible refine x_cons ?_
        with_reducible refine x_c ?_
        refine ⟨szle (show 1 ≤ 16777216 from by decide), fun p6 np5 => ?_⟩
        have fr11 : Rs (α := Int) (F2) [(.int 7)] ([(7 : Int)] : (List Int)) := (Rs_cons (.int _) Rs_nil)
        have g7 := Gr.newO (o := .lst [(.int 7)]) G11.sub np5
        have o21 := Ow.new (us := [(.int 7)]) G11 np5
        have ne7 := o18.ne_new np5
        have ne8 := o19.ne_new np5
        have ne9 := o20.ne_new np5
        have ne10 := o17.ne_new np5
        have G12 := G11.step g7
        have o22 := o18.step g7
        have o23 := o19.step g7
        have o24 := o20.step g7
        have o25 := o17.step g7
        have dk14 := dk13.step g7
        have G13 := o25.frz G12
        have ex1 := o25.ex
        have o26 := o22.frzo (Ne.symm (Ne.symm ne4)) o25
        have o27 := o23.frzo (Ne.symm (Ne.symm ne5)) o25
        have o28 := o24.frzo (Ne.symm (Ne.symm ne6)) o25
        have o29 := o21.frzo (Ne.symm ne10) o25
        have fa5 : (upd (F2) p5 (.lst [(.int 1), (.int 3)])) p5 = some (.lst [(.int 1), (.int 3)]) := upd_same
        have fr12 := Rs_mono ex1 fr10
        have dk15 := dk14.frz o25
        have G14 := o29.frz G13
        have ex2 := o29.ex
        have o30 := o26.frzo (Ne.symm (Ne.symm ne7)) o29
        have o31 := o27.frzo (Ne.symm (Ne.symm ne8)) o29
        have o32 := o28.frzo (Ne.symm (Ne.symm ne9)) o29
        have fa6 : (upd (upd (F2) p5 (.lst [(.int 1), (.int 3)])) p6 (.lst [(.int 7)])) p6 = some (.lst [(.int 7)]) := upd_same
        have fr13 := Rs_mono ex2 (Rs_mono ex1 fr11)
        have dk16 := dk15.frz o29
        refine ⟨szle (show 2 ≤ 16777216 from by decide), fun p7 np6 => ?_⟩
        have fr14 : Rs (α := (List Int)) (upd (upd (F2) p5 (.lst [(.int 1), (.int 3)])) p6 (.lst [(.int 7)])) [(.ref p5), (.ref p6)] ([([(1 : Int), (3 : Int)] : (List Int)), ([(7 : Int)] : (List Int))] : (List (List Int))) := (Rs_cons (mk_lst (ex2 _ _ fa5) (Rs_mono ex2 fr12)) (Rs_cons (mk_lst ((Sub.refl _) _ _ fa6) (Rs_mono (Sub.refl _) fr13)) Rs_nil))
        have g8 := Gr.newO (o := .lst [(.ref p5), (.ref p6)]) G14.sub np6
        have o33 := Ow.new (us := [(.ref p5), (.ref p6)]) G14 np6
        have ne11 := o30.ne_new np6
        have ne12 := o31.ne_new np6
        have ne13 := o32.ne_new np6
        have G15 := G14.step g8
        have o34 := o30.step g8
        have o35 := o31.step g8
        have o36 := o32.step g8
        have dk17 := dk16.step g8
        have G16 := o33.frz G15
        have ex3 := o33.ex
        have o37 := o34.frzo (Ne.symm (Ne.symm ne11)) o33
        have o38 := o35.frzo (Ne.symm (Ne.symm ne12)) o33
        have o39 := o36.frzo (Ne.symm (Ne.symm ne13)) o33
        have fa7 : (upd (upd (upd (F2) p5 (.lst [(.int 1), (.int 3)])) p6 (.lst [(.int 7)])) p7 (.lst [(.ref p5), (.ref p6)])) p7 = some (.lst [(.ref p5), (.ref p6)]) := upd_same
        have fr15 := Rs_mono ex3 fr14
        have dk18 := dk17.frz o33
        refine ⟨szle (show 2 ≤ 16777216 from by decide), fun p8 np7 => ?_⟩
        have g9 := Gr.new (o := .tup [(.int 10), (.ref p7)]) G16.sub np7
        have G17 := G16.step g9
        have o40 := o37.step g9
        have o41 := o38.step g9
        have o42 := o39.step g9
        have dk19 := dk18.step g9
        have fa8 : (upd (upd (upd (upd (F2) p5 (.lst [(.int 1), (.int 3)])) p6 (.lst [(.int 7)])) p7 (.lst [(.ref p5), (.ref p6)])) p8 (.tup [(.int 10), (.ref p7)])) p8 = some (.tup [(.int 10), (.ref p7)]) := upd_same
        obtain ⟨r3, hr3, hm⟩ := bindp hm
        refine ⟨_, _, ((10 : Int), ([([(1 : Int), (3 : Int)] : (List Int)), ([(7 : Int)] : (List Int))] : (List (List Int)))), r3, rfl, G17.sub, (mk_tup2 ((Sub.refl _) _ _ fa8) (.int _) (mk_lst (g9.ex _ _ fa7) (Rs_mono g9.ex fr15))), hr3, fun N3 H5 v9 g10 d7 => ?_⟩
        have G18 := G17.step g10
        have o43 := o40.step g10
        have o44 := o41.step g10
        have o45 := o42.step g10
        have dk20 := dk19.step g10
        obtain ⟨a4, us6, rfl, fa9, fr16⟩ := lst_of (NR_r d7)
        with_reducible refine x_lst ?_
        with_reducible refine x_cons ?_
        with_reducible refine x_lst ?_
        refine ⟨szle (show 0 ≤ 16777216 from by decide), fun p9 np8 => ?_⟩
        have fr17 : Rs (α := Int) (N3) [] ([] : (List Int)) := Rs_nil
        have g11 := Gr.newO (o := .lst []) G18.sub np8
        have o46 := Ow.new (us := []) G18 np8
        have ne14 := o43.ne_new np8
        have ne15 := o44.ne_new np8
        have ne16 := o45.ne_new np8
        have G19 := G18.step g11
        have o47 := o43.step g11
        have o48 := o44.step g11
        have o49 := o45.step g11
        have dk21 := dk20.step g11
        with_reducible refine x_cons ?_
        with_reducible refine x_lst ?_
        with_reducible refine x_cons ?_
        with_reducible refine x_c ?_
        refine ⟨szle (show 1 ≤ 16777216 from by decide), fun p10 np9 => ?_⟩
        have fr18 : Rs (α := Int) (N3) [(.int 1)] ([(1 : Int)] : (List Int)) := (Rs_cons (.int _) Rs_nil)
        have g12 := Gr.newO (o := .lst [(.int 1)]) G19.sub np9
        have o50 := Ow.new (us := [(.int 1)]) G19 np9
        have ne17 := o47.ne_new np9
        have ne18 := o48.ne_new np9
        have ne19 := o49.ne_new np9
        have ne20 := o46.ne_new np9
        have G20 := G19.step g12
        have o51 := o47.step g12
        have o52 := o48.step g12
        have o53 := o49.step g12
        have o54 := o46.step g12
        have dk22 := dk21.step g12
        have G21 := o54.frz G20
        have ex4 := o54.ex
        have o55 := o51.frzo (Ne.symm (Ne.symm ne14)) o54
        have o56 := o52.frzo (Ne.symm (Ne.symm ne15)) o54
        have o57 := o53.frzo (Ne.symm (Ne.symm ne16)) o54
        have o58 := o50.frzo (Ne.symm ne20) o54
        have fa10 : (upd (N3) p9 (.lst [])) p9 = some (.lst []) := upd_same
        have fr19 := Rs_mono ex4 fr17
        have dk23 := dk22.frz o54
        have G22 := o58.frz G21
        have ex5 := o58.ex
        have o59 := o55.frzo (Ne.symm (Ne.symm ne17)) o58
        have o60 := o56.frzo (Ne.symm (Ne.symm ne18)) o58
        have o61 := o57.frzo (Ne.symm (Ne.symm ne19)) o58
        have fa11 : (upd (upd (N3) p9 (.lst [])) p10 (.lst [(.int 1)])) p10 = some (.lst [(.int 1)]) := upd_same
        have fr20 := Rs_mono ex5 (Rs_mono ex4 fr18)
        have dk24 := dk23.frz o58
        refine ⟨szle (show 2 ≤ 16777216 from by decide), fun p11 np10 => ?_⟩
        have fr21 : Rs (α := (List Int)) (upd (upd (N3) p9 (.lst [])) p10 (.lst [(.int 1)])) [(.ref p9), (.ref p10)] ([([] : (List Int)), ([(1 : Int)] : (List Int))] : (List (List Int))) := (Rs_cons (mk_lst (ex5 _ _ fa10) (Rs_mono ex5 fr19)) (Rs_cons (mk_lst ((Sub.refl _) _ _ fa11) (Rs_mono (Sub.refl _) fr20)) Rs_nil))
        have g13 := Gr.newO (o := .lst [(.ref p9), (.ref p10)]) G22.sub np10
        have o62 := Ow.new (us := [(.ref p9), (.ref p10)]) G22 np10
        have ne21 := o59.ne_new np10
        have ne22 := o60.ne_new np10
        have ne23 := o61.ne_new np10
        have G23 := G22.step g13
        have o63 := o59.step g13
        have o64 := o60.step g13
        have o65 := o61.step g13
        have dk25 := dk24.step g13
        refine ⟨_, r3, ([([] : (List Int)), ([(1 : Int)] : (List Int))] : (List (List Int))), Sub.refl _, (RD.mono G23.sub (mk_lst ((ex4.trans ex5) _ _ fa9) (Rs_mono (ex4.trans ex5) fr16))), (mk_lst o62.at_ (Rs_mono G23.sub fr21)), ?_⟩
        refine ⟨_, rfl, ?_⟩
        refine ifD (fun hc => ?_) (fun hc => ?_)
        · replace hm := itep hm hc
          with_reducible refine x_isN' ?_
          with_reducible refine x_call ?_
          with_reducible refine x_cons ?_
          with_reducible refine x_tup ?_
          with_reducible refine x_cons ?_
          with_reducible refine x_c ?_
          with_reducible refine x_cons ?_
          with_reducible refine x_lst ?_
          with_reducible refine x_cons ?_
          with_reducible refine x_lst ?_
          with_reducible refine x_cons ?_
          with_reducible refine x_c ?_
          with_reducible refine x_cons ?_
          with_reducible refine x_c ?_
          refine ⟨szle (show 2 ≤ 16777216 from by decide), fun p12 np11 => ?_⟩
          have fr22 : Rs (α := Int) (upd (upd (N3) p9 (.lst [])) p10 (.lst [(.int 1)])) [(.int 1), (.int 3)] ([(1 : Int), (3 : Int)] : (List Int)) := (Rs_cons (.int _) (Rs_cons (.int _) Rs_nil))
          have g14 := Gr.newO (o := .lst [(.int 1), (.int 3)]) G23.sub np11
          have o66 := Ow.new (us := [(.int 1), (.int 3)]) G23 np11
          have ne24 := o63.ne_new np11
          have ne25 := o64.ne_new np11
          have ne26 := o65.ne_new np11
          have ne27 := o62.ne_new np11
          have G24 := G23.step g14
          have o67 := o63.step g14
          have o68 := o64.step g14
          have o69 := o65.step g14
          have o70 := o62.step g14
          have dk26 := dk25.step g14
          have G25 := o66.frz G24
          have ex6 := o66.ex
          have o71 := o67.frzo (Ne.symm (Ne.symm ne24)) o66
          have o72 := o68.frzo (Ne.symm (Ne.symm ne25)) o66
          have o73 := o69.frzo (Ne.symm (Ne.symm ne26)) o66
          have o74 := o70.frzo (Ne.symm (Ne.symm ne27)) o66
          have fa12 : (upd (upd (upd (N3) p9 (.lst [])) p10 (.lst [(.int 1)])) p12 (.lst [(.int 1), (.int 3)])) p12 = some (.lst [(.int 1), (.int 3)]) := upd_same
          have fr23 := Rs_mono ex6 fr22
          have dk27 := dk26.frz o66
          refine ⟨szle (show 1 ≤ 16777216 from by decide), fun p13 np12 => ?_⟩
          have fr24 : Rs (α := (List Int)) (upd (upd (upd (N3) p9 (.lst [])) p10 (.lst [(.int 1)])) p12 (.lst [(.int 1), (.int 3)])) [(.ref p12)] ([([(1 : Int), (3 : Int)] : (List Int))] : (List (List Int))) := (Rs_cons (mk_lst ((Sub.refl _) _ _ fa12) (Rs_mono (Sub.refl _) fr23)) Rs_nil)
          have g15 := Gr.newO (o := .lst [(.ref p12)]) G25.sub np12
          have o75 := Ow.new (us := [(.ref p12)]) G25 np12
          have ne28 := o71.ne_new np12
          have ne29 := o72.ne_new np12
          have ne30 := o73.ne_new np12
          have ne31 := o74.ne_new np12
          have G26 := G25.step g15
          have o76 := o71.step g15
          have o77 := o72.step g15
          have o78 := o73.step g15
          have o79 := o74.step g15
          have dk28 := dk27.step g15
          have G27 := o75.frz G26
          have ex7 := o75.ex
          have o80 := o76.frzo (Ne.symm (Ne.symm ne28)) o75
          have o81 := o77.frzo (Ne.symm (Ne.symm ne29)) o75
          have o82 := o78.frzo (Ne.symm (Ne.symm ne30)) o75
          have o83 := o79.frzo (Ne.symm (Ne.symm ne31)) o75
          have fa13 : (upd (upd (upd (upd (N3) p9 (.lst [])) p10 (.lst [(.int 1)])) p12 (.lst [(.int 1), (.int 3)])) p13 (.lst [(.ref p12)])) p13 = some (.lst [(.ref p12)]) := upd_same
          have fr25 := Rs_mono ex7 fr24
          have dk29 := dk28.frz o75
          refine ⟨szle (show 2 ≤ 16777216 from by decide), fun p14 np13 => ?_⟩
          have g16 := Gr.new (o := .tup [(.int 10), (.ref p13)]) G27.sub np13
          have G28 := G27.step g16
          have o84 := o80.step g16
          have o85 := o81.step g16
          have o86 := o82.step g16
          have o87 := o83.step g16
          have dk30 := dk29.step g16
          have fa14 : (upd (upd (upd (upd (upd (N3) p9 (.lst [])) p10 (.lst [(.int 1)])) p12 (.lst [(.int 1), (.int 3)])) p13 (.lst [(.ref p12)])) p14 (.tup [(.int 10), (.ref p13)])) p14 = some (.tup [(.int 10), (.ref p13)]) := upd_same
          with_reducible refine x_cons ?_
          with_reducible refine x_lst ?_
          with_reducible refine x_cons ?_
          with_reducible refine x_c ?_
          refine ⟨szle (show 1 ≤ 16777216 from by decide), fun p15 np14 => ?_⟩
          have fr26 : Rs (α := Int) (upd (upd (upd (upd (upd (N3) p9 (.lst [])) p10 (.lst [(.int 1)])) p12 (.lst [(.int 1), (.int 3)])) p13 (.lst [(.ref p12)])) p14 (.tup [(.int 10), (.ref p13)])) [(.int 1)] ([(1 : Int)] : (List Int)) := (Rs_cons (.int _) Rs_nil)
          have g17 := Gr.newO (o := .lst [(.int 1)]) G28.sub np14
          have o88 := Ow.new (us := [(.int 1)]) G28 np14
          have ne32 := o84.ne_new np14
          have ne33 := o85.ne_new np14
          have ne34 := o86.ne_new np14
          have ne35 := o87.ne_new np14
          have G29 := G28.step g17
          have o89 := o84.step g17
          have o90 := o85.step g17
          have o91 := o86.step g17
          have o92 := o87.step g17
          have dk31 := dk30.step g17
          with_reducible refine x_cons ?_
          with_reducible refine x_c ?_
          have G30 := o88.frz G29
          have ex8 := o88.ex
          have o93 := o89.frzo (Ne.symm (Ne.symm ne32)) o88
          have o94 := o90.frzo (Ne.symm (Ne.symm ne33)) o88
          have o95 := o91.frzo (Ne.symm (Ne.symm ne34)) o88
          have o96 := o92.frzo (Ne.symm (Ne.symm ne35)) o88
          have fa15 : (upd (upd (upd (upd (upd (upd (N3) p9 (.lst [])) p10 (.lst [(.int 1)])) p12 (.lst [(.int 1), (.int 3)])) p13 (.lst [(.ref p12)])) p14 (.tup [(.int 10), (.ref p13)])) p15 (.lst [(.int 1)])) p15 = some (.lst [(.int 1)]) := upd_same
          have fr27 := Rs_mono ex8 fr26
          have dk32 := dk31.frz o88
          obtain ⟨r4, hr4, hm⟩ := bindp hm
          refine ⟨_, _, _, _, ((10 : Int), ([([(1 : Int), (3 : Int)] : (List Int))] : (List (List Int)))), ([(1 : Int)] : (List Int)), (3 : Int), r4, rfl, G30.sub, (mk_tup2 (ex8 _ _ fa14) (.int _) (mk_lst ((g16.ex.trans ex8) _ _ fa13) (Rs_mono (g16.ex.trans ex8) fr25))), (mk_lst ((Sub.refl _) _ _ fa15) (Rs_mono (Sub.refl _) fr27)), (.int _), hr4, fun N4 H6 v10 g18 d8 fz1 => ?_⟩
          have z1 := Fz.up G30 fz1
          have G31 := G30.step g18
          have o97 := o93.step g18
          have o98 := o94.step g18
          have o99 := o95.step g18
          have o100 := o96.step g18
          have dk33 := dk32.step g18
          refine ⟨_, isN_opt (RD.mono (Sub.refl _) d8), ?_⟩
          exact ret_true hm q
        · replace hm := iten hm (bF hc)
          exact ret_true hm q

/-! ### mathematics, with no program in sight -/
section
/-- an answer is there, and it is so -/
def Ok {α : Type} (o : Option α) (Q : α → Prop) : Prop := ∃ x, o = some x ∧ Q x
variable {α β S ρ : Type} {Q : ρ → Prop}
theorem Ok.mk {x : α} {Q : α → Prop} (h : Q x) : Ok (some x) Q := ⟨x, rfl, h⟩
theorem Ok.bind {o : Option α} {f : α → Option ρ} {P : α → Prop} (h : Ok o P) (k : ∀ x, P x → Ok (f x) Q) : Ok (o.bind f) Q := by
  obtain ⟨x, rfl, p⟩ := h
  exact k x p
theorem Ok.mono {o : Option ρ} {P : ρ → Prop} (h : Ok o P) (k : ∀ x, P x → Q x) : Ok o Q := by
  obtain ⟨x, e, p⟩ := h
  exact ⟨x, e, k x p⟩
theorem Ok.guard {c : Prop} [Decidable c] {a : Option ρ} (hc : c) (h : Ok a Q) : Ok (if c then a else none) Q := by rw [if_pos hc]; exact h
theorem Ok.ite {c : Prop} [Decidable c] {a b : Option ρ} (h1 : c → Ok a Q) (h2 : ¬ c → Ok b Q) : Ok (if c then a else b) Q := by
  by_cases h : c
  · rw [if_pos h]; exact h1 h
  · rw [if_neg h]; exact h2 h
theorem Ok.eq {o : Option ρ} {x : ρ} (h : Ok o (· = x)) : o = some x := by
  obtain ⟨y, e, rfl⟩ := h
  exact e
theorem Ok.of {o : Option ρ} {x : ρ} (h : o = some x) (q : Q x) : Ok o Q := ⟨x, h, q⟩
theorem forK_ok {f : S → α → (S → Option ρ) → Option ρ} {K : S → Option ρ} {P : S → Prop} : ∀ {xs : List α} {s : S}, P s →
    (∀ s x next, x ∈ xs → P s → (∀ s', P s' → Ok (next s') Q) → Ok (f s x next) Q) → (∀ s, P s → Ok (K s) Q) → Ok (forK f xs s K) Q
  | [], s, h0, _, hK => hK s h0
  | x :: xs, s, h0, hs, hK => hs s x _ List.mem_cons_self h0 fun s' h' => forK_ok h' (fun s y next hy => hs s y next (List.mem_cons_of_mem _ hy)) hK
/-- with what has been gone through -/
theorem forK_okI {f : S → α → (S → Option ρ) → Option ρ} {K : S → Option ρ} {P : List α → S → Prop} {xs : List α} {s : S} (h0 : P [] s)
    (hs : ∀ pre x post s next, xs = pre ++ x :: post → P pre s → (∀ s', P (pre ++ [x]) s' → Ok (next s') Q) → Ok (f s x next) Q) (hK : ∀ s, P xs s → Ok (K s) Q) : Ok (forK f xs s K) Q := by
  have all : ∀ (post pre : List α) (s : S), xs = pre ++ post → P pre s → Ok (forK f post s K) Q := by
    intro post
    induction post with
    | nil => intro pre s e h; rw [List.append_nil] at e; subst e; exact hK s h
    | cons x post ih =>
      intro pre s e h
      exact hs pre x post s _ e h fun s' h' => ih (pre ++ [x]) s' (by rw [e, List.append_assoc]; rfl) h'
  exact all xs [] s rfl h0
theorem whileK_ok {f : S → (S → Option ρ) → Option ρ} {P : S → Prop} (μ : S → Nat) (h : ∀ s next, P s → (∀ s', P s' → μ s' < μ s → Ok (next s') Q) → Ok (f s next) Q) :
    ∀ (m : Nat) (s : S), P s → μ s < m → Ok (whileK f m s) Q
  | 0, _, _, hm => absurd hm (Nat.not_lt_zero _)
  | m + 1, s, hp, hm => h s _ hp fun s' hp' hl => whileK_ok μ h m s' hp' (Nat.lt_of_lt_of_le hl (Nat.le_of_lt_succ hm))
/-- a loop that leaves early or goes on -/
theorem forK_stop {f : S → α → (S → Option ρ) → Option ρ} {K : S → Option ρ} {p : α → Bool} {c : Option ρ} {s : S} (h : ∀ x next, f s x next = if p x = true then c else next s) : ∀ xs : List α, forK f xs s K = if xs.any p = true then c else K s
  | [] => rfl
  | x :: xs => by
    show f s x _ = _
    rw [h, forK_stop h xs, List.any_cons]
    cases p x <;> simp
theorem forK_fold {f : S → α → (S → Option ρ) → Option ρ} {K : S → Option ρ} {g : S → α → S} (h : ∀ s x next, f s x next = next (g s x)) : ∀ (xs : List α) (s : S), forK f xs s K = K (xs.foldl g s)
  | [], _ => rfl
  | x :: xs, s => by
    show f s x _ = _
    rw [h]; exact forK_fold h xs _
/-- a comprehension whose element and test are total -/
theorem forK_fm {f : List β → α → (List β → Option ρ) → Option ρ} {K : List β → Option ρ} {p : α → Bool} {g : α → β} {B : Nat} (h : ∀ acc x next, acc.length < B → f acc x next = if p x = true then next (acc ++ [g x]) else next acc) :
    ∀ (xs : List α) (acc : List β), acc.length + xs.length ≤ B → forK f xs acc K = K (acc ++ (xs.filter p).map g)
  | [], acc, _ => by rw [List.filter_nil, List.map_nil, List.append_nil]; rfl
  | x :: xs, acc, hB => by
    rw [List.length_cons] at hB
    show f acc x _ = _
    rw [h acc x _ (by omega), List.filter_cons]
    cases hp : p x with
    | true =>
      rw [if_pos rfl, if_pos rfl, List.map_cons]
      have := forK_fm (K := K) h xs (acc ++ [g x]) (by rw [List.length_append, List.length_singleton]; omega)
      rw [List.append_assoc] at this
      exact this
    | false =>
      rw [if_neg Bool.false_ne_true, if_neg Bool.false_ne_true]
      exact forK_fm h xs acc (by omega)
end
theorem irange_mem {lo hi x : Int} : x ∈ irange lo hi ↔ lo ≤ x ∧ x < hi := by
  unfold irange
  rw [List.mem_map]
  constructor
  · rintro ⟨i, hi', rfl⟩
    rw [List.mem_range] at hi'
    omega
  · intro h
    exact ⟨(x - lo).toNat, by rw [List.mem_range]; omega, by omega⟩
theorem sz_ok {n : Nat} (h : n < 100000) : n < 16777216 := by omega
theorem Mv_of {i j : Int} {a b : Nat} (ha : i.natAbs < 2 ^ a) (hb : j.natAbs < 2 ^ b) (h0 : 0 < a) (h1 : 0 < b) (h : a + b ≤ 1000000) : Mv i j := wide_mul ha hb h0 h1 h
theorem Dv_small {j : Int} (h : 0 < j) (h2 : j < 2 ^ 64) : Dv j := (wide_div (i := 0) (b := 64) h (by omega) (by decide) (by decide) : CDivW 0 j)
theorem Dv_of {j : Int} {b : Nat} (h : 0 < j) (h2 : j.natAbs < 2 ^ b) (h0 : 0 < b) (h9 : b ≤ 9000) : Dv j := (wide_div (i := 0) h h2 h0 h9 : CDivW 0 j)

/-! #### draws -/
def DkOk (st : DkS) : Prop := st.1 ≠ []
theorem mkDeck_ok (ns : List Int) : DkOk (mkDeck ns) := by
  unfold DkOk mkDeck
  have h : 1 ≤ deckLen ns := by unfold deckLen; omega
  intro e
  have := congrArg List.length e
  simp at this
  omega
theorem draw_ok {st : DkS} {many : Int} (h : DkOk st) (h0 : 0 < many) (h1 : many < 2 ^ 64) : Ok (_law_draw st many) fun p => (0 ≤ p.1 ∧ p.1 < many) ∧ DkOk p.2 := by
  unfold _law_draw
  refine Ok.guard (Dv_small h0 h1) ?_
  have hl : 0 < st.1.length := List.length_pos_iff.mpr h
  have e1 := Int.emod_nonneg st.2 (show (st.1.length : Int) ≠ 0 by omega)
  have e2 := Int.emod_lt_of_pos st.2 (show (0 : Int) < (st.1.length : Int) by omega)
  have hi : (st.2 % (st.1.length : Int)).toNat < st.1.length := by omega
  rw [List.getElem?_eq_getElem hi]
  show Ok (if _ then _ else _) _
  have ok2 : ∀ p : Int × Int × Int, DkOk (st.1.set (st.2 % (st.1.length : Int)).toNat p, st.2 + 1) := fun p e => by
    have := congrArg List.length e
    simp only [List.length_set, List.length_nil] at this
    omega
  refine Ok.ite (fun _ => ?_) (fun _ => ?_)
  · exact Ok.mk ⟨⟨Int.emod_nonneg _ (by omega), Int.emod_lt_of_pos _ h0⟩, ok2 _⟩
  · exact Ok.mk ⟨⟨Int.emod_nonneg _ (by omega), Int.emod_lt_of_pos _ h0⟩, ok2 _⟩

/-! #### figures of numbers -/
/-- how many binary places -/
def lg (n : Int) : Nat := if n ≤ 0 then 0 else Nat.log2 n.toNat + 1
theorem lg_le {n : Int} {k : Nat} (h : n < 2 ^ k) : lg n ≤ k := by
  unfold lg
  by_cases h0 : n ≤ 0
  · rw [if_pos h0]; exact Nat.zero_le _
  · rw [if_neg h0]
    have h1 : n.toNat < 2 ^ k := by
      have : ((2 ^ k : Nat) : Int) = 2 ^ k := by push_cast; rfl
      omega
    have := (Nat.log2_lt (n := n.toNat) (k := k) (by omega)).mpr h1
    omega
theorem lt_lg (n : Int) : n < 2 ^ lg n := by
  unfold lg
  by_cases h0 : n ≤ 0
  · rw [if_pos h0]; show n < 1; omega
  · rw [if_neg h0]
    have h1 := Nat.lt_log2_self (n := n.toNat)
    have : ((2 ^ (Nat.log2 n.toNat + 1) : Nat) : Int) = 2 ^ (Nat.log2 n.toNat + 1) := by push_cast; rfl
    omega
theorem lg_div {n b : Int} (hn : 0 < n) (hb : 2 ≤ b) : lg (n / b) < lg n := by
  have h1 := lt_lg n
  have hk : 0 < lg n := by unfold lg; rw [if_neg (by omega)]; omega
  obtain ⟨k, e⟩ : ∃ k, lg n = k + 1 := ⟨lg n - 1, by omega⟩
  rw [e] at h1 ⊢
  have h2 : n / b < 2 ^ k := by
    refine Int.ediv_lt_of_lt_mul (by omega) ?_
    have p : (0 : Int) ≤ 2 ^ k := Int.le_of_lt (Int.pow_pos (by decide))
    have := Int.mul_le_mul_of_nonneg_left hb p
    rw [Int.pow_succ] at h1
    omega
  have := lg_le h2
  omega

theorem ediv_lt_self {b n : Int} (hb : 2 ≤ b) (hn : 0 < n) : n / b < n := by
  refine Int.ediv_lt_of_lt_mul (by omega) ?_
  have := Int.mul_le_mul_of_nonneg_left hb (show 0 ≤ n by omega)
  omega
def digs (b n : Int) : List Int := if h : b < 2 ∨ n < b then [n] else digs b (n / b) ++ [n % b]
termination_by n.toNat
decreasing_by
  have h1 := ediv_lt_self (b := b) (n := n) (by omega) (by omega)
  have h2 : 0 ≤ n / b := Int.ediv_nonneg (by omega) (by omega)
  omega
theorem digs_lt {b n : Int} (h : n < b) : digs b n = [n] := by rw [digs, dif_pos (.inr h)]
theorem digs_ge {b n : Int} (hb : 2 ≤ b) (h : b ≤ n) : digs b n = digs b (n / b) ++ [n % b] := by rw [digs, dif_neg (by omega)]
theorem digs_step {b n : Int} (hb : 2 ≤ b) (hn : 0 ≤ n) : digs b n = (if 0 < n / b then digs b (n / b) else []) ++ [n % b] := by
  by_cases h : n < b
  · rw [digs_lt h, Int.ediv_eq_zero_of_lt hn h, Int.emod_eq_of_lt hn h]; rfl
  · have : 1 ≤ n / b := Int.le_ediv_of_mul_le (by omega) (by omega)
    rw [digs_ge hb (by omega), if_pos (show 0 < n / b by omega)]
/-- so many figures of n -/
def dp (b : Int) : Nat → Int → List Int
  | 0, _ => []
  | j + 1, n => (n / b ^ j) :: dp b j (n % b ^ j)
theorem emod_mul_ediv {n b c : Int} (hb : 0 < b) (hc : 0 < c) : (n % (b * c)) / b = (n / b) % c := by
  have h1 := Int.emod_add_mul_ediv n b
  have h2 := Int.emod_add_mul_ediv (n / b) c
  have r1 := Int.emod_nonneg n (show b ≠ 0 by omega)
  have r2 := Int.emod_lt_of_pos n hb
  have r3 := Int.emod_nonneg (n / b) (show c ≠ 0 by omega)
  have r4 := Int.emod_lt_of_pos (n / b) hc
  have e : n % (b * c) = n % b + b * ((n / b) % c) := by
    have := (Int.ediv_emod_unique (a := n) (b := b * c) (r := n % b + b * ((n / b) % c)) (q := n / b / c) (Int.mul_pos hb hc)).mpr ⟨by
      rw [Int.mul_assoc, Int.add_assoc, ← Int.mul_add, h2, h1], by
      have := Int.mul_nonneg (show (0 : Int) ≤ b by omega) r3
      omega, by
      have q1 : b * ((n / b) % c) ≤ b * (c - 1) := Int.mul_le_mul_of_nonneg_left (by omega) (by omega)
      rw [Int.mul_sub, Int.mul_one] at q1
      omega⟩
    exact this.2
  rw [e, Int.add_mul_ediv_left _ _ (by omega), Int.ediv_eq_zero_of_lt r1 r2, Int.zero_add]
theorem dp_snoc {b : Int} (hb : 0 < b) : ∀ (j : Nat) (n : Int), 0 ≤ n → n < b ^ (j + 1) → dp b (j + 1) n = dp b j (n / b) ++ [n % b]
  | 0, n, h0, h => by
    rw [Int.pow_succ, Int.pow_zero, Int.one_mul] at h
    show [n / b ^ 0] = [] ++ [n % b]
    rw [Int.pow_zero, Int.ediv_one, Int.emod_eq_of_lt h0 h]; rfl
  | j + 1, n, h0, h => by
    have hp : 0 < b ^ (j + 1) := Int.pow_pos hb
    show (n / b ^ (j + 1)) :: dp b (j + 1) (n % b ^ (j + 1)) = (n / b / b ^ j) :: dp b j (n / b % b ^ j) ++ [n % b]
    rw [dp_snoc hb j _ (Int.emod_nonneg _ (by omega)) (Int.emod_lt_of_pos _ hp), Int.pow_succ, Int.mul_comm (b ^ j) b, emod_mul_ediv hb (Int.pow_pos hb), Int.emod_emod_of_dvd n (Int.dvd_mul_right b (b ^ j)), Int.ediv_ediv_of_nonneg (by omega)]
    rfl
theorem dp_digs {b : Int} (hb : 2 ≤ b) : ∀ (j : Nat) (n : Int), 0 ≤ n → n < b ^ (j + 1) → (b ^ j ≤ n ∨ j = 0) → digs b n = dp b (j + 1) n
  | 0, n, h0, h, _ => by
    rw [Int.pow_succ, Int.pow_zero, Int.one_mul] at h
    rw [digs_lt h]
    show [n] = [n / b ^ 0]
    rw [Int.pow_zero, Int.ediv_one]
  | j + 1, n, h0, h, h1 => by
    have h2 : b ^ (j + 1) ≤ n := by rcases h1 with h | h; exact h; cases h
    have hbj : 0 < b ^ j := Int.pow_pos (by omega)
    have h3 : b ≤ n := by
      rw [Int.pow_succ] at h2
      have := Int.mul_le_mul_of_nonneg_right (show 1 ≤ b ^ j by omega) (show 0 ≤ b by omega)
      omega
    rw [digs_ge hb h3, dp_snoc (by omega) _ n h0 h, dp_digs hb j (n / b) (Int.ediv_nonneg h0 (by omega)) (Int.ediv_lt_of_lt_mul (by omega) (by rw [← Int.pow_succ]; exact h)) (.inl (Int.le_ediv_of_mul_le (by omega) (by rw [← Int.pow_succ]; exact h2)))]
theorem natAbs_lt {n : Int} {k : Nat} (h0 : 0 ≤ n) (h : n < 2 ^ k) : n.natAbs < 2 ^ k := by
  have : ((2 ^ k : Nat) : Int) = 2 ^ k := by push_cast; rfl
  omega
theorem pow_mono {b : Int} (hb : 1 ≤ b) {i j : Nat} (h : i ≤ j) : b ^ i ≤ b ^ j := by
  obtain ⟨k, rfl⟩ : ∃ k, j = i + k := ⟨j - i, by omega⟩
  induction k with
  | zero => exact Int.le_refl _
  | succ k ih =>
    have h1 := ih (by omega)
    have h2 : 0 < b ^ (i + k) := Int.pow_pos (by omega)
    rw [← Nat.add_assoc, Int.pow_succ]
    have := Int.mul_le_mul_of_nonneg_left hb (show 0 ≤ b ^ (i + k) by omega)
    omega
theorem one_lt_p {k : Nat} (h : k ≠ 0) : (1 : Int) < 2 ^ k := by
  have := Nat.one_lt_two_pow h
  have e : ((2 ^ k : Nat) : Int) = 2 ^ k := by push_cast; rfl
  omega
/-! #### bases, numbers -/
theorem is_whole_eq (x : Int) : is_whole x = some true := rfl
theorem is_base_eq {b : Int} (h : 2 ≤ b) (h2 : b ≤ 16) : is_base b = some true := by
  unfold is_base
  rw [is_whole_eq, Option.bind_some, if_pos rfl, if_pos (decide_eq_true h), decide_eq_true h2]
/-! #### lists of figures -/
def Figs (b : Int) (ds : List Int) : Prop := ∀ d ∈ ds, 0 ≤ d ∧ d < b
theorem Figs.nil {b : Int} : Figs b [] := fun d h => nomatch h
theorem Figs.app {b : Int} {x y : List Int} (h : Figs b x) (k : Figs b y) : Figs b (x ++ y) := fun d hd => (List.mem_append.mp hd).elim (h d) (k d)
theorem Figs.one {b d : Int} (h : 0 ≤ d ∧ d < b) : Figs b [d] := fun x hx => by rw [List.mem_singleton.mp hx]; exact h
theorem Figs.left {b : Int} {x y : List Int} (h : Figs b (x ++ y)) : Figs b x := fun d hd => h d (List.mem_append_left _ hd)
theorem Figs.right {b : Int} {x y : List Int} (h : Figs b (x ++ y)) : Figs b y := fun d hd => h d (List.mem_append_right _ hd)
theorem is_figure_eq {b x : Int} (h0 : 0 ≤ x) (h : x < b) : is_figure b x = some true := by
  unfold is_figure
  rw [is_whole_eq, Option.bind_some, if_pos rfl, if_pos (decide_eq_true h0), decide_eq_true h]
theorem are_figures_eq {b : Int} {ds : List Int} (h : Figs b ds) : are_figures b ds = some true := by
  unfold are_figures
  refine Ok.eq (forK_ok (P := fun s => s = []) rfl (fun s x next hx hP hN => ?_) (fun s hP => ?_))
  · subst hP
    rw [are_figures_c1, is_figure_eq (h x hx).1 (h x hx).2, Option.bind_some, if_neg (by decide)]
    exact hN _ rfl
  · subst hP
    rw [are_figures_k2]
    exact Ok.mk (eqT_iff.mpr rfl)
/-- the number of a list of figures -/
def val (b : Int) (ds : List Int) : Int := ds.foldl (fun a d => a * b + d) 0
theorem val_snoc (b : Int) (ds : List Int) (d : Int) : val b (ds ++ [d]) = val b ds * b + d := by unfold val; rw [List.foldl_append]; rfl
theorem val_rev_bound {b : Int} (hb : 0 < b) : ∀ rs : List Int, Figs b rs → 0 ≤ val b rs.reverse ∧ val b rs.reverse < b ^ rs.length
  | [], _ => ⟨Int.le_refl _, by show (0 : Int) < b ^ 0; rw [Int.pow_zero]; decide⟩
  | d :: rs, h => by
    obtain ⟨i1, i2⟩ := val_rev_bound hb rs fun x hx => h x (List.mem_cons_of_mem _ hx)
    obtain ⟨d1, d2⟩ := h d List.mem_cons_self
    rw [List.reverse_cons, val_snoc, List.length_cons, Int.pow_succ]
    have m1 := Int.mul_nonneg i1 (Int.le_of_lt hb)
    have m2 := Int.mul_le_mul_of_nonneg_right (show val b rs.reverse ≤ b ^ rs.length - 1 by omega) (Int.le_of_lt hb)
    rw [Int.sub_mul, Int.one_mul] at m2
    omega
theorem Figs.rev {b : Int} {ds : List Int} (h : Figs b ds) : Figs b ds.reverse := fun x hx => h x (List.mem_reverse.mp hx)
theorem val_bound {b : Int} (hb : 0 < b) {ds : List Int} (h : Figs b ds) : 0 ≤ val b ds ∧ val b ds < b ^ ds.length := by
  have := val_rev_bound hb ds.reverse h.rev
  rw [List.reverse_reverse, List.length_reverse] at this
  exact this
theorem val_cons_rev (b d : Int) : ∀ rs : List Int, val b (d :: rs.reverse) = d * b ^ rs.length + val b rs.reverse
  | [] => by
    show 0 * b + d = d * b ^ 0 + 0
    rw [Int.pow_zero, Int.zero_mul, Int.mul_one, Int.zero_add, Int.add_zero]
  | e :: rs => by
    rw [List.reverse_cons, ← List.cons_append, val_snoc, val_cons_rev b d rs, val_snoc, List.length_cons, Int.pow_succ, Int.add_mul, Int.mul_assoc, Int.add_assoc]
theorem val_cons (b d : Int) (ds : List Int) : val b (d :: ds) = d * b ^ ds.length + val b ds := by
  have := val_cons_rev b d ds.reverse
  rw [List.reverse_reverse, List.length_reverse] at this
  exact this
theorem pow16 {b : Int} (h0 : 0 ≤ b) (h : b ≤ 16) : ∀ n : Nat, b ^ n ≤ 2 ^ (4 * n)
  | 0 => by rw [Int.pow_zero, Nat.mul_zero, Int.pow_zero]; exact Int.le_refl _
  | n + 1 => by
    have i := pow16 h0 h n
    have p : (0 : Int) ≤ 2 ^ (4 * n) := Int.le_of_lt (Int.pow_pos (by decide))
    rw [Int.pow_succ, show 4 * (n + 1) = 4 * n + 4 from rfl, Int.pow_add]
    exact Int.mul_le_mul i (by omega) h0 p
theorem pow2_le {b : Int} (h : 2 ≤ b) : ∀ n : Nat, (2 : Int) ^ n ≤ b ^ n
  | 0 => by rw [Int.pow_zero, Int.pow_zero]; exact Int.le_refl _
  | n + 1 => by
    rw [Int.pow_succ, Int.pow_succ]
    exact Int.mul_le_mul (pow2_le h n) h (by decide) (Int.le_of_lt (Int.pow_pos (by omega)))
theorem val_lt {b : Int} (hb : 2 ≤ b) (h2 : b ≤ 16) {ds : List Int} (h : Figs b ds) {n : Nat} (hl : ds.length ≤ n) : (val b ds).natAbs < 2 ^ (4 * n + 1) := by
  obtain ⟨v1, v2⟩ := val_bound (by omega) h
  have := pow16 (by omega) h2 ds.length
  refine natAbs_lt v1 ?_
  have p1 : (2 : Int) ^ (4 * ds.length) ≤ 2 ^ (4 * n + 1) := pow_mono (by decide) (by omega)
  omega
theorem atI0 {α : Type} (x : α) (xs : List α) : atI (x :: xs) 0 = some x := by
  unfold atI ixN
  rw [if_pos (by decide), if_pos (by rw [List.length_cons]; omega)]
  rfl
theorem ixN_lt {n : Nat} {i : Int} (h0 : 0 ≤ i) (h : i < n) : ixN n i = some i.toNat := by
  unfold ixN
  rw [if_pos h0, if_pos h]
theorem atI_lt {α : Type} {xs : List α} {i : Int} (h0 : 0 ≤ i) (h : i < xs.length) : ∃ x, atI xs i = some x ∧ xs[i.toNat]? = some x ∧ x ∈ xs := by
  have hl : i.toNat < xs.length := by omega
  refine ⟨xs[i.toNat], ?_, List.getElem?_eq_getElem hl, List.getElem_mem hl⟩
  unfold atI
  rw [ixN_lt h0 h, Option.bind_some, List.getElem?_eq_getElem hl]
/-- figures of a number: no 0 ahead -/
def Num (b : Int) (ds : List Int) : Prop := ∃ d t, ds = d :: t ∧ (t = [] ∨ d ≠ 0) ∧ Figs b ds
/-! #### order of lists, sorting -/
theorem toks_inj : ∀ xs ys : List Int, PySem.W.keyToksAll (xs.map fun n => PyData.int n) = PySem.W.keyToksAll (ys.map fun n => PyData.int n) → xs = ys
  | [], [], _ => rfl
  | [], y :: ys, h => by
    rw [List.map_nil, List.map_cons, PySem.W.keyToksAll, PySem.W.keyToksAll] at h
    exact absurd (Sum.inl.inj (List.cons.inj h).1) (by decide)
  | x :: xs, [], h => by
    rw [List.map_nil, List.map_cons, PySem.W.keyToksAll, PySem.W.keyToksAll] at h
    exact absurd (Sum.inl.inj (List.cons.inj h).1) (by decide)
  | x :: xs, y :: ys, h => by
    rw [List.map_cons, List.map_cons, PySem.W.keyToksAll, PySem.W.keyToksAll, PySem.W.keyToks, PySem.W.keyToks] at h
    have h1 := (List.cons.inj h).2
    have h2 := List.cons.inj h1
    have e : x = y := Sum.inl.inj h2.1
    rw [e, toks_inj xs ys h2.2]
theorem ltT_tot {x y : List Int} (h1 : ltT x y = false) (h2 : ltT y x = false) : x = y := toks_inj x y (PyProof.Rows.lex_total _ _ h1 h2)
theorem ltT_irr (x : List Int) : ltT x x = false := PyProof.Rows.lex_irrefl _
theorem ltT_trans {x y z : List Int} (h1 : ltT x y = true) (h2 : ltT y z = true) : ltT x z = true := PyProof.Rows.lex_trans _ _ _ h1 h2
theorem sortT_perm {α : Type} [TD α] (xs : List α) : (sortT xs).Perm xs := List.mergeSort_perm _ _
theorem sortT_mem {α : Type} [TD α] {xs : List α} {x : α} : x ∈ sortT xs ↔ x ∈ xs := (sortT_perm xs).mem_iff
theorem sortT_le (xs : List (List Int)) : (sortT xs).Pairwise fun a b => (!ltT b a) = true := by
  have := PySem.W.sort_pairwise (le := PySem.W.dataLe false (TD.d (α := List Int))) (PySem.W.sortLe_total _ _ _) xs
  exact this
theorem sortT_lt {xs : List (List Int)} (h : xs.Nodup) : (sortT xs).Pairwise fun a b => ltT a b = true := by
  have nd : (sortT xs).Pairwise fun a b => a ≠ b := (sortT_perm xs).nodup_iff.mpr h
  have := List.pairwise_and_iff.mpr ⟨sortT_le xs, nd⟩
  refine this.imp fun {a b} ⟨h1, h2⟩ => ?_
  rw [Bool.not_eq_true'] at h1
  cases h3 : ltT a b with
  | true => rfl
  | false => exact absurd (ltT_tot h3 h1) h2
/-! #### rules -/
structure GoodRule (rule : Int × List (List Int)) : Prop where
  lo : 2 ≤ rule.1
  hi : rule.1 ≤ 16
  few : rule.2.length ≤ 4
  figs : ∀ s ∈ rule.2, Figs rule.1 s ∧ 1 ≤ s.length ∧ s.length ≤ 4
  sorted : rule.2.Pairwise fun a b => ltT a b = true
theorem is_stretch_eq {b : Int} {s : List Int} (h : Figs b s) (h1 : 1 ≤ s.length) (h4 : s.length ≤ 4) : is_stretch b s = some true := by
  unfold is_stretch
  rw [are_figures_eq h, Option.bind_some, if_pos rfl, if_pos (by rw [decide_eq_true_eq]; omega), decide_eq_true (show (s.length : Int) ≤ 4 by omega)]
theorem atI_get {α : Type} {xs : List α} {i : Int} {k : Nat} (e : i = k) (h : k < xs.length) : atI xs i = some xs[k] := by
  subst e
  unfold atI
  rw [ixN_lt (by omega) (by omega), Option.bind_some, Int.toNat_natCast, List.getElem?_eq_getElem h]
theorem is_rule_eq {rule : Int × List (List Int)} (g : GoodRule rule) : is_rule rule = some true := by
  have := g.few
  unfold is_rule
  rw [if_neg (by decide), is_base_eq g.lo g.hi, Option.bind_some, if_neg (by decide), if_neg (by rw [decide_eq_true_eq]; omega)]
  refine Ok.eq (forK_ok (P := fun s => s = []) rfl (fun s x next hx hP hN => ?_) (fun s hP => ?_))
  · subst hP
    obtain ⟨f1, f2, f3⟩ := g.figs x hx
    rw [is_rule_c1, is_stretch_eq f1 f2 f3, Option.bind_some, if_neg (by decide)]
    exact hN _ rfl
  · subst hP
    rw [is_rule_k2, eqT_iff.mpr rfl, if_neg (by decide)]
    refine Ok.guard ⟨by decide, by decide, by omega, by omega⟩ ?_
    refine forK_ok (P := fun s => s = []) rfl (fun s x next hx hP hN => ?_) (fun s hP => ?_)
    · subst hP
      have hx := irange_mem.mp hx
      obtain ⟨k, hk⟩ : ∃ k : Nat, x = k + 1 := ⟨(x - 1).toNat, by omega⟩
      have l1 : k < rule.2.length := by omega
      have l2 : k + 1 < rule.2.length := by omega
      have := List.pairwise_iff_getElem.mp g.sorted k (k + 1) l1 l2 (Nat.lt_succ_self _)
      rw [is_rule_c3, atI_get (k := k) (by omega) l1, Option.bind_some, atI_get (k := k + 1) (by omega) l2, Option.bind_some, this, if_neg (by decide)]
      exact hN _ rfl
    · subst hP
      rw [is_rule_k4]
      exact Ok.mk (eqT_iff.mpr rfl)
theorem need_rule_eq {rule : Int × List (List Int)} (g : GoodRule rule) : need_rule rule = some () := by
  unfold need_rule
  rw [is_rule_eq g]; rfl
/-- a comprehension, with where the element is from -/
theorem forK_fmM {α β ρ : Type} {f : List β → α → (List β → Option ρ) → Option ρ} {K : List β → Option ρ} {p : α → Bool} {g : α → β} {B : Nat} :
    ∀ (xs : List α) (acc : List β), (∀ acc x next, x ∈ xs → acc.length < B → f acc x next = if p x = true then next (acc ++ [g x]) else next acc) → acc.length + xs.length ≤ B → forK f xs acc K = K (acc ++ (xs.filter p).map g)
  | [], acc, _, _ => by rw [List.filter_nil, List.map_nil, List.append_nil]; rfl
  | x :: xs, acc, h, hB => by
    rw [List.length_cons] at hB
    show f acc x _ = _
    have h' : ∀ acc y next, y ∈ xs → acc.length < B → f acc y next = if p y = true then next (acc ++ [g y]) else next acc := fun acc y next hy => h acc y next (List.mem_cons_of_mem _ hy)
    rw [h acc x _ List.mem_cons_self (by omega), List.filter_cons]
    cases hp : p x with
    | true =>
      rw [if_pos rfl, if_pos rfl, List.map_cons]
      have := forK_fmM (K := K) xs (acc ++ [g x]) h' (by rw [List.length_append, List.length_singleton]; omega)
      rw [List.append_assoc] at this
      exact this
    | false =>
      rw [if_neg Bool.false_ne_true, if_neg Bool.false_ne_true]
      exact forK_fmM xs acc h' (by omega)
theorem filter_nil_iff {α : Type} [TD α] [TE' α] {xs : List α} {p : α → Bool} : eqT (xs.filter p) [] = true ↔ ∀ x ∈ xs, ¬ p x = true := by
  rw [eqT_iff, List.filter_eq_nil_iff]
open Classical in
/-- a stretch stands in figures -/
noncomputable def stB (s ds : List Int) : Bool := decide (s <:+: ds)
theorem stB_iff {s ds : List Int} : stB s ds = true ↔ s <:+: ds := by unfold stB; exact decide_eq_true_iff
theorem cut_mid {α : Type} {xs : List α} {i j : Int} {k n : Nat} (hi : i = k) (hj : j = k + n) (h : k + n ≤ xs.length) : cutT xs (some i) (some j) = (xs.drop k).take n := by
  subst hi hj
  unfold cutT HT.sIx
  dsimp only
  rw [if_neg (by omega), if_neg (by omega), Int.toNat_natCast, show ((k : Int) + n).toNat = k + n from by omega, Nat.min_eq_left h, Nat.min_eq_left (show k ≤ xs.length by omega), Nat.add_sub_cancel_left]
theorem infix_at {s ds : List Int} : s <:+: ds ↔ ∃ k, k + s.length ≤ ds.length ∧ (ds.drop k).take s.length = s := by
  constructor
  · rintro ⟨l, r, rfl⟩
    refine ⟨l.length, by rw [List.length_append, List.length_append]; omega, ?_⟩
    rw [List.append_assoc, List.drop_left, List.take_left]
  · rintro ⟨k, _, e⟩
    refine ⟨ds.take k, (ds.drop k).drop s.length, ?_⟩
    rw [List.append_assoc]
    conv => lhs; arg 2; arg 1; rw [← e]
    rw [List.take_append_drop, List.take_append_drop]
theorem stands_in_eq {s ds : List Int} (h4 : s.length ≤ 1000) (hl : ds.length < 1000000) : stands_in s ds = some (stB s ds) := by
  unfold stands_in
  refine Ok.eq (Ok.guard ⟨by omega, by omega⟩ ?_)
  rw [forK_fmM (p := fun t => eqT (cutT ds (some t) (some (t + (s.length : Int)))) s) (g := fun x => x) (B := 16777216) _ _ (fun acc x next _ hl => by rw [stands_in_c1, if_pos hl]) (by rw [List.length_nil, irange_len]; omega)]
  rw [stands_in_k2, List.map_id', List.nil_append]
  refine Ok.mk ?_
  apply Bool.eq_iff_iff.mpr
  rw [Bool.not_eq_true', ← Bool.not_eq_true, filter_nil_iff, stB_iff, infix_at]
  constructor
  · intro h
    apply Classical.byContradiction
    intro hn
    refine h fun x hx he => hn ?_
    have hx := irange_mem.mp hx
    obtain ⟨k, rfl⟩ : ∃ k : Nat, x = k := ⟨x.toNat, by omega⟩
    rw [eqT_iff, cut_mid (k := k) (n := s.length) rfl rfl (by omega)] at he
    exact ⟨k, by omega, he⟩
  · rintro ⟨k, h1, h2⟩ h
    refine h (k : Int) (irange_mem.mpr ⟨by omega, by omega⟩) ?_
    rw [eqT_iff, cut_mid (k := k) (n := s.length) rfl rfl h1]
    exact h2
open Classical in
/-- none of the stretches stands in them -/
noncomputable def goodB (bad : List (List Int)) (ds : List Int) : Bool := decide (∀ s ∈ bad, ¬ s <:+: ds)
theorem goodB_iff {bad : List (List Int)} {ds : List Int} : goodB bad ds = true ↔ ∀ s ∈ bad, ¬ s <:+: ds := by unfold goodB; exact decide_eq_true_iff
theorem lacks_all_eq {rule : Int × List (List Int)} {ds : List Int} (h4 : ∀ s ∈ rule.2, s.length ≤ 1000) (h : rule.2.length ≤ 1000) (hl : ds.length < 1000000) : lacks_all rule ds = some (goodB rule.2 ds) := by
  unfold lacks_all
  rw [forK_fmM (p := fun s => stB s ds) (g := fun x => x) (B := 16777216) _ _ (fun acc x next hx hl2 => by rw [lacks_all_c1, stands_in_eq (h4 x hx) hl, Option.bind_some, if_pos hl2]) (by rw [List.length_nil]; omega)]
  rw [lacks_all_k2, List.map_id', List.nil_append]
  refine congrArg some (Bool.eq_iff_iff.mpr ?_)
  rw [filter_nil_iff, goodB_iff]
  exact ⟨fun h s hs hi => h s hs (stB_iff.mpr hi), fun h s hs hi => h s hs (stB_iff.mp hi)⟩
theorem some_rule_ok {st : DkS} (h : DkOk st) : Ok (_law_some_rule st) fun p => GoodRule p.1 ∧ DkOk p.2 := by
  unfold _law_some_rule
  refine (draw_ok h (by decide) (by decide)).bind fun ⟨r1, st1⟩ ⟨⟨a1, a2⟩, h1⟩ => ?_
  refine (draw_ok h1 (by decide) (by decide)).bind fun ⟨r2, st2⟩ ⟨⟨a3, a4⟩, h2⟩ => ?_
  refine (draw_ok h2 (by decide) (by decide)).bind fun ⟨r3, st3⟩ ⟨⟨a5, a6⟩, h3⟩ => ?_
  have a1 : 0 ≤ r1 := a1
  have a2 : r1 < 15 := a2
  have a3 : 0 ≤ r2 := a3
  have a4 : r2 < 3 := a4
  have a5 : 0 ≤ r3 := a5
  have a6 : r3 < 6 := a6
  refine Ok.bind (P := fun x => 2 ≤ x ∧ x ≤ 16) ?_ fun x1 hx1 => ?_
  · rcases (show r3 = 0 ∨ r3 = 1 ∨ r3 = 2 ∨ r3 = 3 ∨ r3 = 4 ∨ r3 = 5 by omega) with rfl | rfl | rfl | rfl | rfl | rfl
    · exact ⟨_, rfl, by omega, by omega⟩
    · exact ⟨_, rfl, by omega, by omega⟩
    · exact ⟨_, rfl, by omega, by omega⟩
    · exact ⟨_, rfl, by omega, by omega⟩
    · exact ⟨_, rfl, by omega, by omega⟩
    · exact ⟨_, rfl, by omega, by omega⟩
  refine (draw_ok h3 (by decide) (by decide)).bind fun ⟨r4, st4⟩ ⟨⟨a7, a8⟩, h4⟩ => ?_
  have a7 : 0 ≤ r4 := a7
  have a8 : r4 < 3 := a8
  refine Ok.bind (P := fun x => 2 ≤ x ∧ x ≤ 16) ?_ fun x2 hx2 => ?_
  · rcases (show r4 = 0 ∨ r4 = 1 ∨ r4 = 2 by omega) with rfl | rfl | rfl
    · exact ⟨_, rfl, by omega, by omega⟩
    · exact ⟨_, rfl, by omega, by omega⟩
    · exact ⟨_, rfl, by omega, by omega⟩
  obtain ⟨m, hm⟩ : ∃ m, m = (if x2 < x1 then x2 else x1) := ⟨_, rfl⟩
  have hm2 : 2 ≤ m ∧ m ≤ x1 := by
    rw [hm]
    split <;> omega
  refine (draw_ok h4 (by rw [← hm]; omega) (by rw [← hm]; omega)).bind fun ⟨r5, st5⟩ ⟨⟨a9, a10⟩, h5⟩ => ?_
  have a9 : 0 ≤ r5 := a9
  have a10 : r5 < x1 - (if x2 < x1 then x2 else x1) + 1 := a10
  rw [← hm] at a10
  refine (draw_ok h5 (by decide) (by decide)).bind fun ⟨r6, st6⟩ ⟨⟨b1, b2⟩, h6⟩ => ?_
  refine (draw_ok h6 (by decide) (by decide)).bind fun ⟨r7, st7⟩ ⟨⟨b3, b4⟩, h7⟩ => ?_
  have b1 : 0 ≤ r6 := b1
  have b2 : r6 < 4 := b2
  have b3 : 0 ≤ r7 := b3
  have b4 : r7 < 4 := b4
  refine Ok.bind (P := fun x => 1 ≤ x ∧ x ≤ 4) ?_ fun x3 hx3 => ?_
  · rcases (show r7 = 0 ∨ r7 = 1 ∨ r7 = 2 ∨ r7 = 3 by omega) with rfl | rfl | rfl | rfl
    · exact ⟨_, rfl, by omega, by omega⟩
    · exact ⟨_, rfl, by omega, by omega⟩
    · exact ⟨_, rfl, by omega, by omega⟩
    · exact ⟨_, rfl, by omega, by omega⟩
  refine (draw_ok h7 (by decide) (by decide)).bind fun ⟨r8, st8⟩ ⟨⟨b5, b6⟩, h8⟩ => ?_
  refine (draw_ok h8 (by decide) (by decide)).bind fun ⟨r9, st9⟩ ⟨⟨b7, b8⟩, h9⟩ => ?_
  have b5 : 0 ≤ r8 := b5
  have b6 : r8 < 5 := b6
  have b7 : 0 ≤ r9 := b7
  have b8 : r9 < 4 := b8
  refine Ok.bind (P := fun x => 0 ≤ x ∧ x ≤ 4) ?_ fun x4 hx4 => ?_
  · rcases (show r9 = 0 ∨ r9 = 1 ∨ r9 = 2 ∨ r9 = 3 by omega) with rfl | rfl | rfl | rfl
    · exact ⟨_, rfl, by omega, by omega⟩
    · exact ⟨_, rfl, by omega, by omega⟩
    · exact ⟨_, rfl, by omega, by omega⟩
    · exact ⟨_, rfl, by omega, by omega⟩
  refine Ok.guard ⟨by omega, by omega⟩ ?_
  refine forK_okI (P := fun pre s => s.1.length ≤ pre.length ∧ s.1.Nodup ∧ (∀ z ∈ s.1, Figs x1 z ∧ 1 ≤ z.length ∧ z.length ≤ 4) ∧ DkOk s.2) ⟨Nat.le_refl _, List.nodup_nil, (fun z hz => nomatch hz), h9⟩ (fun pre x post s next e hP hN => ?_) (fun s hP => ?_)
  · obtain ⟨x5, st10⟩ := s
    obtain ⟨q1, q2, q3, q4⟩ := hP
    have q1 : x5.length ≤ pre.length := q1
    have hl : pre.length < 4 := by
      have := congrArg List.length e
      rw [irange_len, List.length_append, List.length_cons] at this
      omega
    rw [_law_some_rule_b1]
    refine (draw_ok q4 (by omega) (by omega)).bind fun ⟨r10, st11⟩ ⟨⟨c1, c2⟩, h10⟩ => ?_
    have c1 : 0 ≤ r10 := c1
    have c2 : r10 < x3 := c2
    refine Ok.guard ⟨by omega, by omega⟩ ?_
    refine forK_okI (P := fun pre s => s.1.length = pre.length ∧ Figs x1 s.1 ∧ DkOk s.2) ⟨rfl, Figs.nil, h10⟩ (fun pre2 x6 post2 s next2 e2 hP2 hN2 => ?_) (fun s hP2 => ?_)
    · obtain ⟨x7, st12⟩ := s
      obtain ⟨p1, p2, p3⟩ := hP2
      have p1 : x7.length = pre2.length := p1
      have hl2 : pre2.length < 4 := by
        have := congrArg List.length e2
        rw [irange_len, List.length_append, List.length_cons] at this
        omega
      rw [_law_some_rule_c3]
      refine (draw_ok p3 (by rw [← hm]; omega) (by rw [← hm]; omega)).bind fun ⟨r11, st13⟩ ⟨⟨d1, d2⟩, h11⟩ => ?_
      have d1 : 0 ≤ r11 := d1
      have d2 : r11 < (if x2 < x1 then x2 else x1) := d2
      rw [← hm] at d2
      refine Ok.guard (by omega) (hN2 _ ⟨?_, Figs.app p2 (Figs.one (by omega)), h11⟩)
      show (x7 ++ [r5 + r11]).length = (pre2 ++ [x6]).length
      rw [List.length_append, List.length_append, p1]; rfl
    · obtain ⟨x7, st12⟩ := s
      obtain ⟨p1, p2, p3⟩ := hP2
      have p1 : x7.length = (irange 0 (1 + r10)).length := p1
      have p2 : Figs x1 x7 := p2
      rw [irange_len] at p1
      rw [_law_some_rule_k4]
      refine Ok.ite (fun hc => ?_) (fun hc => ?_)
      · rw [Bool.not_eq_true', memT_no] at hc
        refine Ok.guard (by omega) (hN _ ⟨?_, ?_, ?_, p3⟩)
        · show (x5 ++ [x7]).length ≤ (pre ++ [x]).length
          rw [List.length_append, List.length_append, List.length_singleton, List.length_singleton]; omega
        · show (x5 ++ [x7]).Nodup
          refine List.nodup_append.mpr ⟨q2, List.nodup_cons.mpr ⟨(fun h => nomatch h), List.nodup_nil⟩, fun a ha b hb e => ?_⟩
          rw [List.mem_singleton] at hb
          subst e hb
          exact hc ha
        · intro z hz
          rcases List.mem_append.mp (show z ∈ x5 ++ [x7] from hz) with hz | hz
          · exact q3 z hz
          · rw [List.mem_singleton.mp hz]
            exact ⟨p2, by omega, by omega⟩
      · refine hN _ ⟨?_, q2, q3, p3⟩
        show x5.length ≤ (pre ++ [x]).length
        rw [List.length_append]; omega
  · obtain ⟨x5, st10⟩ := s
    obtain ⟨q1, q2, q3, q4⟩ := hP
    have q1 : x5.length ≤ (irange 0 x4).length := q1
    rw [irange_len] at q1
    rw [_law_some_rule_e2]
    refine Ok.guard (by omega) (Ok.mk ⟨⟨hx1.1, hx1.2, ?_, fun s hs => q3 s (sortT_mem.mp hs), sortT_lt q2⟩, q4⟩)
    show (sortT x5).length ≤ 4
    rw [sortT_len]; omega
theorem cut_take {α : Type} {xs : List α} {i : Int} (h0 : 0 ≤ i) : cutT xs none (some i) = xs.take i.toNat := by
  unfold cutT HT.sIx
  dsimp only
  rw [if_neg (by omega), List.drop_zero, Nat.sub_zero]
  by_cases h : i.toNat ≤ xs.length
  · rw [Nat.min_eq_left h]
  · rw [Nat.min_eq_right (by omega), List.take_length, List.take_of_length_le (by omega)]
theorem cut_drop {α : Type} {xs : List α} {i : Int} (h0 : 0 ≤ i) (h : i ≤ xs.length) : cutT xs (some i) none = xs.drop i.toNat := by
  unfold cutT HT.sIx
  dsimp only
  rw [if_neg (by omega), Nat.min_eq_left (by omega), ← List.length_drop, List.take_length]
theorem irange_cons {lo hi : Int} (h : lo < hi) : irange lo hi = lo :: irange (lo + 1) hi := by
  unfold irange
  obtain ⟨n, hn⟩ : ∃ n, (hi - lo).toNat = n + 1 := ⟨(hi - lo).toNat - 1, by omega⟩
  rw [hn, show (hi - (lo + 1)).toNat = n from by omega, List.range_succ_eq_map, List.map_cons, List.map_map]
  refine congr (congrArg List.cons (by omega)) (List.map_congr_left fun i _ => ?_)
  show lo + ((i + 1 : Nat) : Int) = lo + 1 + (i : Int)
  omega
theorem irange_nil {lo hi : Int} (h : hi ≤ lo) : irange lo hi = [] := by
  unfold irange
  rw [show (hi - lo).toNat = 0 from by omega]; rfl
theorem cut_from {α : Type} {xs : List α} {k n : Nat} (h : k ≤ xs.length) : cutT xs (some (k : Int)) (some ((k : Int) + n)) = (xs.drop k).take n := by
  unfold cutT HT.sIx
  dsimp only
  rw [if_neg (by omega), if_neg (by omega), Int.toNat_natCast, show ((k : Int) + n).toNat = k + n from by omega, Nat.min_eq_left h]
  by_cases h2 : k + n ≤ xs.length
  · rw [Nat.min_eq_left h2, Nat.add_sub_cancel_left]
  · rw [Nat.min_eq_right (by omega), List.take_of_length_le (by rw [List.length_drop]; omega), List.take_of_length_le (by rw [List.length_drop]; omega)]
theorem goodB_false {bad : List (List Int)} {x ds : List Int} (hx : x ∈ bad) (h : x <:+: ds) : goodB bad ds = false := by
  cases e : goodB bad ds with
  | false => rfl
  | true => exact absurd h (goodB_iff.mp e x hx)
theorem law_lacks_eq {bad : List (List Int)} {ds : List Int} (h1 : ∀ s ∈ bad, 1 ≤ s.length) (hl : ds.length < 1000000) : _law_lacks bad ds = some (goodB bad ds) := by
  unfold _law_lacks
  rw [if_pos ⟨by omega, by omega⟩]
  rw [forK_stop (p := fun t1 => bad.any fun one => eqT (cutT ds (some t1) (some (t1 + (one.length : Int)))) one) (c := some false) (fun t1 next => by
    rw [_law_lacks_b1, forK_stop (p := fun one => eqT (cutT ds (some t1) (some (t1 + (one.length : Int)))) one) (c := some false) (fun one next => by rw [_law_lacks_b3])]
    rfl)]
  cases G : goodB bad ds with
  | true =>
    rw [if_neg]
    · rfl
    · intro h
      obtain ⟨t, ht, h⟩ := List.any_eq_true.mp h
      obtain ⟨one, ho, h⟩ := List.any_eq_true.mp h
      have ht := irange_mem.mp ht
      obtain ⟨k, rfl⟩ : ∃ k : Nat, t = k := ⟨t.toNat, by omega⟩
      rw [eqT_iff, cut_from (by omega)] at h
      refine goodB_iff.mp G one ho ?_
      rw [← h]
      exact (List.take_prefix _ _).isInfix.trans (List.drop_suffix _ _).isInfix
  | false =>
    rw [if_pos]
    rw [← Bool.not_eq_true, goodB_iff] at G
    obtain ⟨s, hs, hi⟩ : ∃ s ∈ bad, s <:+: ds := by
      apply Classical.byContradiction
      intro hn
      exact G fun s hs hi => hn ⟨s, hs, hi⟩
    obtain ⟨k, hk, he⟩ := infix_at.mp hi
    have := h1 s hs
    refine List.any_eq_true.mpr ⟨(k : Int), irange_mem.mpr ⟨by omega, by omega⟩, List.any_eq_true.mpr ⟨s, hs, ?_⟩⟩
    rw [eqT_iff, cut_from (by omega)]
    exact he
theorem law_own_eq {rule : Int × List (List Int)} (h : rule.2.length ≤ 1000) : _law_own rule = some rule := by
  unfold _law_own
  rw [forK_fm (p := fun _ => true) (g := fun x => x) (B := 16777216) (fun acc x next hl => by rw [_law_own_c1, if_pos hl, if_pos rfl]) _ _ (by rw [List.length_nil]; omega)]
  rw [_law_own_k2, List.nil_append, List.map_id', List.filter_eq_self.mpr fun _ _ => rfl]
/-! #### the longest end that begins a stretch -/
open Classical in
noncomputable def endsL (bad : List (List Int)) : List Int → List Int
  | [] => []
  | d :: t => if ∃ s ∈ bad, (d :: t) <+: s then d :: t else endsL bad t
theorem ends_suf (bad : List (List Int)) : ∀ ds, endsL bad ds <:+ ds
  | [] => List.suffix_refl _
  | d :: t => by
    unfold endsL
    split
    · exact List.suffix_refl _
    · exact (ends_suf bad t).trans (List.suffix_cons _ _)
theorem ends_beg (bad : List (List Int)) : ∀ ds, endsL bad ds = [] ∨ ∃ s ∈ bad, endsL bad ds <+: s
  | [] => .inl rfl
  | d :: t => by
    unfold endsL
    split
    · exact .inr (by assumption)
    · exact ends_beg bad t
theorem ends_max {bad : List (List Int)} {e : List Int} : ∀ {ds : List Int}, e <:+ ds → (e = [] ∨ ∃ s ∈ bad, e <+: s) → e <:+ endsL bad ds
  | [], h, _ => h
  | d :: t, h, hb => by
    unfold endsL
    split
    · exact h
    · next hn =>
      rcases List.suffix_cons_iff.mp h with rfl | h
      · exact absurd (hb.resolve_left (fun z => nomatch z)) hn
      · exact ends_max h hb
theorem suf_antisymm {a b : List Int} (h : a <:+ b) (k : b <:+ a) : a = b := h.eq_of_length_le k.length_le
theorem ends_step (bad : List (List Int)) (ds : List Int) (f : Int) : endsL bad (ds ++ [f]) = endsL bad (endsL bad ds ++ [f]) := by
  have up : endsL bad ds ++ [f] <:+ ds ++ [f] := List.suffix_concat_iff.mpr (.inr ⟨_, rfl, ends_suf bad ds⟩)
  refine suf_antisymm (ends_max ?_ (ends_beg _ _)) (ends_max ((ends_suf _ _).trans up) (ends_beg _ _))
  rcases List.suffix_concat_iff.mp (ends_suf bad (ds ++ [f])) with h | ⟨t, e, h⟩
  · rw [h]; exact List.nil_suffix
  · rw [e]
    refine List.suffix_concat_iff.mpr (.inr ⟨t, rfl, ends_max h (.inr ?_)⟩)
    rcases ends_beg bad (ds ++ [f]) with h2 | ⟨s, hs, h2⟩
    · rw [e] at h2; exact nomatch (List.append_eq_nil_iff.mp h2).2
    · rw [e] at h2
      exact ⟨s, hs, (List.prefix_append t [f]).trans h2⟩
theorem goodB_mono {bad : List (List Int)} {x y : List Int} (h : x <:+: y) (g : goodB bad y = true) : goodB bad x = true := by
  rw [goodB_iff] at g ⊢
  exact fun s hs hi => g s hs (hi.trans h)
theorem good_step {bad : List (List Int)} {ds : List Int} {f : Int} (g : goodB bad ds = true) : goodB bad (ds ++ [f]) = goodB bad (endsL bad ds ++ [f]) := by
  have up : endsL bad ds ++ [f] <:+ ds ++ [f] := List.suffix_concat_iff.mpr (.inr ⟨_, rfl, ends_suf bad ds⟩)
  apply Bool.eq_iff_iff.mpr
  constructor
  · exact goodB_mono up.isInfix
  · intro h
    rw [goodB_iff] at h g ⊢
    intro s hs hi
    rcases (List.infix_concat_iff.mp hi).symm with h1 | h1
    · exact g s hs h1
    · refine h s hs (List.IsSuffix.isInfix ?_)
      rcases List.suffix_concat_iff.mp h1 with h2 | ⟨t, e, h2⟩
      · rw [h2]; exact List.nil_suffix
      · rw [e]
        exact List.suffix_concat_iff.mpr (.inr ⟨t, rfl, ends_max h2 (.inr ⟨s, hs, by rw [e]; exact List.prefix_append _ _⟩)⟩)
/-- the stand behind figures -/
noncomputable def standL (bad : List (List Int)) (ds : List Int) : Option (List Int) := if goodB bad ds = true then some (endsL bad ds) else none
theorem stand_step {bad : List (List Int)} {ds : List Int} {f : Int} (g : goodB bad ds = true) : standL bad (endsL bad ds ++ [f]) = standL bad (ds ++ [f]) := by
  unfold standL
  rw [← good_step g, ← ends_step]
/-- what is told as a stand -/
def StB (bad : List (List Int)) (x : List Int) : Prop := x = [] ∨ ∃ s ∈ bad, x <+: s ∧ 1 ≤ x.length ∧ x.length < s.length ∧ goodB bad x = true
theorem ends_StB {bad : List (List Int)} {ds : List Int} (g : goodB bad ds = true) : StB bad (endsL bad ds) := by
  rcases ends_beg bad ds with h | ⟨s, hs, h⟩
  · exact .inl h
  · by_cases hn : endsL bad ds = []
    · exact .inl hn
    · refine .inr ⟨s, hs, h, List.length_pos_iff.mpr hn, ?_, goodB_mono (ends_suf bad ds).isInfix g⟩
      rcases Nat.lt_or_ge (endsL bad ds).length s.length with h1 | h1
      · exact h1
      · have : endsL bad ds = s := h.eq_of_length_le h1
        exact absurd (by rw [← this]; exact (ends_suf bad ds).isInfix) (goodB_iff.mp g s hs)
theorem goodB_nil {bad : List (List Int)} (h : ∀ s ∈ bad, 1 ≤ s.length) : goodB bad [] = true := by
  rw [goodB_iff]
  intro s hs hi
  have := h s hs
  rw [List.infix_nil.mp hi] at this
  exact absurd this (by decide)
theorem StB_good {bad : List (List Int)} (h : ∀ s ∈ bad, 1 ≤ s.length) {x : List Int} (hx : StB bad x) : goodB bad x = true := by
  rcases hx with rfl | ⟨s, _, _, _, _, g⟩
  · exact goodB_nil h
  · exact g
/-! #### the program's stands -/
theorem ends_of_eq {rule : Int × List (List Int)} {ds : List Int} (hl : ds.length < 1000000) (h : rule.2.length ≤ 1000) : ends_of rule ds = some (endsL rule.2 ds) := by
  unfold ends_of
  refine Ok.eq (Ok.guard ⟨by omega, by omega⟩ ?_)
  have all : ∀ (m k : Nat), k + m = ds.length → forK (ends_of_b1 ds rule) (irange (k : Int) ((ds.length : Int) + 1)) () ends_of_e2 = some (endsL rule.2 (ds.drop k)) := by
    intro m
    induction m with
    | zero =>
      intro k e
      rw [irange_cons (by omega)]
      show ends_of_b1 ds rule () (k : Int) _ = _
      rw [ends_of_b1, cut_drop (by omega) (by omega), Int.toNat_natCast, List.drop_of_length_le (by omega), eqT_iff.mpr rfl, if_pos rfl]
      rfl
    | succ m ih =>
      intro k e
      rw [irange_cons (by omega)]
      show ends_of_b1 ds rule () (k : Int) _ = _
      have hk : k < ds.length := by omega
      have hd := List.drop_eq_getElem_cons hk
      rw [ends_of_b1, cut_drop (by omega) (by omega), Int.toNat_natCast, if_neg (by rw [eqT_iff, hd]; exact (fun z => nomatch z))]
      have hr : ∀ next, forK (ends_of_c3 ds (k : Int)) rule.2 [] (ends_of_k4 ds (k : Int) next) = if ∃ s ∈ rule.2, ds.drop k <+: s then some (ds.drop k) else next () := by
        intro next
        rw [forK_fm (p := fun s => eqT (s.take (ds.drop k).length) (ds.drop k)) (g := fun x => x) (B := 16777216) (fun acc x next hl2 => by
          rw [ends_of_c3, cut_drop (by omega) (by omega), Int.toNat_natCast, cut_take (by omega), Int.toNat_natCast, if_pos hl2]) _ _ (by rw [List.length_nil]; omega)]
        rw [ends_of_k4, List.map_id', List.nil_append, cut_drop (by omega) (by omega), Int.toNat_natCast]
        by_cases hb : ∃ s ∈ rule.2, ds.drop k <+: s
        · rw [if_pos hb, if_pos]
          rw [Bool.not_eq_true', ← Bool.not_eq_true, filter_nil_iff]
          obtain ⟨s, hs, hp⟩ := hb
          exact fun h => h s hs (eqT_iff.mpr (List.prefix_iff_eq_take.mp hp).symm)
        · rw [if_neg hb, if_neg]
          rw [Bool.not_eq_true', ← Bool.not_eq_true, Classical.not_not, filter_nil_iff]
          exact fun s hs h => hb ⟨s, hs, List.prefix_iff_eq_take.mpr (eqT_iff.mp h).symm⟩
      rw [hr]
      have ih' := ih (k + 1) (by omega)
      show (if ∃ s ∈ rule.2, ds.drop k <+: s then some (ds.drop k) else forK (ends_of_b1 ds rule) (irange ((k : Int) + 1) ((ds.length : Int) + 1)) () ends_of_e2) = _
      rw [show (k : Int) + 1 = ((k + 1 : Nat) : Int) from by omega, ih', hd, endsL]
      split
      · rfl
      · rfl
  have := all ds.length 0 (by omega)
  rw [List.drop_zero] at this
  exact Ok.of this rfl
theorem stand_of_eq {rule : Int × List (List Int)} (g : GoodRule rule) {ds : List Int} (hl : ds.length < 1000000) : stand_of rule ds = some (standL rule.2 ds) := by
  have := g.few
  unfold stand_of standL
  rw [lacks_all_eq (fun s hs => by have := (g.figs s hs).2.2; omega) (by omega) hl, Option.bind_some, ends_of_eq hl (by omega)]
  cases goodB rule.2 ds <;> rfl
/-! #### the stands in order -/
def lt2 (x y : List Int) : Prop := x.length < y.length ∨ (x.length = y.length ∧ ltT x y = true)
theorem lt2_pair {x y : List Int} (h : lt2 x y) : ltT ((x.length : Int), x) ((y.length : Int), y) = true := by
  have k : ∀ z : List Int, PySem.W.keyToks (TD.d ((z.length : Int), z)) = .inl 1 :: .inl (z.length : Int) :: .inl 1 :: (PySem.W.keyToks (TD.d z) ++ [.inl 0]) := fun z => by
    show PySem.W.keyToks (.tuple [.int (z.length : Int), TD.d z]) = _
    rw [PySem.W.keyToks, PySem.W.keyToksAll, PySem.W.keyToks, PySem.W.keyToksAll, PySem.W.keyToksAll]
    rfl
  show PyProof.Rows.lexLt PyProof.Rows.itemOrd (PySem.W.keyToks (TD.d ((x.length : Int), x))) (PySem.W.keyToks (TD.d ((y.length : Int), y))) = true
  rw [k, k, PyProof.Rows.lex_self]
  rcases h with h | ⟨h, h2⟩
  · rw [PyProof.Rows.lex_diff (fun e => by have := Sum.inl.inj e; omega)]
    show decide ((x.length : Int) < (y.length : Int)) = true
    exact decide_eq_true (by omega)
  · have hne : x ≠ y := fun e => by rw [e, ltT_irr] at h2; exact nomatch h2
    rw [h, PyProof.Rows.lex_self, PyProof.Rows.lex_self, (PySem.W.toks_eqv _ _ (SO.alike x y)).2 (eqT_no.mpr hne)]
    exact h2
theorem lt2_irr (x : List Int) : ¬ lt2 x x := by
  rintro (h | ⟨_, h⟩)
  · omega
  · rw [ltT_irr] at h; exact nomatch h
theorem lt2_asym {x y : List Int} (h : lt2 x y) (k : lt2 y x) : False := by
  rcases h with h | ⟨h, h2⟩
  · rcases k with k | ⟨k, _⟩ <;> omega
  · rcases k with k | ⟨_, k2⟩
    · omega
    · have := ltT_trans h2 k2
      rw [ltT_irr] at this; exact nomatch this
theorem lt2_tot (x y : List Int) : x = y ∨ lt2 x y ∨ lt2 y x := by
  rcases Nat.lt_trichotomy x.length y.length with h | h | h
  · exact .inr (.inl (.inl h))
  · cases h1 : ltT x y with
    | true => exact .inr (.inl (.inr ⟨h, h1⟩))
    | false =>
      cases h2 : ltT y x with
      | true => exact .inr (.inr (.inr ⟨h.symm, h2⟩))
      | false => exact .inl (ltT_tot h1 h2)
  · exact .inr (.inr (.inl h))
theorem sorted_ext : ∀ {l m : List (List Int)}, l.Pairwise lt2 → m.Pairwise lt2 → (∀ x, x ∈ l ↔ x ∈ m) → l = m
  | [], [], _, _, _ => rfl
  | [], b :: m, _, _, h => absurd ((h b).mpr List.mem_cons_self) List.not_mem_nil
  | a :: l, [], _, _, h => absurd ((h a).mp List.mem_cons_self) List.not_mem_nil
  | a :: l, b :: m, h1, h2, h => by
    obtain ⟨a1, a2⟩ := List.pairwise_cons.mp h1
    obtain ⟨b1, b2⟩ := List.pairwise_cons.mp h2
    have e : a = b := by
      rcases List.mem_cons.mp ((h a).mp List.mem_cons_self) with e | ha
      · exact e
      · rcases List.mem_cons.mp ((h b).mpr List.mem_cons_self) with e | hb
        · exact e.symm
        · exact absurd (a1 b hb) (fun z => lt2_asym z (b1 a ha))
    subst e
    refine congrArg (a :: ·) (sorted_ext a2 b2 fun x => ⟨fun hx => ?_, fun hx => ?_⟩)
    · rcases List.mem_cons.mp ((h x).mp (List.mem_cons_of_mem _ hx)) with e | h
      · subst e; exact absurd (a1 x hx) (lt2_irr x)
      · exact h
    · rcases List.mem_cons.mp ((h x).mpr (List.mem_cons_of_mem _ hx)) with e | h
      · subst e; exact absurd (b1 x hx) (lt2_irr x)
      · exact h
theorem stands_of_ord {rule : Int × List (List Int)} (g : GoodRule rule) : Ok (stands_of rule) fun L => (∀ x, x ∈ L ↔ StB rule.2 x) ∧ L.Pairwise lt2 := by
  have hlen := g.few
  unfold stands_of
  refine forK_okI (P := fun pre s => s.Nodup ∧ ((0 : Int), ([] : List Int)) ∈ s ∧ (∀ p ∈ s, p.1 = p.2.length ∧ StB rule.2 p.2) ∧ (∀ t ∈ pre, ∀ k : Nat, 1 ≤ k → k < t.length → goodB rule.2 (t.take k) = true → ((k : Int), t.take k) ∈ s) ∧ s.length ≤ 1 + 4 * pre.length)
    ⟨List.nodup_cons.mpr ⟨List.not_mem_nil, List.nodup_nil⟩, List.mem_cons_self, (fun p hp => by rw [List.mem_singleton.mp hp]; exact ⟨rfl, .inl rfl⟩), (fun t ht => nomatch ht), Nat.le_refl _⟩ (fun pre t post s next e hP hN => ?_) (fun s hP => ?_)
  · obtain ⟨p1, p2, p3, p4, p5⟩ := hP
    have ht : t ∈ rule.2 := by rw [e]; exact List.mem_append_right _ List.mem_cons_self
    obtain ⟨f1, f2, f3⟩ := g.figs t ht
    have hpl : pre.length ≤ 3 := by
      have := congrArg List.length e
      rw [List.length_append, List.length_cons] at this
      omega
    rw [stands_of_b1]
    refine Ok.guard ⟨by decide, by decide, by omega, by omega⟩ ?_
    refine forK_okI (P := fun pre2 s => s.Nodup ∧ ((0 : Int), ([] : List Int)) ∈ s ∧ (∀ p ∈ s, p.1 = p.2.length ∧ StB rule.2 p.2) ∧ (∀ t ∈ pre, ∀ k : Nat, 1 ≤ k → k < t.length → goodB rule.2 (t.take k) = true → ((k : Int), t.take k) ∈ s) ∧ (∀ k : Nat, (k : Int) ∈ pre2 → goodB rule.2 (t.take k) = true → ((k : Int), t.take k) ∈ s) ∧ s.length ≤ 1 + 4 * pre.length + pre2.length)
      ⟨p1, p2, p3, p4, (fun k hk => absurd hk List.not_mem_nil), by show s.length ≤ 1 + 4 * pre.length + 0; omega⟩ (fun pre2 t2 post2 s next2 e2 hP2 hN2 => ?_) (fun s hP2 => ?_)
    · obtain ⟨q1, q2, q3, q4, q5, q6⟩ := hP2
      have ht2 : t2 ∈ irange 1 (t.length : Int) := by rw [e2]; exact List.mem_append_right _ List.mem_cons_self
      have ht2 := irange_mem.mp ht2
      obtain ⟨k, rfl⟩ : ∃ k : Nat, t2 = k := ⟨t2.toNat, by omega⟩
      have hl2 : pre2.length ≤ 3 := by
        have := congrArg List.length e2
        rw [irange_len, List.length_append, List.length_cons] at this
        omega
      rw [stands_of_b3, cut_take (by omega), Int.toNat_natCast, lacks_all_eq (fun s hs => by have := (g.figs s hs).2.2; omega) (by omega) (by rw [List.length_take]; omega), Option.bind_some]
      have old : ∀ s' : List (Int × List Int), (∀ p ∈ s, p ∈ s') → (goodB rule.2 (t.take k) = true → ((k : Int), t.take k) ∈ s') → (∀ k2 : Nat, (k2 : Int) ∈ pre2 ++ [(k : Int)] → goodB rule.2 (t.take k2) = true → ((k2 : Int), t.take k2) ∈ s') := by
        intro s' h1 h2 k2 hk2 hg
        rcases List.mem_append.mp hk2 with h | h
        · exact h1 _ (q5 k2 h hg)
        · have := List.mem_singleton.mp h
          have : k2 = k := by omega
          subst this
          exact h2 hg
      refine Ok.ite (fun hc => ?_) (fun hc => ?_)
      · refine Ok.ite (fun hm => ?_) (fun hm => ?_)
        · rw [Bool.not_eq_true', memT_no] at hm
          refine Ok.guard (by omega) (hN2 _ ⟨?_, List.mem_append_left _ q2, ?_, fun t' ht' k' a b c => List.mem_append_left _ (q4 t' ht' k' a b c), old _ (fun p hp => List.mem_append_left _ hp) fun _ => List.mem_append_right _ List.mem_cons_self, ?_⟩)
          · refine List.nodup_append.mpr ⟨q1, List.nodup_cons.mpr ⟨(fun h => nomatch h), List.nodup_nil⟩, fun a ha b hb e => ?_⟩
            rw [List.mem_singleton] at hb
            subst e hb
            exact hm ha
          · intro p hp
            rcases List.mem_append.mp hp with hp | hp
            · exact q3 p hp
            · rw [List.mem_singleton.mp hp]
              have hlk : (t.take k).length = k := by rw [List.length_take]; omega
              exact ⟨by show (k : Int) = ((t.take k).length : Int); rw [hlk], .inr ⟨t, ht, List.take_prefix _ _, by show 1 ≤ (t.take k).length; omega, by show (t.take k).length < _; omega, hc⟩⟩
          · rw [List.length_append, List.length_append, List.length_singleton, List.length_singleton]; omega
        · have hm : ((k : Int), t.take k) ∈ s := memT_iff.mp (by cases h : memT ((k : Int), t.take k) s with | true => rfl | false => rw [h] at hm; exact absurd rfl hm)
          refine hN2 _ ⟨q1, q2, q3, q4, old _ (fun p hp => hp) fun _ => hm, ?_⟩
          rw [List.length_append]; omega
      · refine hN2 _ ⟨q1, q2, q3, q4, old _ (fun p hp => hp) fun h => absurd h hc, ?_⟩
        rw [List.length_append]; omega
    · obtain ⟨q1, q2, q3, q4, q5, q6⟩ := hP2
      rw [irange_len] at q6
      rw [stands_of_e4]
      refine hN _ ⟨q1, q2, q3, fun t' ht' k a b c => ?_, ?_⟩
      · rcases List.mem_append.mp ht' with h | h
        · exact q4 t' h k a b c
        · have := List.mem_singleton.mp h
          subst this
          exact q5 k (irange_mem.mpr ⟨by omega, by omega⟩) c
      · rw [List.length_append, List.length_singleton]; omega
  · obtain ⟨p1, p2, p3, p4, p5⟩ := hP
    rw [stands_of_e2]
    refine Ok.guard (by omega) ?_
    rw [forK_fm (p := fun _ => true) (g := fun p : Int × List Int => p.2) (B := 16777216) (fun acc x next hl => by rw [stands_of_c5, if_pos hl, if_pos rfl]) _ _ (by rw [List.length_nil, sortT_len]; omega)]
    rw [stands_of_k6, List.nil_append, List.filter_eq_self.mpr fun _ _ => rfl]
    refine Ok.mk ⟨fun x => ⟨fun hx => ?_, fun hx => ?_⟩, ?_⟩
    · obtain ⟨p, hp, rfl⟩ := List.mem_map.mp hx
      exact (p3 p (sortT_mem.mp hp)).2
    · rcases hx with rfl | ⟨t, ht, hp, h1, h2, hg⟩
      · exact List.mem_map.mpr ⟨_, sortT_mem.mpr p2, rfl⟩
      · have e := List.prefix_iff_eq_take.mp hp
        refine List.mem_map.mpr ⟨((x.length : Int), t.take x.length), sortT_mem.mpr (p4 t ht x.length h1 h2 (by rw [← e]; exact hg)), e.symm⟩
    · have le := PySem.W.sort_pairwise (le := PySem.W.dataLe false (TD.d (α := Int × List Int))) (PySem.W.sortLe_total _ _ _) s
      have nd : (sortT s).Pairwise fun a b => a ≠ b := (sortT_perm s).nodup_iff.mpr p1
      refine List.pairwise_map.mpr (List.Pairwise.imp_of_mem (fun {a b} ha hb h => ?_) (List.pairwise_and_iff.mpr ⟨le, nd⟩))
      have h1 := (p3 a (sortT_mem.mp ha)).1
      have h2 := (p3 b (sortT_mem.mp hb)).1
      rcases lt2_tot a.2 b.2 with e | e | e
      · exact absurd (Prod.ext (by rw [h1, h2, e]) e) h.2
      · exact e
      · have k := lt2_pair e
        have ea : ((a.2.length : Int), a.2) = a := Prod.ext h1.symm rfl
        have eb : ((b.2.length : Int), b.2) = b := Prod.ext h2.symm rfl
        rw [ea, eb] at k
        have h3 : (!ltT b a) = true := h.1
        rw [k] at h3
        exact nomatch h3
theorem stands_of_ok {rule : Int × List (List Int)} (g : GoodRule rule) : Ok (stands_of rule) fun L => (∀ x, x ∈ L ↔ StB rule.2 x) ∧ L.Nodup :=
  (stands_of_ord g).mono fun L h => ⟨h.1, h.2.imp fun {a b} h e => by subst e; exact lt2_irr _ h⟩
theorem all_stands_ok {rule : Int × List (List Int)} (g : GoodRule rule) : Ok (all_stands rule) fun L => (∀ x, x ∈ L ↔ StB rule.2 x) ∧ L.Nodup := by
  unfold all_stands
  rw [need_rule_eq g, Option.bind_some]
  exact (stands_of_ok g).bind fun L h => Ok.mk h
theorem step_from_eq {rule : Int × List (List Int)} (g : GoodRule rule) {e : List Int} {f : Int} (hf : Figs rule.1 e) (hs : StB rule.2 e) (hl : e.length < 1000) (f0 : 0 ≤ f) (f1 : f < rule.1) : step_from rule e f = some (standL rule.2 (e ++ [f])) := by
  unfold step_from
  rw [need_rule_eq g, Option.bind_some, are_figures_eq hf, Option.bind_some, if_neg (by decide)]
  refine Ok.eq ((stands_of_ok g).bind fun L ⟨hL, _⟩ => ?_)
  rw [memT_iff.mpr ((hL e).mpr hs), if_neg (by decide), is_figure_eq f0 f1, Option.bind_some, if_neg (by decide)]
  refine Ok.guard (by rw [List.length_singleton]; omega) ?_
  rw [stand_of_eq g (by rw [List.length_append, List.length_singleton]; omega)]
  exact Ok.mk rfl
theorem due_step {bad : List (List Int)} (hb : bad.length ≤ 4) (h4 : ∀ s ∈ bad, 1 ≤ s.length ∧ s.length ≤ 4) {k : Nat} (hk : 1 ≤ k) {x1 : List (List Int)} (hx1 : x1.length ≤ 100) {next : List (List Int) → Option (List (List Int))} {Q : List (List Int) → Prop}
    (hN : ∀ S : List (List Int), S.Nodup → S.length ≤ 4 → (∀ x, x ∈ S ↔ ∃ s ∈ bad, x <+: s ∧ x.length = k ∧ k < s.length ∧ goodB bad x = true) → Ok (next (x1 ++ sortT S)) Q) : Ok (_law_due_b1 bad x1 (k : Int) next) Q := by
  rw [_law_due_b1]
  refine forK_okI (P := fun pre S => S.Nodup ∧ S.length ≤ pre.length ∧ (∀ x, x ∈ S ↔ ∃ s ∈ pre, x <+: s ∧ x.length = k ∧ k < s.length ∧ goodB bad x = true)) ⟨List.nodup_nil, Nat.le_refl _, fun x => ⟨fun h => absurd h List.not_mem_nil, fun ⟨s, hs, _⟩ => absurd hs List.not_mem_nil⟩⟩ (fun pre t post S next2 e hP hN2 => ?_) (fun S hP => ?_)
  · obtain ⟨p1, p2, p3⟩ := hP
    have hl := congrArg List.length e
    rw [List.length_append] at hl
    have ht := h4 t (by rw [e]; exact List.mem_append_right _ List.mem_cons_self)
    have np : (pre ++ [t]).length = pre.length + 1 := by rw [List.length_append]; rfl
    -- what the beginning of t brings
    have ext : ∀ x, (∃ s ∈ pre ++ [t], x <+: s ∧ x.length = k ∧ k < s.length ∧ goodB bad x = true) ↔ x ∈ S ∨ (x = t.take k ∧ k < t.length ∧ goodB bad x = true) := fun x => by
      constructor
      · rintro ⟨s, hs, a, b, c, d⟩
        rcases List.mem_append.mp hs with h | h
        · exact .inl ((p3 x).mpr ⟨s, h, a, b, c, d⟩)
        · rw [List.mem_singleton.mp h] at a c
          exact .inr ⟨by have := List.prefix_iff_eq_take.mp a; rw [b] at this; exact this, c, d⟩
      · rintro (h | ⟨rfl, c, d⟩)
        · obtain ⟨s, hs, r⟩ := (p3 x).mp h
          exact ⟨s, List.mem_append_left _ hs, r⟩
        · exact ⟨t, List.mem_append_right _ List.mem_cons_self, List.take_prefix _ _, by rw [List.length_take]; omega, c, d⟩
    have keep : (¬ (k < t.length ∧ goodB bad (t.take k) = true) ∨ t.take k ∈ S) → Ok (next2 S) Q := fun h => by
      refine hN2 S ⟨p1, by omega, fun x => ?_⟩
      rw [ext]
      refine ⟨.inl, fun hx => hx.elim id fun ⟨a, b, c⟩ => ?_⟩
      subst a
      exact h.elim (fun z => absurd ⟨b, c⟩ z) id
    rw [_law_due_b3, cut_take (by omega), Int.toNat_natCast]
    refine Ok.ite (fun hc => ?_) (fun hc => keep (.inl fun z => hc (decide_eq_true (by omega))))
    have hc : (k : Int) < (t.length : Int) := of_decide_eq_true hc
    refine Ok.ite (fun hm => ?_) (fun hm => keep (.inr (memT_iff.mp (by cases h : memT (t.take k) S with | true => rfl | false => rw [h] at hm; exact absurd rfl hm))))
    rw [Bool.not_eq_true', memT_no] at hm
    rw [law_lacks_eq (fun s hs => (h4 s hs).1) (by rw [List.length_take]; omega), Option.bind_some]
    refine Ok.ite (fun hg => ?_) (fun hg => keep (.inl fun z => hg z.2))
    refine Ok.guard (by omega) (hN2 _ ⟨?_, ?_, fun x => ?_⟩)
    · refine List.nodup_append.mpr ⟨p1, List.nodup_cons.mpr ⟨List.not_mem_nil, List.nodup_nil⟩, fun a ha b hb e => ?_⟩
      rw [List.mem_singleton] at hb
      subst e hb
      exact hm ha
    · rw [np, List.length_append, List.length_singleton]; omega
    · rw [ext, List.mem_append, List.mem_singleton]
      exact ⟨fun h => h.imp id fun h => by subst h; exact ⟨rfl, by omega, hg⟩, fun h => h.imp id fun h => h.1⟩
  · obtain ⟨p1, p2, p3⟩ := hP
    rw [_law_due_e4]
    exact Ok.guard (by omega) (Ok.guard (by rw [sortT_len]; omega) (hN S p1 (by omega) p3))
theorem sort_same {S : List (List Int)} (h : S.Nodup) {k : Nat} (hk : ∀ x ∈ S, x.length = k) : (sortT S).Pairwise lt2 :=
  List.Pairwise.imp_of_mem (fun ha hb h => .inr ⟨by rw [hk _ (sortT_mem.mp ha), hk _ (sortT_mem.mp hb)], h⟩) (sortT_lt h)
theorem due_ok {bad : List (List Int)} (hb : bad.length ≤ 4) (h4 : ∀ s ∈ bad, 1 ≤ s.length ∧ s.length ≤ 4) : Ok (_law_due bad) fun L => ((∀ x, x ∈ L ↔ StB bad x) ∧ L.Pairwise lt2) ∧ L.length ≤ 13 := by
  unfold _law_due
  show Ok (_law_due_b1 bad [[]] ((1 : Nat) : Int) fun s => _law_due_b1 bad s ((2 : Nat) : Int) fun s => _law_due_b1 bad s ((3 : Nat) : Int) _law_due_e2) _
  refine due_step hb h4 (by decide) (by decide) fun S1 n1 l1 m1 => ?_
  refine due_step hb h4 (by decide) (by rw [List.length_append, sortT_len, List.length_singleton]; omega) fun S2 n2 l2 m2 => ?_
  refine due_step hb h4 (by decide) (by rw [List.length_append, List.length_append, sortT_len, sortT_len, List.length_singleton]; omega) fun S3 n3 l3 m3 => ?_
  rw [_law_due_e2]
  have k1 : ∀ x ∈ sortT S1, x.length = 1 := fun x hx => by obtain ⟨_, _, _, h, _⟩ := (m1 x).mp (sortT_mem.mp hx); exact h
  have k2 : ∀ x ∈ sortT S2, x.length = 2 := fun x hx => by obtain ⟨_, _, _, h, _⟩ := (m2 x).mp (sortT_mem.mp hx); exact h
  have k3 : ∀ x ∈ sortT S3, x.length = 3 := fun x hx => by obtain ⟨_, _, _, h, _⟩ := (m3 x).mp (sortT_mem.mp hx); exact h
  refine Ok.mk ⟨⟨fun x => ?_, ?_⟩, by simp only [List.length_append, List.length_singleton, sortT_len]; omega⟩
  · rw [List.mem_append, List.mem_append, List.mem_append, List.mem_singleton, sortT_mem, sortT_mem, sortT_mem, m1, m2, m3]
    constructor
    · rintro (((h | ⟨s, hs, a, b, c, d⟩) | ⟨s, hs, a, b, c, d⟩) | ⟨s, hs, a, b, c, d⟩)
      · exact .inl h
      · exact .inr ⟨s, hs, a, by omega, by omega, d⟩
      · exact .inr ⟨s, hs, a, by omega, by omega, d⟩
      · exact .inr ⟨s, hs, a, by omega, by omega, d⟩
    · rintro (h | ⟨s, hs, a, b, c, d⟩)
      · exact .inl (.inl (.inl h))
      · have := (h4 s hs).2
        rcases (show x.length = 1 ∨ x.length = 2 ∨ x.length = 3 by omega) with e | e | e
        · exact .inl (.inl (.inr ⟨s, hs, a, e, by omega, d⟩))
        · exact .inl (.inr ⟨s, hs, a, e, by omega, d⟩)
        · exact .inr ⟨s, hs, a, e, by omega, d⟩
  · refine List.pairwise_append.mpr ⟨List.pairwise_append.mpr ⟨List.pairwise_append.mpr ⟨List.pairwise_singleton _ _, sort_same n1 fun x hx => k1 x (sortT_mem.mpr hx), fun a ha b hb => ?_⟩, sort_same n2 fun x hx => k2 x (sortT_mem.mpr hx), fun a ha b hb => ?_⟩, sort_same n3 fun x hx => k3 x (sortT_mem.mpr hx), fun a ha b hb => ?_⟩
    · rw [List.mem_singleton.mp ha]
      exact .inl (by rw [k1 b hb]; decide)
    · refine .inl ?_
      rw [k2 b hb]
      rcases List.mem_append.mp ha with h | h
      · rw [List.mem_singleton.mp h]; decide
      · rw [k1 a h]; decide
    · refine .inl ?_
      rw [k3 b hb]
      rcases List.mem_append.mp ha with h | h
      · rcases List.mem_append.mp h with h | h
        · rw [List.mem_singleton.mp h]; decide
        · rw [k1 a h]; decide
      · rw [k2 a h]; decide
theorem due_same {rule : Int × List (List Int)} (g : GoodRule rule) : ∃ L, all_stands rule = some L ∧ _law_due rule.2 = some L ∧ (∀ x, x ∈ L ↔ StB rule.2 x) ∧ L.Pairwise lt2 ∧ L.length ≤ 13 := by
  obtain ⟨L, e1, m1, s1⟩ := stands_of_ord g
  obtain ⟨M, e2, ⟨m2, s2⟩, l2⟩ := due_ok g.few fun s hs => (g.figs s hs).2
  have e : L = M := sorted_ext s1 s2 fun x => (m1 x).trans (m2 x).symm
  subst e
  refine ⟨L, ?_, e2, m1, s1, l2⟩
  unfold all_stands
  rw [need_rule_eq g, Option.bind_some, e1]
  rfl
/-! #### the longest end, as the laws tell it -/
theorem Figs.sub {b : Int} {x y : List Int} (h : Figs b y) (k : ∀ d ∈ x, d ∈ y) : Figs b x := fun d hd => h d (k d hd)
theorem tail_step {bad : List (List Int)} {ds : List Int} {k : Nat} (hb : bad.length ≤ 1000) (hl : ds.length < 1000000) (hle : (endsL bad ds).length ≤ k + 1) (next : Unit → Option (List Int)) :
    _law_tail_b1 ds bad () ((k + 1 : Nat) : Int) next = if (endsL bad ds).length = k + 1 then some (endsL bad ds) else next () := by
  have es := ends_suf bad ds
  rw [_law_tail_b1]
  by_cases hk : k + 1 ≤ ds.length
  · have cd : cutT ds (some ((ds.length : Int) - ((k + 1 : Nat) : Int))) none = ds.drop (ds.length - (k + 1)) := by
      rw [cut_drop (by omega) (by omega)]
      exact congrArg (fun j => ds.drop j) (by omega)
    have lT : (ds.drop (ds.length - (k + 1))).length = k + 1 := by rw [List.length_drop]; omega
    rw [if_pos (by rw [decide_eq_true_eq]; omega)]
    rw [forK_fm (p := fun s => eqT (s.take (k + 1)) (ds.drop (ds.length - (k + 1)))) (g := fun x => x) (B := 16777216) (fun acc x next hl2 => by
      rw [_law_tail_c3, cd, cut_take (by omega), Int.toNat_natCast, if_pos hl2]) _ _ (by rw [List.length_nil]; omega)]
    rw [_law_tail_k4, List.map_id', List.nil_append, cd]
    have pt : ∀ s, eqT (s.take (k + 1)) (ds.drop (ds.length - (k + 1))) = true ↔ ds.drop (ds.length - (k + 1)) <+: s := fun s => by
      rw [eqT_iff, List.prefix_iff_eq_take, lT]; exact eq_comm
    by_cases hx : ∃ s ∈ bad, ds.drop (ds.length - (k + 1)) <+: s
    · have hm := ends_max (bad := bad) (List.drop_suffix (ds.length - (k + 1)) ds) (.inr hx)
      have hm2 := hm.length_le
      have e : ds.drop (ds.length - (k + 1)) = endsL bad ds := hm.eq_of_length_le (by omega)
      rw [if_pos, if_pos (by omega), e]
      rw [Bool.not_eq_true', ← Bool.not_eq_true, filter_nil_iff]
      obtain ⟨s, hs, hp⟩ := hx
      exact fun h => h s hs ((pt s).mpr hp)
    · rw [if_neg, if_neg]
      · intro h
        have e := List.suffix_iff_eq_drop.mp es
        rw [h] at e
        rcases ends_beg bad ds with h2 | h2
        · rw [h2] at h; exact absurd h (by rw [List.length_nil]; omega)
        · rw [e] at h2; exact hx h2
      · rw [Bool.not_eq_true', ← Bool.not_eq_true, Classical.not_not, filter_nil_iff]
        exact fun s hs h => hx ⟨s, hs, (pt s).mp h⟩
  · have := es.length_le
    rw [if_neg (by rw [decide_eq_true_eq]; omega), if_neg (by omega)]
theorem tail_eq {bad : List (List Int)} {ds : List Int} (hb : bad.length ≤ 1000) (hl : ds.length < 1000000) (h4 : ∀ s ∈ bad, s.length ≤ 4) (g : goodB bad ds = true) : _law_tail bad ds = some (endsL bad ds) := by
  have h3 : (endsL bad ds).length ≤ 2 + 1 := by
    rcases ends_StB g with h | ⟨s, hs, _, _, h, _⟩
    · rw [h]; exact Nat.zero_le _
    · have := h4 s hs
      omega
  unfold _law_tail
  show _law_tail_b1 ds bad () ((2 + 1 : Nat) : Int) (fun _ => _law_tail_b1 ds bad () ((1 + 1 : Nat) : Int) (fun _ => _law_tail_b1 ds bad () ((0 + 1 : Nat) : Int) _law_tail_e2)) = _
  rw [tail_step hb hl h3]
  split
  · rfl
  · rw [tail_step hb hl (by omega)]
    split
    · rfl
    · rw [tail_step hb hl (by omega)]
      split
      · rfl
      · rw [_law_tail_e2, List.length_eq_zero_iff.mp (show (endsL bad ds).length = 0 by omega)]
/-! #### the law -/
theorem step_j {st : HdS} {rule : Int × List (List Int)} (g : GoodRule rule) {e : List Int} {f : Int} (hf : Figs rule.1 e) (hs : StB rule.2 e) (hl : e.length ≤ 3) (f0 : 0 ≤ f) (f1 : f < rule.1) (hst : st.length ≤ 10000) :
    Ok (_law_step_right_j1 rule e f rule (standL rule.2 (e ++ [f]), st)) fun p => p.1 = true ∧ p.2 = st ++ [(standL rule.2 (e ++ [f]), standL rule.2 (e ++ [f]))] := by
  have S := step_from_eq g hf hs (by omega) f0 f1
  rw [_law_step_right_j1]
  refine forK_ok (P := fun s => s = st) rfl (fun s x next _ hP hN => ?_) (fun s hP => ?_)
  · subst hP
    have hN := hN s rfl
    rw [_law_step_right_b2, S, Option.bind_some]
    cases hs2 : standL rule.2 (e ++ [f]) with
    | none =>
      unfold optE
      dsimp only
      rw [hs2] at hN
      rw [eqT_iff.mpr rfl, if_neg (by decide), eqT_iff.mpr rfl, if_neg (by decide), eqT_iff.mpr rfl, if_neg (by decide), if_neg (by decide)]
      exact hN
    | some d =>
      have hd : d.length ≤ 4 := by
        unfold standL at hs2
        split at hs2
        · rw [← Option.some.inj hs2]
          have := (ends_suf rule.2 (e ++ [f])).length_le
          rw [List.length_append, List.length_singleton] at this
          omega
        · exact nomatch hs2
      unfold optE
      dsimp only
      rw [hs2] at hN
      rw [eqT_iff.mpr rfl, if_neg (by decide), eqT_iff.mpr rfl, if_neg (by decide), eqT_iff.mpr rfl, if_neg (by decide), if_pos (by rfl)]
      refine forK_ok (P := fun s' => s' = ([], s)) rfl (fun s' x next2 _ hP2 hN2 => ?_) (fun s' hP2 => ?_)
      · subst hP2
        rw [_law_step_right_c4]; exact hN2 _ rfl
      · subst hP2
        rw [_law_step_right_k5, eqT_iff.mpr rfl, if_neg (by decide)]
        exact Ok.guard (by omega) hN
  · subst hP
    rw [_law_step_right_e3, S, Option.bind_some]
    exact Ok.guard (by omega) (Ok.mk ⟨by rw [eqT_iff.mpr rfl, eqT_iff.mpr rfl]; rfl, rfl⟩)
theorem step_right_ok {st : HdS} {rule : Int × List (List Int)} (g : GoodRule rule) {e : List Int} {f : Int} (hf : Figs rule.1 e) (hs : StB rule.2 e) (hl : e.length ≤ 3) (f0 : 0 ≤ f) (f1 : f < rule.1) (hst : st.length ≤ 10000) :
    Ok (_law_step_right st rule rule e f) fun p => p.1 = true ∧ p.2 = st ++ [(standL rule.2 (e ++ [f]), standL rule.2 (e ++ [f]))] := by
  have hf4 := g.few
  have J := step_j (st := st) g hf hs hl f0 f1 hst
  have hl2 : (e ++ [f]).length ≤ 4 := by rw [List.length_append, List.length_singleton]; omega
  unfold _law_step_right
  refine Ok.guard (by rw [List.length_singleton]; omega) ?_
  rw [law_lacks_eq (fun s hs => (g.figs s hs).2.1) (by omega), Option.bind_some]
  refine Ok.ite (fun hc => ?_) (fun hc => ?_)
  · rw [tail_eq (by omega) (by omega) (fun s hs => (g.figs s hs).2.2) hc, Option.bind_some]
    have e : standL rule.2 (e ++ [f]) = some (endsL rule.2 (e ++ [f])) := by unfold standL; rw [if_pos hc]
    rw [e] at J ⊢
    exact J
  · have e : standL rule.2 (e ++ [f]) = none := by unfold standL; rw [if_neg hc]
    rw [e] at J ⊢
    exact J
theorem StB_figs {rule : Int × List (List Int)} (g : GoodRule rule) {x : List Int} (h : StB rule.2 x) : Figs rule.1 x ∧ x.length ≤ 3 := by
  rcases h with rfl | ⟨s, hs, hp, h1, h2, _⟩
  · exact ⟨Figs.nil, by decide⟩
  · obtain ⟨f1, f2, f3⟩ := g.figs s hs
    exact ⟨f1.sub fun d hd => hp.subset hd, by omega⟩
theorem steps_of : ∀ by_ ∈ [(1 : Int), 2, 3], ∀ r ∈ [(0 : Int), 1, 2], ∀ base ∈ irange 2 17, r < by_ → RgD r base by_ ∧ (∀ x ∈ irangeC r base by_, 0 ≤ x ∧ x < base) ∧ (irangeC r base by_).length ≤ 16 := by decide +kernel
/-- all figures of one stand -/
theorem inner_ok {rule : Int × List (List Int)} (g : GoodRule rule) {by_ r : Int} (hb : by_ = 1 ∨ by_ = 2 ∨ by_ = 3) (h0 : 0 ≤ r) (h1 : r < by_) : RgD r rule.1 by_ ∧ (∀ x ∈ irangeC r rule.1 by_, 0 ≤ x ∧ x < rule.1) ∧ (irangeC r rule.1 by_).length ≤ 16 :=
  steps_of by_ (by rcases hb with h | h | h <;> rw [h] <;> decide) r (by
    have : r = 0 ∨ r = 1 ∨ r = 2 := by omega
    rcases this with h | h | h <;> rw [h] <;> decide) rule.1 (irange_mem.mpr ⟨g.lo, by have := g.hi; omega⟩) h1
abbrev HdOk (st : HdS) : Prop := ∀ p ∈ st, p.1 = p.2
theorem HdOk.snoc {st : HdS} {x : Option (List Int)} (h : HdOk st) : HdOk (st ++ [(x, x)]) := fun p hp => by
  rcases List.mem_append.mp hp with h' | h'
  · exact h p h'
  · rw [List.mem_singleton.mp h']
theorem set_tail (L : List (List Int)) (y : List Int) (hl : L.length ≤ 1000) (h1 : 1 ≤ L.length) : cutT (L.set 0 y) (some 1) none = cutT L (some 1) none := by
  rw [cut_drop (by decide) (by rw [List.length_set]; omega), cut_drop (by decide) (by omega)]
  cases L with
  | nil => rfl
  | cons a L => rfl
theorem right_ok {st : DkS} {hst : HdS} {rule : Int × List (List Int)} (g : GoodRule rule) (hd : DkOk st) (hh : HdOk hst) (hl : hst.length ≤ 5000) :
    Ok (_law_right st hst rule) fun p => p.1 = true ∧ (HdOk p.2.1 ∧ p.2.1.length ≤ hst.length + 208) ∧ DkOk p.2.2 := by
  have hf4 := g.few
  obtain ⟨L, e1, e2, m1, s1, l1⟩ := due_same g
  have nd : L.Nodup := s1.imp fun {a b} h e => by subst e; exact lt2_irr _ h
  have hn : 1 ≤ L.length := List.length_pos_iff.mpr fun e => by
    have := (m1 []).mpr (.inl rfl)
    rw [e] at this
    exact absurd this List.not_mem_nil
  unfold _law_right
  rw [law_own_eq (by omega), Option.bind_some, e2, Option.bind_some]
  refine forK_ok (P := DkOk) hd (fun s x next _ hP hN => ?_) (fun s hP => ?_)
  · rw [_law_right_b1, e1, Option.bind_some]
    refine Ok.guard nd ?_
    rw [eqT_iff.mpr rfl, if_neg (by decide), eqT_iff.mpr rfl, if_neg (by decide)]
    refine forK_ok (P := fun q => q = ([], s)) rfl (fun q t next2 ht hP2 hN2 => ?_) (fun q hP2 => ?_)
    · subst hP2
      rw [_law_right_c3, List.getElem?_eq_getElem (List.mem_range.mp ht), Option.bind_some]
      exact hN2 _ rfl
    · subst hP2
      obtain ⟨x4, e4, _, m4⟩ := atI_lt (xs := L) (i := 0) (by decide) (by omega)
      have ix : (ixN L.length (0 : Int)).getD 0 = 0 := by unfold ixN; rw [if_pos (by decide), if_pos (by omega)]; rfl
      rw [_law_right_k4, eqT_iff.mpr rfl, if_neg (by decide), e4, Option.bind_some]
      have := (StB_figs g ((m1 x4).mp m4)).2
      refine Ok.guard (by omega) ?_
      rw [ix, set_tail L _ (by omega) hn, eqT_iff.mpr rfl, if_neg (by decide), eqT_iff.mpr rfl, if_neg (by decide)]
      exact Ok.guard (by rw [List.length_set]; omega) (hN s hP)
  · have all : ∀ (by_ : Int), (by_ = 1 ∨ by_ = 2 ∨ by_ = 3) → ∀ (st2 : DkS), DkOk st2 → ∀ (B : (HdS × DkS) → List Int → ((HdS × DkS) → Option (Bool × HdS × DkS)) → Option (Bool × HdS × DkS)) (E : (HdS × DkS) → Option (Bool × HdS × DkS)) (C : List Int → (HdS × DkS) → Int → ((HdS × DkS) → Option (Bool × HdS × DkS)) → Option (Bool × HdS × DkS)),
        (∀ x5 st4 t3 next3, B (x5, st4) t3 next3 = (_law_draw st4 by_).bind fun p => if RgD p.1 rule.1 by_ then forK (C t3) (irangeC p.1 rule.1 by_) (x5, p.2) next3 else none) →
        (∀ t3 x6 st6 t4 next4, C t3 (x6, st6) t4 next4 = (_law_step_right x6 rule rule t3 t4).bind fun p => if (!p.1) = true then some (false, p.2, st6) else next4 (p.2, st6)) →
        (∀ x5 st4, E (x5, st4) = some (true, x5, st4)) →
        Ok (forK B L (hst, st2) E) fun p => p.1 = true ∧ (HdOk p.2.1 ∧ p.2.1.length ≤ hst.length + 208) ∧ DkOk p.2.2 := by
      intro by_ hb st2 h2 B E C hB hC hE
      refine forK_okI (P := fun pre q => HdOk q.1 ∧ q.1.length ≤ hst.length + 16 * pre.length ∧ DkOk q.2) ⟨hh, Nat.le_refl _, h2⟩ (fun pre t post q next e hP hN => ?_) (fun q hP => ?_)
      · obtain ⟨x5, st4⟩ := q
        obtain ⟨p1, p2, p3⟩ := hP
        have p2 : x5.length ≤ hst.length + 16 * pre.length := p2
        have ht := (m1 t).mp (by rw [e]; exact List.mem_append_right _ List.mem_cons_self)
        obtain ⟨tf, tl⟩ := StB_figs g ht
        have np : (pre ++ [t]).length = pre.length + 1 := by rw [List.length_append]; rfl
        have hpl : pre.length ≤ 13 := by
          have := congrArg List.length e
          rw [List.length_append] at this
          omega
        rw [hB]
        refine (draw_ok p3 (by omega) (by omega)).bind fun ⟨r5, st5⟩ ⟨⟨a1, a2⟩, h5⟩ => ?_
        obtain ⟨k1, k2, k3⟩ := inner_ok g hb a1 a2
        dsimp only at k1 k2 k3 ⊢
        refine Ok.guard k1 ?_
        refine forK_okI (P := fun pre2 q => HdOk q.1 ∧ q.1.length ≤ hst.length + 16 * pre.length + pre2.length ∧ DkOk q.2) ⟨p1, p2, h5⟩ (fun pre2 t2 post2 q next2 e2 hP2 hN2 => ?_) (fun q hP2 => ?_)
        · obtain ⟨x6, st6⟩ := q
          obtain ⟨q1, q2, q3⟩ := hP2
          have q2 : x6.length ≤ hst.length + 16 * pre.length + pre2.length := q2
          have hp2 : pre2.length ≤ 16 := by
            have := congrArg List.length e2
            rw [List.length_append] at this
            omega
          obtain ⟨f0, f1⟩ := k2 t2 (by rw [e2]; exact List.mem_append_right _ List.mem_cons_self)
          rw [hC]
          refine (step_right_ok g tf ht tl f0 f1 (by omega)).bind fun ⟨r6, x7⟩ ⟨c1, c2⟩ => ?_
          dsimp only at c1 c2 ⊢
          subst c1 c2
          rw [if_neg (by decide)]
          refine hN2 _ ⟨q1.snoc, ?_, q3⟩
          show (x6 ++ [_]).length ≤ _
          rw [List.length_append, List.length_append, List.length_singleton, List.length_singleton]; omega
        · obtain ⟨x6, st6⟩ := q
          obtain ⟨q1, q2, q3⟩ := hP2
          have q2 : x6.length ≤ hst.length + 16 * pre.length + (irangeC r5 rule.1 by_).length := q2
          refine hN _ ⟨q1, ?_, q3⟩
          show x6.length ≤ _
          omega
      · obtain ⟨x5, st4⟩ := q
        obtain ⟨p1, p2, p3⟩ := hP
        have p2 : x5.length ≤ hst.length + 16 * L.length := p2
        rw [hE]
        exact Ok.mk ⟨rfl, ⟨p1, by show x5.length ≤ _; omega⟩, p3⟩
    rw [_law_right_e2]
    refine Ok.ite (fun _ => ?_) (fun _ => ?_)
    · refine (draw_ok hP (by decide) (by decide)).bind fun ⟨r4, st3⟩ ⟨⟨a1, a2⟩, h3⟩ => ?_
      have a1 : 0 ≤ r4 := a1
      have a2 : r4 < 3 := a2
      dsimp only
      have hb : (1 : Int) + (if decide ((4 : Int) < (L.length : Int)) = true then (1 : Int) else 0) * r4 = 1 ∨ (1 : Int) + (if decide ((4 : Int) < (L.length : Int)) = true then (1 : Int) else 0) * r4 = 2 ∨ (1 : Int) + (if decide ((4 : Int) < (L.length : Int)) = true then (1 : Int) else 0) * r4 = 3 := by split <;> omega
      refine Ok.guard (Mv_of (a := 2) (b := 2) ?_ (by omega) (by decide) (by decide) (by decide)) ?_
      · split <;> decide
      exact all _ hb st3 h3 _ _ (fun t3 => _law_right_b7 rule rule t3) (fun x5 st4 t3 next3 => by rw [_law_right_b5]; rfl) (fun t3 x6 st6 t4 next4 => by rw [_law_right_b7]) (fun x5 st4 => by rw [_law_right_e6])
    · refine (draw_ok hP (by decide) (by decide)).bind fun ⟨r7, st7⟩ ⟨⟨a1, a2⟩, h3⟩ => ?_
      have a1 : 0 ≤ r7 := a1
      have a2 : r7 < 3 := a2
      dsimp only
      have hb : (1 : Int) + (if false = true then (1 : Int) else 0) * r7 = 1 := by rw [if_neg (by decide)]; omega
      refine Ok.guard (Mv_of (a := 2) (b := 2) (by decide) (by omega) (by decide) (by decide) (by decide)) ?_
      exact all _ (.inl hb) st7 h3 _ _ (fun t3 => _law_right_b11 rule rule t3) (fun x5 st4 t3 next3 => by rw [_law_right_b9]; rfl) (fun t3 x6 st6 t4 next4 => by rw [_law_right_b11]) (fun x5 st4 => by rw [_law_right_e10])
theorem law_true (ns : List Int) : law ns = some true := by
  unfold law
  refine Ok.eq (forK_okI (P := fun pre s => HdOk s.1 ∧ s.1.length ≤ 208 * pre.length ∧ DkOk s.2) ⟨(fun p hp => absurd hp List.not_mem_nil), Nat.zero_le _, mkDeck_ok ns⟩ (fun pre t post s next e hP hN => ?_) fun s hP => ?_)
  · obtain ⟨x1, st1⟩ := s
    obtain ⟨p1, p2, p3⟩ := hP
    have p2 : x1.length ≤ 208 * pre.length := p2
    have np : (pre ++ [t]).length = pre.length + 1 := by rw [List.length_append]; rfl
    have hpl : pre.length ≤ 14 := by
      have := congrArg List.length e
      rw [irange_len, List.length_append] at this
      omega
    rw [law_b1]
    refine (some_rule_ok p3).bind fun ⟨r1, st2⟩ ⟨g, h2⟩ => ?_
    have g : GoodRule r1 := g
    refine (right_ok g h2 p1 (by omega)).bind fun ⟨r2, x2, st3⟩ ⟨c1, ⟨c2, c3⟩, c4⟩ => ?_
    have c1 : r2 = true := c1
    have c3 : x2.length ≤ x1.length + 208 := c3
    subst c1
    dsimp only
    rw [if_neg (by decide)]
    refine hN _ ⟨c2, ?_, c4⟩
    show x2.length ≤ _
    omega
  · obtain ⟨x1, st1⟩ := s
    obtain ⟨p1, p2, p3⟩ := hP
    rw [law_e2]
    refine forK_ok (P := fun s => s.1 = []) rfl (fun s x next hx hP hN => ?_) (fun s hP => ?_)
    · obtain ⟨x6, st5⟩ := s
      have hP : x6 = [] := hP
      subst hP
      rw [law_c3, if_neg (by rw [p1 x hx, eqT_iff.mpr rfl]; decide)]
      exact hN _ rfl
    · obtain ⟨x6, st5⟩ := s
      have hP : x6 = [] := hP
      subst hP
      have lt1 : ltT [(1 : Int), 3] [7] = true := by
        cases h : ltT [(1 : Int), 3] [7] with
        | true => rfl
        | false => exact absurd h (by decide)
      have g1 : GoodRule ((10 : Int), [[(1 : Int), (3 : Int)], [(7 : Int)]]) := ⟨by decide, by decide, by decide, fun s hs => by
        rcases List.mem_cons.mp hs with rfl | hs
        · exact ⟨by unfold Figs; decide, by decide, by decide⟩
        · rw [List.mem_singleton.mp hs]; exact ⟨by unfold Figs; decide, by decide, by decide⟩, List.pairwise_cons.mpr ⟨fun a ha => by rw [List.mem_singleton.mp ha]; exact lt1, List.pairwise_singleton _ _⟩⟩
      have g2 : GoodRule ((10 : Int), [[(1 : Int), (3 : Int)]]) := ⟨by decide, by decide, by decide, fun s hs => by rw [List.mem_singleton.mp hs]; exact ⟨by unfold Figs; decide, by decide, by decide⟩, List.pairwise_singleton _ _⟩
      have good1 : goodB [[(1 : Int), 3], [7]] [1] = true := by
        rw [goodB_iff]
        intro s hs hi
        obtain ⟨k, hk, he⟩ := infix_at.mp hi
        rcases List.mem_cons.mp hs with rfl | hs
        · have hk : k + 2 ≤ 1 := hk
          omega
        · rw [List.mem_singleton.mp hs] at he hk
          have hk : k + 1 ≤ 1 := hk
          have : k = 0 := by omega
          subst this
          exact absurd he (by decide)
      have st1 : ∀ x, StB [[(1 : Int), 3], [7]] x ↔ x = [] ∨ x = [1] := fun x => by
        constructor
        · rintro (h | ⟨s, hs, hp, h1, h2, _⟩)
          · exact .inl h
          · rcases List.mem_cons.mp hs with rfl | hs
            · have h2 : x.length < 2 := h2
              have e := List.prefix_iff_eq_take.mp hp
              rw [show x.length = 1 by omega] at e
              exact .inr e
            · rw [List.mem_singleton.mp hs] at h2
              have h2 : x.length < 1 := h2
              omega
        · rintro (h | h)
          · exact .inl h
          · subst h
            exact .inr ⟨[1, 3], List.mem_cons_self, ⟨[3], rfl⟩, by decide, by decide, good1⟩
      obtain ⟨L, e1, _, m1, s1, _⟩ := due_same g1
      have eL : L = [[], [1]] := sorted_ext s1 (List.pairwise_cons.mpr ⟨fun a ha => by rw [List.mem_singleton.mp ha]; exact .inl (by decide), List.pairwise_singleton _ _⟩) fun x => by
        rw [m1, st1, List.mem_cons, List.mem_singleton]
      have s2 : StB [[(1 : Int), 3]] [1] := .inr ⟨[1, 3], List.mem_cons_self, ⟨[3], rfl⟩, by decide, by decide, by
        rw [goodB_iff]
        intro s hs hi
        obtain ⟨k, hk, he⟩ := infix_at.mp hi
        rw [List.mem_singleton.mp hs] at hk
        have hk : k + 2 ≤ 1 := hk
        omega⟩
      have c2 : standL [[(1 : Int), (3 : Int)]] ([1] ++ [3]) = none := by
        unfold standL
        rw [if_neg]
        exact fun h => goodB_iff.mp h [1, 3] List.mem_cons_self ⟨[], [], rfl⟩
      rw [law_k4, eqT_iff.mpr rfl, if_neg (by decide), e1, Option.bind_some, eL, eqT_iff.mpr rfl, if_pos rfl, step_from_eq g2 (by unfold Figs; decide) s2 (by decide) (by decide) (by decide), Option.bind_some]
      rw [show standL ((10 : Int), [[(1 : Int), (3 : Int)]]).2 ([1] ++ [3]) = none from c2]
      exact Ok.mk rfl

theorem all_mk {l : PySem.W.OpenLaw} {w : World} {K : PySem.W.Frag} {h : Heap} {mg : Str → Option Value} {fa : Addr}
    (X : K.In h) (G : h.Ns mainGlobals mg) (hfa : mg "law" = some (.ref fa))
    {f__law_deck : Addr} {od__law_deck an__law_deck : Option Addr} {sl__law_deck : Array (Option Value)} {oc__law_deck kV__law_deck dc__law_deck pm__law_deck cd__law_deck ct__law_deck : Value}
    (a__law_deck : PySem.W.nsIn K mainGlobals "_law_deck" = some (some (.ref f__law_deck)))
    (l__law_deck : K.lookup f__law_deck = some ⟨oc__law_deck, od__law_deck, .func (PySem.W.fnOf "_law_deck" "_law_deck" (defArgs s__law_deck) (defBody s__law_deck) (defScope s__law_deck) .none kV__law_deck dc__law_deck pm__law_deck an__law_deck cd__law_deck ct__law_deck), sl__law_deck⟩)
    (c__law_deck : PySem.W.codeIn K cd__law_deck "_law_deck" = true) (k__law_deck : PySem.W.keepIn K (.ref f__law_deck) = true)
    {f__law_draw : Addr} {od__law_draw an__law_draw : Option Addr} {sl__law_draw : Array (Option Value)} {oc__law_draw kV__law_draw dc__law_draw pm__law_draw cd__law_draw ct__law_draw : Value}
    (a__law_draw : PySem.W.nsIn K mainGlobals "_law_draw" = some (some (.ref f__law_draw)))
    (l__law_draw : K.lookup f__law_draw = some ⟨oc__law_draw, od__law_draw, .func (PySem.W.fnOf "_law_draw" "_law_draw" (defArgs s__law_draw) (defBody s__law_draw) (defScope s__law_draw) .none kV__law_draw dc__law_draw pm__law_draw an__law_draw cd__law_draw ct__law_draw), sl__law_draw⟩)
    (c__law_draw : PySem.W.codeIn K cd__law_draw "_law_draw" = true) (k__law_draw : PySem.W.keepIn K (.ref f__law_draw) = true)
    {f__law_lacks : Addr} {od__law_lacks an__law_lacks : Option Addr} {sl__law_lacks : Array (Option Value)} {oc__law_lacks kV__law_lacks dc__law_lacks pm__law_lacks cd__law_lacks ct__law_lacks : Value}
    (a__law_lacks : PySem.W.nsIn K mainGlobals "_law_lacks" = some (some (.ref f__law_lacks)))
    (l__law_lacks : K.lookup f__law_lacks = some ⟨oc__law_lacks, od__law_lacks, .func (PySem.W.fnOf "_law_lacks" "_law_lacks" (defArgs s__law_lacks) (defBody s__law_lacks) (defScope s__law_lacks) .none kV__law_lacks dc__law_lacks pm__law_lacks an__law_lacks cd__law_lacks ct__law_lacks), sl__law_lacks⟩)
    (c__law_lacks : PySem.W.codeIn K cd__law_lacks "_law_lacks" = true) (k__law_lacks : PySem.W.keepIn K (.ref f__law_lacks) = true)
    {f__law_due : Addr} {od__law_due an__law_due : Option Addr} {sl__law_due : Array (Option Value)} {oc__law_due kV__law_due dc__law_due pm__law_due cd__law_due ct__law_due : Value}
    (a__law_due : PySem.W.nsIn K mainGlobals "_law_due" = some (some (.ref f__law_due)))
    (l__law_due : K.lookup f__law_due = some ⟨oc__law_due, od__law_due, .func (PySem.W.fnOf "_law_due" "_law_due" (defArgs s__law_due) (defBody s__law_due) (defScope s__law_due) .none kV__law_due dc__law_due pm__law_due an__law_due cd__law_due ct__law_due), sl__law_due⟩)
    (c__law_due : PySem.W.codeIn K cd__law_due "_law_due" = true) (k__law_due : PySem.W.keepIn K (.ref f__law_due) = true)
    {f__law_own : Addr} {od__law_own an__law_own : Option Addr} {sl__law_own : Array (Option Value)} {oc__law_own kV__law_own dc__law_own pm__law_own cd__law_own ct__law_own : Value}
    (a__law_own : PySem.W.nsIn K mainGlobals "_law_own" = some (some (.ref f__law_own)))
    (l__law_own : K.lookup f__law_own = some ⟨oc__law_own, od__law_own, .func (PySem.W.fnOf "_law_own" "_law_own" (defArgs s__law_own) (defBody s__law_own) (defScope s__law_own) .none kV__law_own dc__law_own pm__law_own an__law_own cd__law_own ct__law_own), sl__law_own⟩)
    (c__law_own : PySem.W.codeIn K cd__law_own "_law_own" = true) (k__law_own : PySem.W.keepIn K (.ref f__law_own) = true)
    {f__law_tail : Addr} {od__law_tail an__law_tail : Option Addr} {sl__law_tail : Array (Option Value)} {oc__law_tail kV__law_tail dc__law_tail pm__law_tail cd__law_tail ct__law_tail : Value}
    (a__law_tail : PySem.W.nsIn K mainGlobals "_law_tail" = some (some (.ref f__law_tail)))
    (l__law_tail : K.lookup f__law_tail = some ⟨oc__law_tail, od__law_tail, .func (PySem.W.fnOf "_law_tail" "_law_tail" (defArgs s__law_tail) (defBody s__law_tail) (defScope s__law_tail) .none kV__law_tail dc__law_tail pm__law_tail an__law_tail cd__law_tail ct__law_tail), sl__law_tail⟩)
    (c__law_tail : PySem.W.codeIn K cd__law_tail "_law_tail" = true) (k__law_tail : PySem.W.keepIn K (.ref f__law_tail) = true)
    {f_is_whole : Addr} {od_is_whole an_is_whole : Option Addr} {sl_is_whole : Array (Option Value)} {oc_is_whole kV_is_whole dc_is_whole pm_is_whole cd_is_whole ct_is_whole : Value}
    (a_is_whole : PySem.W.nsIn K mainGlobals "is_whole" = some (some (.ref f_is_whole)))
    (l_is_whole : K.lookup f_is_whole = some ⟨oc_is_whole, od_is_whole, .func (PySem.W.fnOf "is_whole" "is_whole" (defArgs s_is_whole) (defBody s_is_whole) (defScope s_is_whole) .none kV_is_whole dc_is_whole pm_is_whole an_is_whole cd_is_whole ct_is_whole), sl_is_whole⟩)
    (c_is_whole : PySem.W.codeIn K cd_is_whole "is_whole" = true) (k_is_whole : PySem.W.keepIn K (.ref f_is_whole) = true)
    {f_is_figure : Addr} {od_is_figure an_is_figure : Option Addr} {sl_is_figure : Array (Option Value)} {oc_is_figure kV_is_figure dc_is_figure pm_is_figure cd_is_figure ct_is_figure : Value}
    (a_is_figure : PySem.W.nsIn K mainGlobals "is_figure" = some (some (.ref f_is_figure)))
    (l_is_figure : K.lookup f_is_figure = some ⟨oc_is_figure, od_is_figure, .func (PySem.W.fnOf "is_figure" "is_figure" (defArgs s_is_figure) (defBody s_is_figure) (defScope s_is_figure) .none kV_is_figure dc_is_figure pm_is_figure an_is_figure cd_is_figure ct_is_figure), sl_is_figure⟩)
    (c_is_figure : PySem.W.codeIn K cd_is_figure "is_figure" = true) (k_is_figure : PySem.W.keepIn K (.ref f_is_figure) = true)
    {f_are_figures : Addr} {od_are_figures an_are_figures : Option Addr} {sl_are_figures : Array (Option Value)} {oc_are_figures kV_are_figures dc_are_figures pm_are_figures cd_are_figures ct_are_figures : Value}
    (a_are_figures : PySem.W.nsIn K mainGlobals "are_figures" = some (some (.ref f_are_figures)))
    (l_are_figures : K.lookup f_are_figures = some ⟨oc_are_figures, od_are_figures, .func (PySem.W.fnOf "are_figures" "are_figures" (defArgs s_are_figures) (defBody s_are_figures) (defScope s_are_figures) .none kV_are_figures dc_are_figures pm_are_figures an_are_figures cd_are_figures ct_are_figures), sl_are_figures⟩)
    (c_are_figures : PySem.W.codeIn K cd_are_figures "are_figures" = true) (k_are_figures : PySem.W.keepIn K (.ref f_are_figures) = true)
    {f_is_base : Addr} {od_is_base an_is_base : Option Addr} {sl_is_base : Array (Option Value)} {oc_is_base kV_is_base dc_is_base pm_is_base cd_is_base ct_is_base : Value}
    (a_is_base : PySem.W.nsIn K mainGlobals "is_base" = some (some (.ref f_is_base)))
    (l_is_base : K.lookup f_is_base = some ⟨oc_is_base, od_is_base, .func (PySem.W.fnOf "is_base" "is_base" (defArgs s_is_base) (defBody s_is_base) (defScope s_is_base) .none kV_is_base dc_is_base pm_is_base an_is_base cd_is_base ct_is_base), sl_is_base⟩)
    (c_is_base : PySem.W.codeIn K cd_is_base "is_base" = true) (k_is_base : PySem.W.keepIn K (.ref f_is_base) = true)
    {f_is_stretch : Addr} {od_is_stretch an_is_stretch : Option Addr} {sl_is_stretch : Array (Option Value)} {oc_is_stretch kV_is_stretch dc_is_stretch pm_is_stretch cd_is_stretch ct_is_stretch : Value}
    (a_is_stretch : PySem.W.nsIn K mainGlobals "is_stretch" = some (some (.ref f_is_stretch)))
    (l_is_stretch : K.lookup f_is_stretch = some ⟨oc_is_stretch, od_is_stretch, .func (PySem.W.fnOf "is_stretch" "is_stretch" (defArgs s_is_stretch) (defBody s_is_stretch) (defScope s_is_stretch) .none kV_is_stretch dc_is_stretch pm_is_stretch an_is_stretch cd_is_stretch ct_is_stretch), sl_is_stretch⟩)
    (c_is_stretch : PySem.W.codeIn K cd_is_stretch "is_stretch" = true) (k_is_stretch : PySem.W.keepIn K (.ref f_is_stretch) = true)
    {f_is_rule : Addr} {od_is_rule an_is_rule : Option Addr} {sl_is_rule : Array (Option Value)} {oc_is_rule kV_is_rule dc_is_rule pm_is_rule cd_is_rule ct_is_rule : Value}
    (a_is_rule : PySem.W.nsIn K mainGlobals "is_rule" = some (some (.ref f_is_rule)))
    (l_is_rule : K.lookup f_is_rule = some ⟨oc_is_rule, od_is_rule, .func (PySem.W.fnOf "is_rule" "is_rule" (defArgs s_is_rule) (defBody s_is_rule) (defScope s_is_rule) .none kV_is_rule dc_is_rule pm_is_rule an_is_rule cd_is_rule ct_is_rule), sl_is_rule⟩)
    (c_is_rule : PySem.W.codeIn K cd_is_rule "is_rule" = true) (k_is_rule : PySem.W.keepIn K (.ref f_is_rule) = true)
    {f_need_rule : Addr} {od_need_rule an_need_rule : Option Addr} {sl_need_rule : Array (Option Value)} {oc_need_rule kV_need_rule dc_need_rule pm_need_rule cd_need_rule ct_need_rule : Value}
    (a_need_rule : PySem.W.nsIn K mainGlobals "need_rule" = some (some (.ref f_need_rule)))
    (l_need_rule : K.lookup f_need_rule = some ⟨oc_need_rule, od_need_rule, .func (PySem.W.fnOf "need_rule" "need_rule" (defArgs s_need_rule) (defBody s_need_rule) (defScope s_need_rule) .none kV_need_rule dc_need_rule pm_need_rule an_need_rule cd_need_rule ct_need_rule), sl_need_rule⟩)
    (c_need_rule : PySem.W.codeIn K cd_need_rule "need_rule" = true) (k_need_rule : PySem.W.keepIn K (.ref f_need_rule) = true)
    {f_ends_of : Addr} {od_ends_of an_ends_of : Option Addr} {sl_ends_of : Array (Option Value)} {oc_ends_of kV_ends_of dc_ends_of pm_ends_of cd_ends_of ct_ends_of : Value}
    (a_ends_of : PySem.W.nsIn K mainGlobals "ends_of" = some (some (.ref f_ends_of)))
    (l_ends_of : K.lookup f_ends_of = some ⟨oc_ends_of, od_ends_of, .func (PySem.W.fnOf "ends_of" "ends_of" (defArgs s_ends_of) (defBody s_ends_of) (defScope s_ends_of) .none kV_ends_of dc_ends_of pm_ends_of an_ends_of cd_ends_of ct_ends_of), sl_ends_of⟩)
    (c_ends_of : PySem.W.codeIn K cd_ends_of "ends_of" = true) (k_ends_of : PySem.W.keepIn K (.ref f_ends_of) = true)
    {f_stands_in : Addr} {od_stands_in an_stands_in : Option Addr} {sl_stands_in : Array (Option Value)} {oc_stands_in kV_stands_in dc_stands_in pm_stands_in cd_stands_in ct_stands_in : Value}
    (a_stands_in : PySem.W.nsIn K mainGlobals "stands_in" = some (some (.ref f_stands_in)))
    (l_stands_in : K.lookup f_stands_in = some ⟨oc_stands_in, od_stands_in, .func (PySem.W.fnOf "stands_in" "stands_in" (defArgs s_stands_in) (defBody s_stands_in) (defScope s_stands_in) .none kV_stands_in dc_stands_in pm_stands_in an_stands_in cd_stands_in ct_stands_in), sl_stands_in⟩)
    (c_stands_in : PySem.W.codeIn K cd_stands_in "stands_in" = true) (k_stands_in : PySem.W.keepIn K (.ref f_stands_in) = true)
    {f_lacks_all : Addr} {od_lacks_all an_lacks_all : Option Addr} {sl_lacks_all : Array (Option Value)} {oc_lacks_all kV_lacks_all dc_lacks_all pm_lacks_all cd_lacks_all ct_lacks_all : Value}
    (a_lacks_all : PySem.W.nsIn K mainGlobals "lacks_all" = some (some (.ref f_lacks_all)))
    (l_lacks_all : K.lookup f_lacks_all = some ⟨oc_lacks_all, od_lacks_all, .func (PySem.W.fnOf "lacks_all" "lacks_all" (defArgs s_lacks_all) (defBody s_lacks_all) (defScope s_lacks_all) .none kV_lacks_all dc_lacks_all pm_lacks_all an_lacks_all cd_lacks_all ct_lacks_all), sl_lacks_all⟩)
    (c_lacks_all : PySem.W.codeIn K cd_lacks_all "lacks_all" = true) (k_lacks_all : PySem.W.keepIn K (.ref f_lacks_all) = true)
    {f_stand_of : Addr} {od_stand_of an_stand_of : Option Addr} {sl_stand_of : Array (Option Value)} {oc_stand_of kV_stand_of dc_stand_of pm_stand_of cd_stand_of ct_stand_of : Value}
    (a_stand_of : PySem.W.nsIn K mainGlobals "stand_of" = some (some (.ref f_stand_of)))
    (l_stand_of : K.lookup f_stand_of = some ⟨oc_stand_of, od_stand_of, .func (PySem.W.fnOf "stand_of" "stand_of" (defArgs s_stand_of) (defBody s_stand_of) (defScope s_stand_of) .none kV_stand_of dc_stand_of pm_stand_of an_stand_of cd_stand_of ct_stand_of), sl_stand_of⟩)
    (c_stand_of : PySem.W.codeIn K cd_stand_of "stand_of" = true) (k_stand_of : PySem.W.keepIn K (.ref f_stand_of) = true)
    {f_stands_of : Addr} {od_stands_of an_stands_of : Option Addr} {sl_stands_of : Array (Option Value)} {oc_stands_of kV_stands_of dc_stands_of pm_stands_of cd_stands_of ct_stands_of : Value}
    (a_stands_of : PySem.W.nsIn K mainGlobals "stands_of" = some (some (.ref f_stands_of)))
    (l_stands_of : K.lookup f_stands_of = some ⟨oc_stands_of, od_stands_of, .func (PySem.W.fnOf "stands_of" "stands_of" (defArgs s_stands_of) (defBody s_stands_of) (defScope s_stands_of) .none kV_stands_of dc_stands_of pm_stands_of an_stands_of cd_stands_of ct_stands_of), sl_stands_of⟩)
    (c_stands_of : PySem.W.codeIn K cd_stands_of "stands_of" = true) (k_stands_of : PySem.W.keepIn K (.ref f_stands_of) = true)
    {f_step_from : Addr} {od_step_from an_step_from : Option Addr} {sl_step_from : Array (Option Value)} {oc_step_from kV_step_from dc_step_from pm_step_from cd_step_from ct_step_from : Value}
    (a_step_from : PySem.W.nsIn K mainGlobals "step_from" = some (some (.ref f_step_from)))
    (l_step_from : K.lookup f_step_from = some ⟨oc_step_from, od_step_from, .func (PySem.W.fnOf "step_from" "step_from" (defArgs s_step_from) (defBody s_step_from) (defScope s_step_from) .none kV_step_from dc_step_from pm_step_from an_step_from cd_step_from ct_step_from), sl_step_from⟩)
    (c_step_from : PySem.W.codeIn K cd_step_from "step_from" = true) (k_step_from : PySem.W.keepIn K (.ref f_step_from) = true)
    {f__law_step_right : Addr} {od__law_step_right an__law_step_right : Option Addr} {sl__law_step_right : Array (Option Value)} {oc__law_step_right kV__law_step_right dc__law_step_right pm__law_step_right cd__law_step_right ct__law_step_right : Value}
    (a__law_step_right : PySem.W.nsIn K mainGlobals "_law_step_right" = some (some (.ref f__law_step_right)))
    (l__law_step_right : K.lookup f__law_step_right = some ⟨oc__law_step_right, od__law_step_right, .func (PySem.W.fnOf "_law_step_right" "_law_step_right" (defArgs s__law_step_right) (defBody s__law_step_right) (defScope s__law_step_right) .none kV__law_step_right dc__law_step_right pm__law_step_right an__law_step_right cd__law_step_right ct__law_step_right), sl__law_step_right⟩)
    (c__law_step_right : PySem.W.codeIn K cd__law_step_right "_law_step_right" = true) (k__law_step_right : PySem.W.keepIn K (.ref f__law_step_right) = true)
    {f_all_stands : Addr} {od_all_stands an_all_stands : Option Addr} {sl_all_stands : Array (Option Value)} {oc_all_stands kV_all_stands dc_all_stands pm_all_stands cd_all_stands ct_all_stands : Value}
    (a_all_stands : PySem.W.nsIn K mainGlobals "all_stands" = some (some (.ref f_all_stands)))
    (l_all_stands : K.lookup f_all_stands = some ⟨oc_all_stands, od_all_stands, .func (PySem.W.fnOf "all_stands" "all_stands" (defArgs s_all_stands) (defBody s_all_stands) (defScope s_all_stands) .none kV_all_stands dc_all_stands pm_all_stands an_all_stands cd_all_stands ct_all_stands), sl_all_stands⟩)
    (c_all_stands : PySem.W.codeIn K cd_all_stands "all_stands" = true) (k_all_stands : PySem.W.keepIn K (.ref f_all_stands) = true)
    {f__law_right : Addr} {od__law_right an__law_right : Option Addr} {sl__law_right : Array (Option Value)} {oc__law_right kV__law_right dc__law_right pm__law_right cd__law_right ct__law_right : Value}
    (a__law_right : PySem.W.nsIn K mainGlobals "_law_right" = some (some (.ref f__law_right)))
    (l__law_right : K.lookup f__law_right = some ⟨oc__law_right, od__law_right, .func (PySem.W.fnOf "_law_right" "_law_right" (defArgs s__law_right) (defBody s__law_right) (defScope s__law_right) .none kV__law_right dc__law_right pm__law_right an__law_right cd__law_right ct__law_right), sl__law_right⟩)
    (c__law_right : PySem.W.codeIn K cd__law_right "_law_right" = true) (k__law_right : PySem.W.keepIn K (.ref f__law_right) = true)
    {f__law_some_rule : Addr} {od__law_some_rule an__law_some_rule : Option Addr} {sl__law_some_rule : Array (Option Value)} {oc__law_some_rule kV__law_some_rule dc__law_some_rule pm__law_some_rule cd__law_some_rule ct__law_some_rule : Value}
    (a__law_some_rule : PySem.W.nsIn K mainGlobals "_law_some_rule" = some (some (.ref f__law_some_rule)))
    (l__law_some_rule : K.lookup f__law_some_rule = some ⟨oc__law_some_rule, od__law_some_rule, .func (PySem.W.fnOf "_law_some_rule" "_law_some_rule" (defArgs s__law_some_rule) (defBody s__law_some_rule) (defScope s__law_some_rule) .none kV__law_some_rule dc__law_some_rule pm__law_some_rule an__law_some_rule cd__law_some_rule ct__law_some_rule), sl__law_some_rule⟩)
    (c__law_some_rule : PySem.W.codeIn K cd__law_some_rule "_law_some_rule" = true) (k__law_some_rule : PySem.W.keepIn K (.ref f__law_some_rule) = true)
    {f_law : Addr} {od_law an_law : Option Addr} {sl_law : Array (Option Value)} {oc_law kV_law dc_law pm_law cd_law ct_law : Value}
    (a_law : PySem.W.nsIn K mainGlobals "law" = some (some (.ref f_law)))
    (l_law : K.lookup f_law = some ⟨oc_law, od_law, .func (PySem.W.fnOf "law" "law" (defArgs s_law) (defBody s_law) (defScope s_law) .none kV_law dc_law pm_law an_law cd_law ct_law), sl_law⟩)
    (c_law : PySem.W.codeIn K cd_law "law" = true) (k_law : PySem.W.keepIn K (.ref f_law) = true)
    {t_LEAST_BASE : Tok} (g_LEAST_BASE : PySem.W.nsIn K mainGlobals "LEAST_BASE" = some (some (.int 2 t_LEAST_BASE)))
    {t_MOST_BASE : Tok} (g_MOST_BASE : PySem.W.nsIn K mainGlobals "MOST_BASE" = some (some (.int 16 t_MOST_BASE)))
    {t_MOST_FIGURES : Tok} (g_MOST_FIGURES : PySem.W.nsIn K mainGlobals "MOST_FIGURES" = some (some (.int 4 t_MOST_FIGURES)))
    {t_MOST_STRETCHES : Tok} (g_MOST_STRETCHES : PySem.W.nsIn K mainGlobals "MOST_STRETCHES" = some (some (.int 4 t_MOST_STRETCHES)))
    (z_bool : PySem.W.nsIn K mainGlobals "bool" = some none)
    (z_int : PySem.W.nsIn K mainGlobals "int" = some none)
    (z_isinstance : PySem.W.nsIn K mainGlobals "isinstance" = some none)
    (z_len : PySem.W.nsIn K mainGlobals "len" = some none)
    (z_list : PySem.W.nsIn K mainGlobals "list" = some none)
    (z_max : PySem.W.nsIn K mainGlobals "max" = some none)
    (z_min : PySem.W.nsIn K mainGlobals "min" = some none)
    (z_range : PySem.W.nsIn K mainGlobals "range" = some none)
    (z_sorted : PySem.W.nsIn K mainGlobals "sorted" = some none)
    (z_tuple : PySem.W.nsIn K mainGlobals "tuple" = some none) :
    ∃ fd : FuncData, (∀ (s : Shared) (v : Value), BindsTo s fd ⟨[v], []⟩ [("script", v)]) ∧ ∀ base : Heap, K.In base → base.Ns mainGlobals mg → FnOk l.prog w K mg base CX0 10 fa fd ["script"] (sp_law K) := by
  have e := hfa.symm.trans (PySem.W.mg_of X G a_law)
  cases e
  let T : Txt K mg := {
    f__law_deck := ⟨_, _, fun_mk l__law_deck c__law_deck k__law_deck, PySem.W.mg_of X G a__law_deck, (fun_mk (st := s__law_deck) l__law_deck c__law_deck k__law_deck).binds (ps := ["script"]) (fun _ _ _ _ _ _ us hl => match us, hl with | [_], _ => rfl)⟩,
    f__law_draw := ⟨_, _, fun_mk l__law_draw c__law_draw k__law_draw, PySem.W.mg_of X G a__law_draw, (fun_mk (st := s__law_draw) l__law_draw c__law_draw k__law_draw).binds (ps := ["deck", "many"]) (fun _ _ _ _ _ _ us hl => match us, hl with | [_, _], _ => rfl)⟩,
    f__law_lacks := ⟨_, _, fun_mk l__law_lacks c__law_lacks k__law_lacks, PySem.W.mg_of X G a__law_lacks, (fun_mk (st := s__law_lacks) l__law_lacks c__law_lacks k__law_lacks).binds (ps := ["bad", "figures"]) (fun _ _ _ _ _ _ us hl => match us, hl with | [_, _], _ => rfl)⟩,
    f__law_due := ⟨_, _, fun_mk l__law_due c__law_due k__law_due, PySem.W.mg_of X G a__law_due, (fun_mk (st := s__law_due) l__law_due c__law_due k__law_due).binds (ps := ["bad"]) (fun _ _ _ _ _ _ us hl => match us, hl with | [_], _ => rfl)⟩,
    f__law_own := ⟨_, _, fun_mk l__law_own c__law_own k__law_own, PySem.W.mg_of X G a__law_own, (fun_mk (st := s__law_own) l__law_own c__law_own k__law_own).binds (ps := ["rule"]) (fun _ _ _ _ _ _ us hl => match us, hl with | [_], _ => rfl)⟩,
    f__law_tail := ⟨_, _, fun_mk l__law_tail c__law_tail k__law_tail, PySem.W.mg_of X G a__law_tail, (fun_mk (st := s__law_tail) l__law_tail c__law_tail k__law_tail).binds (ps := ["bad", "figures"]) (fun _ _ _ _ _ _ us hl => match us, hl with | [_, _], _ => rfl)⟩,
    f_is_whole := ⟨_, _, fun_mk l_is_whole c_is_whole k_is_whole, PySem.W.mg_of X G a_is_whole, (fun_mk (st := s_is_whole) l_is_whole c_is_whole k_is_whole).binds (ps := ["thing"]) (fun _ _ _ _ _ _ us hl => match us, hl with | [_], _ => rfl)⟩,
    f_is_figure := ⟨_, _, fun_mk l_is_figure c_is_figure k_is_figure, PySem.W.mg_of X G a_is_figure, (fun_mk (st := s_is_figure) l_is_figure c_is_figure k_is_figure).binds (ps := ["base", "thing"]) (fun _ _ _ _ _ _ us hl => match us, hl with | [_, _], _ => rfl)⟩,
    f_are_figures := ⟨_, _, fun_mk l_are_figures c_are_figures k_are_figures, PySem.W.mg_of X G a_are_figures, (fun_mk (st := s_are_figures) l_are_figures c_are_figures k_are_figures).binds (ps := ["base", "thing"]) (fun _ _ _ _ _ _ us hl => match us, hl with | [_, _], _ => rfl)⟩,
    f_is_base := ⟨_, _, fun_mk l_is_base c_is_base k_is_base, PySem.W.mg_of X G a_is_base, (fun_mk (st := s_is_base) l_is_base c_is_base k_is_base).binds (ps := ["thing"]) (fun _ _ _ _ _ _ us hl => match us, hl with | [_], _ => rfl)⟩,
    f_is_stretch := ⟨_, _, fun_mk l_is_stretch c_is_stretch k_is_stretch, PySem.W.mg_of X G a_is_stretch, (fun_mk (st := s_is_stretch) l_is_stretch c_is_stretch k_is_stretch).binds (ps := ["base", "thing"]) (fun _ _ _ _ _ _ us hl => match us, hl with | [_, _], _ => rfl)⟩,
    f_is_rule := ⟨_, _, fun_mk l_is_rule c_is_rule k_is_rule, PySem.W.mg_of X G a_is_rule, (fun_mk (st := s_is_rule) l_is_rule c_is_rule k_is_rule).binds (ps := ["thing"]) (fun _ _ _ _ _ _ us hl => match us, hl with | [_], _ => rfl)⟩,
    f_need_rule := ⟨_, _, fun_mk l_need_rule c_need_rule k_need_rule, PySem.W.mg_of X G a_need_rule, (fun_mk (st := s_need_rule) l_need_rule c_need_rule k_need_rule).binds (ps := ["thing"]) (fun _ _ _ _ _ _ us hl => match us, hl with | [_], _ => rfl)⟩,
    f_ends_of := ⟨_, _, fun_mk l_ends_of c_ends_of k_ends_of, PySem.W.mg_of X G a_ends_of, (fun_mk (st := s_ends_of) l_ends_of c_ends_of k_ends_of).binds (ps := ["rule", "figures"]) (fun _ _ _ _ _ _ us hl => match us, hl with | [_, _], _ => rfl)⟩,
    f_stands_in := ⟨_, _, fun_mk l_stands_in c_stands_in k_stands_in, PySem.W.mg_of X G a_stands_in, (fun_mk (st := s_stands_in) l_stands_in c_stands_in k_stands_in).binds (ps := ["stretch", "figures"]) (fun _ _ _ _ _ _ us hl => match us, hl with | [_, _], _ => rfl)⟩,
    f_lacks_all := ⟨_, _, fun_mk l_lacks_all c_lacks_all k_lacks_all, PySem.W.mg_of X G a_lacks_all, (fun_mk (st := s_lacks_all) l_lacks_all c_lacks_all k_lacks_all).binds (ps := ["rule", "figures"]) (fun _ _ _ _ _ _ us hl => match us, hl with | [_, _], _ => rfl)⟩,
    f_stand_of := ⟨_, _, fun_mk l_stand_of c_stand_of k_stand_of, PySem.W.mg_of X G a_stand_of, (fun_mk (st := s_stand_of) l_stand_of c_stand_of k_stand_of).binds (ps := ["rule", "figures"]) (fun _ _ _ _ _ _ us hl => match us, hl with | [_, _], _ => rfl)⟩,
    f_stands_of := ⟨_, _, fun_mk l_stands_of c_stands_of k_stands_of, PySem.W.mg_of X G a_stands_of, (fun_mk (st := s_stands_of) l_stands_of c_stands_of k_stands_of).binds (ps := ["rule"]) (fun _ _ _ _ _ _ us hl => match us, hl with | [_], _ => rfl)⟩,
    f_step_from := ⟨_, _, fun_mk l_step_from c_step_from k_step_from, PySem.W.mg_of X G a_step_from, (fun_mk (st := s_step_from) l_step_from c_step_from k_step_from).binds (ps := ["rule", "stand", "figure"]) (fun _ _ _ _ _ _ us hl => match us, hl with | [_, _, _], _ => rfl)⟩,
    f__law_step_right := ⟨_, _, fun_mk l__law_step_right c__law_step_right k__law_step_right, PySem.W.mg_of X G a__law_step_right, (fun_mk (st := s__law_step_right) l__law_step_right c__law_step_right k__law_step_right).binds (ps := ["rule", "handed", "stand", "figure", "held"]) (fun _ _ _ _ _ _ us hl => match us, hl with | [_, _, _, _, _], _ => rfl)⟩,
    f_all_stands := ⟨_, _, fun_mk l_all_stands c_all_stands k_all_stands, PySem.W.mg_of X G a_all_stands, (fun_mk (st := s_all_stands) l_all_stands c_all_stands k_all_stands).binds (ps := ["rule"]) (fun _ _ _ _ _ _ us hl => match us, hl with | [_], _ => rfl)⟩,
    f__law_right := ⟨_, _, fun_mk l__law_right c__law_right k__law_right, PySem.W.mg_of X G a__law_right, (fun_mk (st := s__law_right) l__law_right c__law_right k__law_right).binds (ps := ["deck", "rule", "held"]) (fun _ _ _ _ _ _ us hl => match us, hl with | [_, _, _], _ => rfl)⟩,
    f__law_some_rule := ⟨_, _, fun_mk l__law_some_rule c__law_some_rule k__law_some_rule, PySem.W.mg_of X G a__law_some_rule, (fun_mk (st := s__law_some_rule) l__law_some_rule c__law_some_rule k__law_some_rule).binds (ps := ["deck"]) (fun _ _ _ _ _ _ us hl => match us, hl with | [_], _ => rfl)⟩,
    f_law := ⟨_, _, fun_mk l_law c_law k_law, PySem.W.mg_of X G a_law, (fun_mk (st := s_law) l_law c_law k_law).binds (ps := ["script"]) (fun _ _ _ _ _ _ us hl => match us, hl with | [_], _ => rfl)⟩,
    c_LEAST_BASE := ⟨t_LEAST_BASE, PySem.W.mg_of X G g_LEAST_BASE⟩,
    c_MOST_BASE := ⟨t_MOST_BASE, PySem.W.mg_of X G g_MOST_BASE⟩,
    c_MOST_FIGURES := ⟨t_MOST_FIGURES, PySem.W.mg_of X G g_MOST_FIGURES⟩,
    c_MOST_STRETCHES := ⟨t_MOST_STRETCHES, PySem.W.mg_of X G g_MOST_STRETCHES⟩,
    z_bool := PySem.W.mg_none_of X G z_bool,
    z_int := PySem.W.mg_none_of X G z_int,
    z_isinstance := PySem.W.mg_none_of X G z_isinstance,
    z_len := PySem.W.mg_none_of X G z_len,
    z_list := PySem.W.mg_none_of X G z_list,
    z_max := PySem.W.mg_none_of X G z_max,
    z_min := PySem.W.mg_none_of X G z_min,
    z_range := PySem.W.mg_none_of X G z_range,
    z_sorted := PySem.W.mg_none_of X G z_sorted,
    z_tuple := PySem.W.mg_none_of X G z_tuple }
  exact ⟨T.f_law.fd, fun s v => .of_eq rfl, fun base _ _ => ok_law T⟩
end My
open PySem PySem.W PyProof.Rows
set_option maxHeartbeats 0 in
theorem PySem.Challenge.cw_lackstretch_k08_all_stands_and_steps_holds : PySem.Challenge.rw_lackstretch_k08_all_stands_and_steps.Holds := by
  w_on; o_law; k_head; (case hw => w_witness2)
  k_fill
  refine L2.walk_of (l := PySem.Challenge.rw_lackstretch_k08_all_stands_and_steps) (n := 63) (k := 10) (x := "script") (CX := fun _ => L2.CX0) (sp := fun w => My.sp_law _) rfl (by decide) rfl ⟨rfl, by decide, by decide⟩ (fun w h Y => PySem.W.kIn_of Y) ?F (fun _ _ a ns hl _ hS => ⟨a, ns, rfl, hS, My.law_true ns, fun _ => rfl⟩) (fun _ _ _ _ _ h => h)
  case F =>
    intro w mg fa h KX G hmg
    refine' My.all_mk KX G hmg ?a__law_deck ?l__law_deck ?c__law_deck ?k__law_deck ?a__law_draw ?l__law_draw ?c__law_draw ?k__law_draw ?a__law_lacks ?l__law_lacks ?c__law_lacks ?k__law_lacks ?a__law_due ?l__law_due ?c__law_due ?k__law_due ?a__law_own ?l__law_own ?c__law_own ?k__law_own ?a__law_tail ?l__law_tail ?c__law_tail ?k__law_tail ?a_is_whole ?l_is_whole ?c_is_whole ?k_is_whole ?a_is_figure ?l_is_figure ?c_is_figure ?k_is_figure ?a_are_figures ?l_are_figures ?c_are_figures ?k_are_figures ?a_is_base ?l_is_base ?c_is_base ?k_is_base ?a_is_stretch ?l_is_stretch ?c_is_stretch ?k_is_stretch ?a_is_rule ?l_is_rule ?c_is_rule ?k_is_rule ?a_need_rule ?l_need_rule ?c_need_rule ?k_need_rule ?a_ends_of ?l_ends_of ?c_ends_of ?k_ends_of ?a_stands_in ?l_stands_in ?c_stands_in ?k_stands_in ?a_lacks_all ?l_lacks_all ?c_lacks_all ?k_lacks_all ?a_stand_of ?l_stand_of ?c_stand_of ?k_stand_of ?a_stands_of ?l_stands_of ?c_stands_of ?k_stands_of ?a_step_from ?l_step_from ?c_step_from ?k_step_from ?a__law_step_right ?l__law_step_right ?c__law_step_right ?k__law_step_right ?a_all_stands ?l_all_stands ?c_all_stands ?k_all_stands ?a__law_right ?l__law_right ?c__law_right ?k__law_right ?a__law_some_rule ?l__law_some_rule ?c__law_some_rule ?k__law_some_rule ?a_law ?l_law ?c_law ?k_law ?g_LEAST_BASE ?g_MOST_BASE ?g_MOST_FIGURES ?g_MOST_STRETCHES ?z_bool ?z_int ?z_isinstance ?z_len ?z_list ?z_max ?z_min ?z_range ?z_sorted ?z_tuple
    (case a__law_deck => k_is); (case l__law_deck => k_is); (case c__law_deck => k_is); (case k__law_deck => k_is); (case a__law_draw => k_is); (case l__law_draw => k_is); (case c__law_draw => k_is); (case k__law_draw => k_is); (case a__law_lacks => k_is); (case l__law_lacks => k_is); (case c__law_lacks => k_is); (case k__law_lacks => k_is); (case a__law_due => k_is); (case l__law_due => k_is); (case c__law_due => k_is); (case k__law_due => k_is); (case a__law_own => k_is); (case l__law_own => k_is); (case c__law_own => k_is); (case k__law_own => k_is); (case a__law_tail => k_is); (case l__law_tail => k_is); (case c__law_tail => k_is); (case k__law_tail => k_is); (case a_is_whole => k_is); (case l_is_whole => k_is); (case c_is_whole => k_is); (case k_is_whole => k_is); (case a_is_figure => k_is); (case l_is_figure => k_is); (case c_is_figure => k_is); (case k_is_figure => k_is); (case a_are_figures => k_is); (case l_are_figures => k_is); (case c_are_figures => k_is); (case k_are_figures => k_is); (case a_is_base => k_is); (case l_is_base => k_is); (case c_is_base => k_is); (case k_is_base => k_is); (case a_is_stretch => k_is); (case l_is_stretch => k_is); (case c_is_stretch => k_is); (case k_is_stretch => k_is); (case a_is_rule => k_is); (case l_is_rule => k_is); (case c_is_rule => k_is); (case k_is_rule => k_is); (case a_need_rule => k_is); (case l_need_rule => k_is); (case c_need_rule => k_is); (case k_need_rule => k_is); (case a_ends_of => k_is); (case l_ends_of => k_is); (case c_ends_of => k_is); (case k_ends_of => k_is); (case a_stands_in => k_is); (case l_stands_in => k_is); (case c_stands_in => k_is); (case k_stands_in => k_is); (case a_lacks_all => k_is); (case l_lacks_all => k_is); (case c_lacks_all => k_is); (case k_lacks_all => k_is); (case a_stand_of => k_is); (case l_stand_of => k_is); (case c_stand_of => k_is); (case k_stand_of => k_is); (case a_stands_of => k_is); (case l_stands_of => k_is); (case c_stands_of => k_is); (case k_stands_of => k_is); (case a_step_from => k_is); (case l_step_from => k_is); (case c_step_from => k_is); (case k_step_from => k_is); (case a__law_step_right => k_is); (case l__law_step_right => k_is); (case c__law_step_right => k_is); (case k__law_step_right => k_is); (case a_all_stands => k_is); (case l_all_stands => k_is); (case c_all_stands => k_is); (case k_all_stands => k_is); (case a__law_right => k_is); (case l__law_right => k_is); (case c__law_right => k_is); (case k__law_right => k_is); (case a__law_some_rule => k_is); (case l__law_some_rule => k_is); (case c__law_some_rule => k_is); (case k__law_some_rule => k_is); (case a_law => k_is); (case l_law => k_is); (case c_law => k_is); (case k_law => k_is); (case g_LEAST_BASE => k_is); (case g_MOST_BASE => k_is); (case g_MOST_FIGURES => k_is); (case g_MOST_STRETCHES => k_is); (case z_bool => k_is); (case z_int => k_is); (case z_isinstance => k_is); (case z_len => k_is); (case z_list => k_is); (case z_max => k_is); (case z_min => k_is); (case z_range => k_is); (case z_sorted => k_is); (case z_tuple => k_is)
