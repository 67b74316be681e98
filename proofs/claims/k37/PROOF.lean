import PyProof.Rows.All
import Wide.All
import OpenK.AllK
import Wide.FinOn
import HandS.ForMost
import HandS.Wide
import HandS.WideMore
import HandS.Style
import HandS.Evl
import HandS.Deep
import HandS.SortOrd
import HandS.IsInst
import HandS.TupLe
import HandS.TupAny
import HandS.Conv
import HandS.More
import KE.SortData
import KE.DataCmp
import HandS.Text
import HandS.Dict
import HandS.Iter
import PyProof.ReprRoads
import HandS.Exc
import HandS.ExcOwn
import HandS.ExcIs
import HandS.ExcValue
import HandS.WordsExc
import HandS.Walk
import HandS.Replace
import PySem.Challenge.RW_lackstretch_k37_rules_and_numbers_writte
set_option Elab.async false
set_option linter.all false
set_option maxRecDepth 100000
set_option maxHeartbeats 4000000
/-! ### my base: typed data in the heap -/
namespace My
open PySem PySem.Spec PyProof.Rows L2

/-! #### data that stands in a frozen heap -/
mutual
inductive RD (F : Hp) : V → PyData → Prop
  | non : RD F .non .none
  | bl (b : Bool) : RD F (.bl b) (.bool b)
  | int (i : Int) : RD F (.int i) (.int i)
  | str (x : Str) : RD F (.str x) (.str x)
  | lst {a : Addr} {us : List V} {ds : List PyData} : F a = some (.lst us) → RDs F us ds → RD F (.ref a) (.list ds)
  | tup {a : Addr} {us : List V} {ds : List PyData} : F a = some (.tup us) → RDs F us ds → RD F (.ref a) (.tuple ds)
  | dic {a : Addr} {kvs : List (Key × V)} {ds : List (PyData × PyData)} : F a = some (.dK kvs) → RKs F kvs ds → RD F (.ref a) (.dict ds)
inductive RDs (F : Hp) : List V → List PyData → Prop
  | nil : RDs F [] []
  | cons {v : V} {us : List V} {d : PyData} {ds : List PyData} : RD F v d → RDs F us ds → RDs F (v :: us) (d :: ds)
inductive RKs (F : Hp) : List (Key × V) → List (PyData × PyData) → Prop
  | nil : RKs F [] []
  | int {i : Int} {v : V} {d : PyData} {kvs : List (Key × V)} {ds : List (PyData × PyData)} : RD F v d → RKs F kvs ds → RKs F ((.inl i, v) :: kvs) ((.int i, d) :: ds)
  | str {x : Str} {v : V} {d : PyData} {kvs : List (Key × V)} {ds : List (PyData × PyData)} : RD F v d → RKs F kvs ds → RKs F ((.inr x, v) :: kvs) ((.str x, d) :: ds)
end

def Sub (F H : Hp) : Prop := ∀ a o, F a = some o → H a = some o
theorem Sub.refl (H : Hp) : Sub H H := fun _ _ h => h
theorem Sub.trans {H H1 H2 : Hp} (a : Sub H H1) (b : Sub H1 H2) : Sub H H2 := fun x o h => b x o (a x o h)
theorem Sub.new {H : Hp} {p : Addr} {o : HO} (h : H p = none) : Sub H (upd H p o) := fun a u e => by
  rw [upd_ne (ne_of_none e h)]; exact e
theorem Sub.upd {F H : Hp} {p : Addr} {o : HO} (s : Sub F H) : Sub (upd F p o) (upd H p o) := fun a u e => by
  by_cases h : a = p
  · subst h; rw [upd_same] at e ⊢; exact e
  · rw [upd_ne h] at e ⊢; exact s a u e
theorem Sub.mut {F H : Hp} {p : Addr} {o : HO} (s : Sub F H) (h : F p = none) : Sub F (L2.upd H p o) := fun a u e => by
  rw [upd_ne (ne_of_none e h)]; exact s a u e
theorem Sub.none {F H : Hp} {p : Addr} (s : Sub F H) (h : H p = none) : F p = none := by
  cases e : F p with
  | none => rfl
  | some o => rw [s p o e] at h; cases h

mutual
theorem RD.mono {F N : Hp} (s : Sub F N) : ∀ {d : PyData} {v : V}, RD F v d → RD N v d
  | _, _, .non => .non
  | _, _, .bl b => .bl b
  | _, _, .int i => .int i
  | _, _, .str x => .str x
  | _, _, .lst h r => .lst (s _ _ h) (RDs.mono s r)
  | _, _, .tup h r => .tup (s _ _ h) (RDs.mono s r)
  | _, _, .dic h r => .dic (s _ _ h) (RKs.mono s r)
theorem RDs.mono {F N : Hp} (s : Sub F N) : ∀ {ds : List PyData} {us : List V}, RDs F us ds → RDs N us ds
  | _, _, .nil => .nil
  | _, _, .cons h r => .cons (RD.mono s h) (RDs.mono s r)
theorem RKs.mono {F N : Hp} (s : Sub F N) : ∀ {ds : List (PyData × PyData)} {us : List (Key × V)}, RKs F us ds → RKs N us ds
  | _, _, .nil => .nil
  | _, _, .int h r => .int (RD.mono s h) (RKs.mono s r)
  | _, _, .str h r => .str (RD.mono s h) (RKs.mono s r)
end
mutual
theorem RD.dpL {F H : Hp} {K : PySem.W.Frag} (s : Sub F H) : ∀ {d : PyData} {v : V}, d.canLay0 = true → RD F v d → Dp K H v d
  | _, _, _, .non => .non
  | _, _, _, .bl b => .bl b
  | _, _, _, .int i => .int i
  | _, _, _, .str x => .str x
  | _, _, l, .lst h r => .lst (.inl (.inl (s _ _ h))) (RDs.dpL s (by simpa [PyData.canLay0] using l) r)
  | _, _, l, .tup h r => .tup (.inl (.inl (s _ _ h))) (RDs.dpL s (by simpa [PyData.canLay0] using l) r)
  | _, _, l, .dic h r => by simp [PyData.canLay0] at l
theorem RDs.dpL {F H : Hp} {K : PySem.W.Frag} (s : Sub F H) : ∀ {ds : List PyData} {us : List V}, PyData.canLayAll0 ds = true → RDs F us ds → DpAll K H us ds
  | _, _, _, .nil => .nil
  | _, _, l, .cons h r => by
    simp only [PyData.canLayAll0, Bool.and_eq_true] at l
    exact .cons (RD.dpL s l.1 h) (RDs.dpL s l.2 r)
end
theorem RDs.len {F : Hp} : ∀ {us : List V} {ds : List PyData}, RDs F us ds → us.length = ds.length
  | _, _, .nil => rfl
  | _, _, .cons _ r => by simp [RDs.len r]
theorem RDs.append {F : Hp} : ∀ {us ws : List V} {ds es : List PyData}, RDs F us ds → RDs F ws es → RDs F (us ++ ws) (ds ++ es)
  | _, _, _, _, .nil, s => s
  | _, _, _, _, .cons h r, s => .cons h (RDs.append r s)
theorem RDs.get {F : Hp} : ∀ {us : List V} {ds : List PyData} {i : Nat} {d : PyData}, RDs F us ds → ds[i]? = some d → ∃ u, us[i]? = some u ∧ RD F u d
  | _, _, _, _, .nil, e => by simp at e
  | _, _, 0, _, .cons h _, e => by simp at e; subst e; exact ⟨_, rfl, h⟩
  | _, _, i + 1, _, .cons _ r, e => by
    obtain ⟨u, h1, h2⟩ := RDs.get (i := i) r (by simpa using e)
    exact ⟨u, by simpa using h1, h2⟩
theorem RDs.get' {F : Hp} {us : List V} {ds : List PyData} {i : Nat} {u : V} (r : RDs F us ds) (e : us[i]? = some u) : ∃ d, ds[i]? = some d ∧ RD F u d := by
  have hl := r.len
  have h1 : i < us.length := (List.getElem?_eq_some_iff.mp e).1
  obtain ⟨u', e', h⟩ := r.get (i := i) (d := ds[i]'(by omega)) (List.getElem?_eq_getElem (by omega))
  rw [e] at e'; cases e'
  exact ⟨_, List.getElem?_eq_getElem (by omega), h⟩
theorem RDs.take {F : Hp} : ∀ {us : List V} {ds : List PyData} (n : Nat), RDs F us ds → RDs F (us.take n) (ds.take n)
  | _, _, 0, _ => by simp; exact .nil
  | _, _, _ + 1, .nil => .nil
  | _, _, n + 1, .cons h r => .cons h (RDs.take n r)
theorem RDs.drop {F : Hp} : ∀ {us : List V} {ds : List PyData} (n : Nat), RDs F us ds → RDs F (us.drop n) (ds.drop n)
  | _, _, 0, r => r
  | _, _, _ + 1, .nil => .nil
  | _, _, n + 1, .cons _ r => RDs.drop n r
theorem RDs.reverse {F : Hp} {us : List V} {ds : List PyData} (r : RDs F us ds) : RDs F us.reverse ds.reverse := by
  induction us generalizing ds with
  | nil => cases r; exact .nil
  | cons u us ih =>
    cases r with
    | cons h r => rw [List.reverse_cons, List.reverse_cons]; exact (ih r).append (.cons h .nil)
theorem RDs.set {F : Hp} : ∀ {us : List V} {ds : List PyData} {u : V} {d : PyData} (n : Nat), RDs F us ds → RD F u d → RDs F (us.set n u) (ds.set n d)
  | _, _, _, _, _, .nil, _ => .nil
  | _, _, _, _, 0, .cons _ r, h => .cons h r
  | _, _, _, _, n + 1, .cons h' r, h => .cons h' (RDs.set n r h)
theorem RDs.eraseIdx {F : Hp} : ∀ {us : List V} {ds : List PyData} (n : Nat), RDs F us ds → RDs F (us.eraseIdx n) (ds.eraseIdx n)
  | _, _, _, .nil => by simp; exact .nil
  | _, _, 0, .cons _ r => r
  | _, _, n + 1, .cons h r => .cons h (RDs.eraseIdx n r)

/-! #### typed data -/
class TD (α : Type) where
  d : α → PyData
/-- .. of a bounded depth, without dicts -/
class TB (α : Type) [TD α] where
  dep : Nat
  lay : ∀ x : α, (TD.d x).canLay0 = true
  dle : ∀ x : α, (TD.d x).depth ≤ dep
instance : TD Int := ⟨.int⟩
instance : TD Bool := ⟨.bool⟩
instance : TD Unit := ⟨fun _ => .none⟩
instance : TD Str := ⟨.str⟩
instance : TD PyData := ⟨fun x => x⟩
instance {α : Type} [TD α] : TD (List α) := ⟨fun xs => .list (xs.map TD.d)⟩
instance {α β : Type} [TD α] [TD β] : TD (α × β) := ⟨fun p => .tuple [TD.d p.1, TD.d p.2]⟩
instance {α : Type} [TD α] : TD (Option α) := ⟨fun o => match o with | some x => TD.d x | none => .none⟩
instance : TB Int := ⟨0, fun _ => by show PyData.canLay0 (.int _) = true; rfl, fun _ => by show PyData.depth (.int _) ≤ 0; exact Nat.zero_le _⟩
instance : TB Bool := ⟨0, fun _ => by show PyData.canLay0 (.bool _) = true; rfl, fun _ => by show PyData.depth (.bool _) ≤ 0; exact Nat.zero_le _⟩
instance : TB Unit := ⟨0, fun _ => by show PyData.canLay0 (.none) = true; rfl, fun _ => by show PyData.depth (.none) ≤ 0; exact Nat.zero_le _⟩
theorem layAll {α : Type} [TD α] [TB α] : ∀ xs : List α, PyData.canLayAll0 (xs.map TD.d) = true
  | [] => by simp [PyData.canLayAll0]
  | x :: xs => by simp [PyData.canLayAll0, TB.lay x, layAll xs]
theorem depAll {α : Type} [TD α] [TB α] : ∀ xs : List α, PyData.depthAll (xs.map TD.d) ≤ TB.dep α
  | [] => by simp [PyData.depthAll]
  | x :: xs => by
    have h1 := depAll xs
    have h2 := TB.dle x
    simp only [List.map_cons, PyData.depthAll]
    omega
instance {α : Type} [TD α] [TB α] : TB (List α) := ⟨TB.dep α + 1, fun xs => by show PyData.canLay0 (.list _) = true; simp only [PyData.canLay0]; exact layAll xs, fun xs => by
  have := depAll xs
  show PyData.depth (.list _) ≤ _
  simp only [PyData.depth]; omega⟩
instance {α β : Type} [TD α] [TB α] [TD β] [TB β] : TB (α × β) := ⟨TB.dep α + TB.dep β + 1, fun p => by show PyData.canLay0 (.tuple [_, _]) = true; simp [PyData.canLay0, PyData.canLayAll0, TB.lay], fun p => by
  have h1 := TB.dle p.1
  have h2 := TB.dle p.2
  show PyData.depth (.tuple [_, _]) ≤ _
  simp only [PyData.depth, PyData.depthAll]; omega⟩
instance {α : Type} [TD α] [TB α] : TB (Option α) := ⟨TB.dep α, fun o => by cases o; exact rfl; exact TB.lay (α := α) _, fun o => by cases o; exact Nat.zero_le _; exact TB.dle (α := α) _⟩
abbrev R {α : Type} [TD α] (F : Hp) (v : V) (x : α) : Prop := RD F v (TD.d x)
abbrev Rs {α : Type} [TD α] (F : Hp) (us : List V) (xs : List α) : Prop := RDs F us (xs.map TD.d)


theorem TD.shaped {α : Type} [TD α] [TB α] (h : TB.dep α ≤ 60) (x : α) : SeqAt.shaped (TD.d x) = true := by
  have h1 := TB.dle x
  show ((TD.d x).canLay0 && decide ((TD.d x).depth ≤ 64)) = true
  rw [Bool.and_eq_true]
  exact ⟨TB.lay x, decide_eq_true (by omega)⟩
class TE' (α : Type) [TD α] where
  eqv : ∀ x y : α, PyData.eqv (TD.d x) (TD.d y) = true ↔ x = y
def eqT {α : Type} [TD α] (x y : α) : Bool := PyData.eqv (TD.d x) (TD.d y)
def memT {α : Type} [TD α] (x : α) (xs : List α) : Bool := xs.any fun y => eqT y x
theorem eqT_iff {α : Type} [TD α] [TE' α] {x y : α} : eqT x y = true ↔ x = y := TE'.eqv x y
theorem eqT_no {α : Type} [TD α] [TE' α] {x y : α} : eqT x y = false ↔ x ≠ y := by rw [← Bool.not_eq_true, eqT_iff]
theorem memT_iff {α : Type} [TD α] [TE' α] {x : α} {xs : List α} : memT x xs = true ↔ x ∈ xs := by
  unfold memT
  rw [List.any_eq_true]
  exact ⟨fun ⟨y, h1, h2⟩ => by rw [← eqT_iff.mp h2]; exact h1, fun h => ⟨x, h, eqT_iff.mpr rfl⟩⟩
theorem memT_no {α : Type} [TD α] [TE' α] {x : α} {xs : List α} : memT x xs = false ↔ x ∉ xs := by rw [← Bool.not_eq_true, memT_iff]
theorem eqvT {α : Type} [TD α] (x y : α) : PyData.eqv (TD.d x) (TD.d y) = eqT x y := rfl
instance : TE' Int := ⟨fun x y => by show (x == y) = true ↔ _; simp⟩
instance : TE' Bool := ⟨fun x y => by show (x == y) = true ↔ _; simp⟩
instance : TE' Str := ⟨fun x y => by show (x == y) = true ↔ _; simp⟩
instance : TE' Unit := ⟨fun x y => by simp [TD.d, PyData.eqv]⟩
theorem eqvAll_map {α : Type} [TD α] [TE' α] : ∀ xs ys : List α, PyData.eqvAll (xs.map TD.d) (ys.map TD.d) = true ↔ xs = ys
  | [], [] => by simp [PyData.eqvAll]
  | [], y :: ys => by simp [PyData.eqvAll]
  | x :: xs, [] => by simp [PyData.eqvAll]
  | x :: xs, y :: ys => by
    simp only [List.map_cons, PyData.eqvAll, Bool.and_eq_true, eqvAll_map xs ys, TE'.eqv, List.cons.injEq]
instance {α : Type} [TD α] [TE' α] : TE' (List α) := ⟨fun xs ys => by
  show PyData.eqv (.list _) (.list _) = true ↔ _
  simp only [PyData.eqv]; exact eqvAll_map xs ys⟩
instance {α β : Type} [TD α] [TE' α] [TD β] [TE' β] : TE' (α × β) := ⟨fun p q => by
  show PyData.eqv (.tuple [_, _]) (.tuple [_, _]) = true ↔ _
  obtain ⟨a, b⟩ := p; obtain ⟨c, e⟩ := q
  simp [PyData.eqv, PyData.eqvAll, TE'.eqv]⟩
/-- data that is never None -/
class NN (α : Type) [TD α] where
  nn : ∀ x : α, (PyData.eqv (TD.d x) .none = false ∧ PyData.eqv .none (TD.d x) = false) ∧ TD.d x ≠ .none
instance : NN Int := ⟨fun _ => ⟨⟨rfl, rfl⟩, fun h => nomatch h⟩⟩
instance : NN Str := ⟨fun _ => ⟨⟨rfl, rfl⟩, fun h => nomatch h⟩⟩
instance : NN Bool := ⟨fun _ => ⟨⟨rfl, rfl⟩, fun h => nomatch h⟩⟩
instance {α : Type} [TD α] : NN (List α) := ⟨fun _ => ⟨⟨rfl, rfl⟩, fun h => nomatch h⟩⟩
instance {α β : Type} [TD α] [TD β] : NN (α × β) := ⟨fun _ => ⟨⟨rfl, rfl⟩, fun h => nomatch h⟩⟩
instance {α : Type} [TD α] [TE' α] [NN α] : TE' (Option α) := ⟨fun p q => by
  cases p with
  | none => cases q with
    | none => show PyData.eqv .none .none = true ↔ _; simp [PyData.eqv]
    | some y => show PyData.eqv .none (TD.d y) = true ↔ _; rw [(NN.nn y).1.2]; simp
  | some x => cases q with
    | none => show PyData.eqv (TD.d x) .none = true ↔ _; rw [(NN.nn x).1.1]; simp
    | some y => show PyData.eqv (TD.d x) (TD.d y) = true ↔ _; rw [TE'.eqv]; simp⟩

/-! #### how heaps grow -/
abbrev NA : Addr → Prop := fun _ => False
structure Gr (A : Addr → Prop) (F H N H' : Hp) : Prop where
  keep : ∀ a o, ¬ A a → H a = some o → H' a = some o
  there : ∀ a, H a ≠ none → H' a ≠ none
  ex : Sub F N
  sub : Sub N H'
  own : ∀ a, H a ≠ none → F a = none → N a = none
section
variable {A : Addr → Prop} {F0 H0 F H N H' : Hp} {p : Addr} {o : HO} {us : List V}
theorem Gr.refl (s : Sub F H) : Gr A F H F H := ⟨fun _ _ _ h => h, fun _ h => h, Sub.refl F, s, fun _ _ h => h⟩
theorem Gr.trans (G : Gr A F0 H0 F H) (g : Gr A F H N H') : Gr A F0 H0 N H' :=
  ⟨fun a o na h => g.keep a o na (G.keep a o na h), fun a h => g.there a (G.there a h), G.ex.trans g.ex, g.sub, fun a h f => g.own a (G.there a h) (G.own a h f)⟩
theorem Gr.na (g : Gr NA F H N H') : Gr A F H N H' := ⟨fun a o _ h => g.keep a o id h, g.there, g.ex, g.sub, g.own⟩
theorem Gr.step (G : Gr A F0 H0 F H) (g : Gr NA F H N H') : Gr A F0 H0 N H' := G.trans g.na
theorem Gr.fresh (G : Gr A F0 H0 F H) (hp : H p = none) : H0 p = none := by
  cases e : H0 p with
  | none => rfl
  | some o => exact absurd hp (G.there p (by rw [e]; exact (fun z => nomatch z)))
theorem Gr.new (s : Sub F H) (hp : H p = none) : Gr NA F H (upd F p o) (upd H p o) :=
  ⟨fun a u _ h => Sub.new hp a u h, fun a h => by
    cases e : H a with
    | none => exact absurd e h
    | some u => rw [Sub.new hp a u e]; exact (fun z => nomatch z), Sub.new (s.none hp), s.upd, fun a h f => by
    have : a ≠ p := fun z => by subst z; exact h hp
    rw [upd_ne this]; exact f⟩
theorem Gr.newO (s : Sub F H) (hp : H p = none) : Gr NA F H F (upd H p o) :=
  ⟨fun a u _ h => Sub.new hp a u h, fun a h => by
    cases e : H a with
    | none => exact absurd e h
    | some u => rw [Sub.new hp a u e]; exact (fun z => nomatch z), Sub.refl F, s.trans (Sub.new hp), fun a h f => f⟩
theorem Gr.mut (G : Gr A F0 H0 F H) (h0 : H0 p = none) (f : F p = none) : Gr A F0 H0 F (upd H p o) :=
  ⟨fun a u na h => by rw [upd_ne (ne_of_none h h0)]; exact G.keep a u na h, fun a h => by
    by_cases e : a = p
    · subst e; rw [upd_same]; exact (fun z => nomatch z)
    · rw [upd_ne e]; exact G.there a h, G.ex, G.sub.mut f, G.own⟩
theorem Gr.frz (G : Gr A F0 H0 F H) (ho : H p = some o) (h0 : H0 p = none) (f : F p = none) : Gr A F0 H0 (upd F p o) H :=
  ⟨G.keep, G.there, G.ex.trans (Sub.new f), fun a u e => by
    by_cases z : a = p
    · subst z; rw [upd_same] at e; cases e; exact ho
    · rw [upd_ne z] at e; exact G.sub a u e, fun a h e => by
    have : a ≠ p := fun z => by subst z; exact h h0
    rw [upd_ne this]; exact G.own a h e⟩
/-- a flat answer: the frozen part may stay as it was -/
theorem Gr.flat {Fc : Hp} (g : Gr NA Fc H N H') (s : Sub F H) : Gr NA F H F H' := ⟨g.keep, g.there, Sub.refl F, fun a o e => g.keep a o id (s a o e), fun _ _ f => f⟩
/-- an owned list -/
theorem Gr.flatA {Fc : Hp} (g : Gr A Fc H N H') (s : Sub F H) (nf : ∀ a, A a → F a = none) : Gr A F H F H' := ⟨g.keep, g.there, Sub.refl F, fun a o e => g.keep a o (fun h => by rw [nf a h] at e; exact nomatch e) (s a o e), fun _ _ f => f⟩
structure Ow (H0 F H : Hp) (p : Addr) (us : List V) : Prop where
  at_ : H p = some (.lst us)
  nf : F p = none
  n0 : H0 p = none
theorem Ow.new (G : Gr A F0 H0 F H) (hp : H p = none) : Ow H0 F (upd H p (.lst us)) p us := ⟨upd_same, G.sub.none hp, G.fresh hp⟩
theorem Ow.step (w : Ow H0 F H p us) (g : Gr NA F H N H') : Ow H0 N H' p us := ⟨g.keep p _ id w.at_, g.own p (by rw [w.at_]; exact (fun z => nomatch z)) w.nf, w.n0⟩
theorem Ow.mut {ws : List V} (w : Ow H0 F H p us) : Ow H0 F (upd H p (.lst ws)) p ws := ⟨upd_same, w.nf, w.n0⟩
theorem Ow.other {q : Addr} {ws : List V} (w : Ow H0 F H p us) (h : q ≠ p) : Ow H0 F (upd H q (.lst ws)) p us := ⟨by rw [upd_ne h.symm]; exact w.at_, w.nf, w.n0⟩
theorem Ow.ne_new {q : Addr} (w : Ow H0 F H p us) (hq : H q = none) : p ≠ q := ne_of_none w.at_ hq
theorem Ow.mutG (w : Ow H0 F H p us) (G : Gr A F0 H0 F H) : Gr A F0 H0 F (upd H p o) := G.mut w.n0 w.nf
theorem Ow.frz (w : Ow H0 F H p us) (G : Gr A F0 H0 F H) : Gr A F0 H0 (upd F p (.lst us)) H := G.frz w.at_ w.n0 w.nf
theorem Ow.sub (w : Ow H0 F H p us) (s : Sub F H) : Sub (upd F p (.lst us)) H := fun a u e => by
    by_cases z : a = p
    · subst z; rw [upd_same] at e; cases e; exact w.at_
    · rw [upd_ne z] at e; exact s a u e
theorem Ow.ex (w : Ow H0 F H p us) : Sub F (upd F p (.lst us)) := Sub.new w.nf
end

/-! #### taking facts apart -/
section
variable {α β : Type} [TD α] [TD β] {F H : Hp} {v : V}
theorem int_of {x : Int} (h : R F v x) : v = .int x := by cases h; rfl
theorem bl_of {x : Bool} (h : R F v x) : v = .bl x := by cases h; rfl
theorem non_of {x : Unit} (h : R F v x) : v = .non := by cases h; rfl
theorem lst_of {xs : List α} (h : R F v xs) : ∃ a us, v = .ref a ∧ F a = some (.lst us) ∧ Rs F us xs := by
  cases h with | lst h r => exact ⟨_, _, rfl, h, r⟩
theorem lst_ref {a : Addr} {xs : List α} (h : R F (.ref a) xs) : ∃ us, F a = some (.lst us) ∧ Rs F us xs := by
  obtain ⟨b, us, e, fa, fr⟩ := lst_of h
  cases e
  exact ⟨us, fa, fr⟩
theorem tup2_of {p : α × β} (h : R F v p) : ∃ a v1 v2, v = .ref a ∧ F a = some (.tup [v1, v2]) ∧ R F v1 p.1 ∧ R F v2 p.2 := by
  cases h with | tup h r => cases r with | cons h1 r => cases r with | cons h2 r => cases r; exact ⟨_, _, _, rfl, h, h1, h2⟩
theorem mk_lst {a : Addr} {us : List V} {xs : List α} (h : F a = some (.lst us)) (r : Rs F us xs) : R F (.ref a) xs := .lst h r
theorem mk_tup2 {a : Addr} {v1 v2 : V} {p : α × β} (h : F a = some (.tup [v1, v2])) (h1 : R F v1 p.1) (h2 : R F v2 p.2) : R F (.ref a) p := .tup h (.cons h1 (.cons h2 .nil))
theorem Rs_len {us : List V} {xs : List α} (r : Rs F us xs) : us.length = xs.length := by rw [r.len, List.length_map]
theorem Rs_nil : Rs (α := α) F [] [] := .nil
theorem Rs_cons {u : V} {us : List V} {x : α} {xs : List α} (h : R F u x) (r : Rs F us xs) : Rs F (u :: us) (x :: xs) := .cons h r
theorem Rs_app {us ws : List V} {xs ys : List α} (r : Rs F us xs) (s : Rs F ws ys) : Rs F (us ++ ws) (xs ++ ys) := by
  unfold Rs; rw [List.map_append]; exact r.append s
theorem Rs_snoc {us : List V} {u : V} {xs : List α} {x : α} (r : Rs F us xs) (h : R F u x) : Rs F (us ++ [u]) (xs ++ [x]) := Rs_app r (.cons h .nil)
theorem Rs_rev {us : List V} {xs : List α} (r : Rs F us xs) : Rs F us.reverse xs.reverse := by
  unfold Rs; rw [List.map_reverse]; exact r.reverse
theorem Rs_mono {N : Hp} {us : List V} {xs : List α} (s : Sub F N) (r : Rs F us xs) : Rs N us xs := RDs.mono s r
theorem Rs_int {us : List V} {xs : List Int} (r : Rs F us xs) : us = xs.map V.int := by
  induction xs generalizing us with
  | nil => cases r; rfl
  | cons x xs ih => cases r with | cons h r => cases h; rw [List.map_cons, ih r]
theorem int_Rs : ∀ xs : List Int, Rs F (xs.map V.int) xs
  | [] => .nil
  | x :: xs => .cons (.int x) (int_Rs xs)
end
/-- xs[i], the item and its fact -/
def ixOk {α : Type} (xs : List α) (i : Int) (x : α) : Prop := atI xs i = some x
theorem Rs_at {α : Type} [TD α] {F : Hp} {us : List V} {xs : List α} (r : Rs F us xs) {i : Int} {x : α} (h : atI xs i = some x) : ∃ u, atI us i = some u ∧ R F u x := by
  unfold atI at h ⊢
  rw [Rs_len r]
  cases e : ixN xs.length i with
  | none => rw [e] at h; cases h
  | some k =>
    rw [e] at h
    have h' : xs[k]? = some x := h
    obtain ⟨u, h1, h2⟩ := RDs.get (i := k) (d := TD.d x) r (by rw [List.getElem?_map, h']; rfl)
    exact ⟨u, h1, h2⟩

/-! #### mirrors: loops -/
def forK {S α ρ : Type} (f : S → α → (S → Option ρ) → Option ρ) : List α → S → (S → Option ρ) → Option ρ
  | [], s, K => K s
  | x :: xs, s, K => f s x fun s' => forK f xs s' K
def whileK {S ρ : Type} (f : S → (S → Option ρ) → Option ρ) : Nat → S → Option ρ
  | 0, _ => none
  | m + 1, s => f s (whileK f m)
def fuel : Nat := 1000000
theorem forK_c {S α ρ : Type} {f : S → α → (S → Option ρ) → Option ρ} {x : α} {xs : List α} {s : S} {K : S → Option ρ} {r : ρ} (h : forK f (x :: xs) s K = some r) : f s x (fun s' => forK f xs s' K) = some r := h
theorem forK_n {S α ρ : Type} {f : S → α → (S → Option ρ) → Option ρ} {s : S} {K : S → Option ρ} {r : ρ} (h : forK f [] s K = some r) : K s = some r := h
theorem whileK_s {S ρ : Type} {f : S → (S → Option ρ) → Option ρ} {m : Nat} {s : S} {r : ρ} (h : whileK f (m + 1) s = some r) : f s (whileK f m) = some r := h
def irange (lo hi : Int) : List Int := (List.range (hi - lo).toNat).map fun i : Nat => lo + (i : Int)
section
variable {α ρ : Type} {c : Prop} [Decidable c] {a b : Option ρ} {r : ρ}
theorem itep (h : (if c then a else b) = some r) (hc : c) : a = some r := by rw [if_pos hc] at h; exact h
theorem iten (h : (if c then a else b) = some r) (hc : ¬ c) : b = some r := by rw [if_neg hc] at h; exact h
theorem guardp (h : (if c then a else none) = some r) : c ∧ a = some r := by
  by_cases hc : c
  · exact ⟨hc, itep h hc⟩
  · rw [if_neg hc] at h; cases h
theorem bindp {x : Option α} {f : α → Option ρ} (h : x.bind f = some r) : ∃ y, x = some y ∧ f y = some r := by
  cases x with
  | none => cases h
  | some y => exact ⟨y, rfl, h⟩
theorem ifD {c : Bool} {A B : Prop} (h1 : c = true → A) (h2 : c = false → B) : if c = true then A else B := by
  cases c with
  | true => rw [if_pos rfl]; exact h1 rfl
  | false => rw [if_neg Bool.false_ne_true]; exact h2 rfl
theorem dT {c : Prop} [Decidable c] (h : decide c = true) : c := of_decide_eq_true h
theorem dF {c : Prop} [Decidable c] (h : decide c = false) : ¬ c := of_decide_eq_false h
theorem ndT {c : Prop} [Decidable c] (h : (!decide c) = true) : ¬ c := of_decide_eq_false (by rw [Bool.not_eq_true'] at h; exact h)
theorem ndF {c : Prop} [Decidable c] (h : (!decide c) = false) : c := of_decide_eq_true (by rw [Bool.not_eq_false'] at h; exact h)
theorem bF {c : Bool} (h : c = false) : ¬ c = true := by rw [h]; exact Bool.false_ne_true
end

/-! #### loops read -/
section
variable {K : PySem.W.Frag} {g : TG} {tb : TS} {D : Ends} {σ : L2.St} {H : Hp} {α : Type} [TD α]
theorem while_m {c : TT} (W : Nat → L2.St → Hp → Prop) (m : Nat) (h0 : W m σ H) (hz : ∀ σ H, ¬ W 0 σ H)
    (hs : ∀ m σ H, W (m + 1) σ H → c σ H fun b H1 => if b = true then tb { D with nx := W m, ct := W m, bk := D.nx } σ H1 else D.nx σ H1) (mono : ∀ σ H Q Q', (∀ b H1, Q b H1 → Q' b H1) → c σ H Q → c σ H Q') : tWhile c tb D σ H := by
  refine ⟨W, ⟨m, h0⟩, fun m σ H h => ?_⟩
  cases m with
  | zero => exact absurd h (hz σ H)
  | succ m =>
    refine mono σ H _ _ (fun b H1 q => ?_) (hs m σ H h)
    cases b with
    | true => exact ⟨W m, fun σ' H' h => ⟨m, Nat.lt_succ_self m, h⟩, q⟩
    | false => exact q
theorem while_n {c : TT} (W : Nat → L2.St → Hp → Prop) (m : Nat) (h0 : W m σ H) (hz : ∀ σ H, ¬ W 0 σ H)
    (hs : ∀ m σ H, W (m + 1) σ H → c σ H fun b H1 => if b = true then ∃ N : L2.St → Hp → Prop, (∀ σ' H', N σ' H' → ∃ m', m' < m + 1 ∧ W m' σ' H') ∧ tb { D with nx := N, ct := N, bk := D.nx } σ H1 else D.nx σ H1) : tWhile c tb D σ H := by
  refine ⟨W, ⟨m, h0⟩, fun m σ H h => ?_⟩
  cases m with
  | zero => exact absurd h (hz σ H)
  | succ m => exact hs m σ H h
theorem drop_cons {α : Type} {xs : List α} {i : Nat} {x : α} (h : xs[i]? = some x) : xs.drop i = x :: xs.drop (i + 1) := by
  obtain ⟨h1, h2⟩ := List.getElem?_eq_some_iff.mp h
  rw [← h2]; exact List.drop_eq_getElem_cons h1
theorem for_lst {a : Addr} {us : List V} {xs : List α} {F : Hp} (W : List α → L2.St → Hp → Prop) (fr : Rs F us xs) (h0 : W xs σ H) (hf : ∀ ts σ H, W ts σ H → H a = some (.lst us))
    (hs : ∀ x ts v σ H, R F v x → W (x :: ts) σ H → g v σ H fun σ2 H2 => tb { D with nx := W ts, ct := W ts, bk := D.nx } σ2 H2) (hd : ∀ σ H, W [] σ H → D.nx σ H) :
    ∃ W : Nat → Nat → L2.St → Hp → Prop, (∃ m, W 0 m σ H) ∧ ∀ i m σ H, W i m σ H →
      ((Itl K a).stop i H ∧ D.nx σ H) ∨ ((Itl K a).go i H ∧ ∃ N : L2.St → Hp → Prop, (∀ σ' H', N σ' H' → ∃ m', m' < m ∧ W (i + 1) m' σ' H') ∧ ∀ x H', (Itl K a).yld i H x H' → g x σ H' fun σ2 H2 => tb { D with nx := N, ct := N, bk := D.nx } σ2 H2) := by
  have hl := Rs_len fr
  refine for_list (xs := us) (fun i σ H => W (xs.drop i) σ H) (by rw [List.drop_zero]; exact h0) (fun i σ H _ h => .inl (.inl (hf _ σ H h))) (fun i v σ H e h => ?_) fun σ H h => ?_
  · obtain ⟨d, e1, e2⟩ := fr.get' e
    have h1 : i < xs.length := by have := (List.getElem?_eq_some_iff.mp e).1; omega
    have e3 : xs[i]? = some xs[i] := List.getElem?_eq_getElem h1
    rw [List.getElem?_map, e3] at e1
    cases e1
    have h' : W (xs.drop i) σ H := h
    rw [drop_cons e3] at h'
    exact hs _ _ v σ H e2 h'
  · have h' : W (xs.drop us.length) σ H := h
    rw [hl, List.drop_length] at h'
    exact hd σ H h'
theorem irange_len (lo hi : Int) : (irange lo hi).length = (hi - lo).toNat := by unfold irange; simp
theorem irange_get {lo hi : Int} {i : Nat} (h : i < (hi - lo).toNat) : (irange lo hi)[i]? = some (lo + i) := by unfold irange; simp [h]
def irangeC (lo hi c : Int) : List Int := (List.range (Builtin.Range.rangeSize lo hi c).toNat).map fun i : Nat => lo + (i : Int) * c
theorem irangeC_len (lo hi c : Int) : (irangeC lo hi c).length = (Builtin.Range.rangeSize lo hi c).toNat := by unfold irangeC; simp
theorem irangeC_get {lo hi c : Int} {i : Nat} (h : i < (Builtin.Range.rangeSize lo hi c).toNat) : (irangeC lo hi c)[i]? = some (lo + (i : Int) * c) := by unfold irangeC; simp [h]
def RgD (i j c : Int) : Prop := c ≠ 0 ∧ c.natAbs < 1073741824 ∧ Builtin.Range.small i j c = true ∧ 0 ≤ Builtin.Range.rangeSize i j c
instance (i j c : Int) : Decidable (RgD i j c) := inferInstanceAs (Decidable (_ ∧ _))
theorem RgD.ok {i j c : Int} (h : RgD i j c) : RgC i j c (Builtin.Range.rangeSize i j c).toNat := ⟨h.1, h.2.1, h.2.2.1, (Int.toNat_of_nonneg h.2.2.2).symm⟩
theorem for_rngC {lo hi c : Int} (W : List Int → L2.St → Hp → Prop) (h0 : W (irangeC lo hi c) σ H)
    (hs : ∀ x ts σ H, W (x :: ts) σ H → g (.int x) σ H fun σ2 H2 => tb { D with nx := W ts, ct := W ts, bk := D.nx } σ2 H2) (hd : ∀ σ H, W [] σ H → D.nx σ H) :
    ∃ W : Nat → Nat → L2.St → Hp → Prop, (∃ m, W 0 m σ H) ∧ ∀ i m σ H, W i m σ H →
      ((Itc lo c (Builtin.Range.rangeSize lo hi c).toNat).stop i H ∧ D.nx σ H) ∨ ((Itc lo c (Builtin.Range.rangeSize lo hi c).toNat).go i H ∧ ∃ N : L2.St → Hp → Prop, (∀ σ' H', N σ' H' → ∃ m', m' < m ∧ W (i + 1) m' σ' H') ∧ ∀ x H', (Itc lo c (Builtin.Range.rangeSize lo hi c).toNat).yld i H x H' → g x σ H' fun σ2 H2 => tb { D with nx := N, ct := N, bk := D.nx } σ2 H2) := by
  refine for_rangeC (fun i σ H => W ((irangeC lo hi c).drop i) σ H) (by rw [List.drop_zero]; exact h0) (fun i σ H hi' h => ?_) fun σ H h => ?_
  · have h' : W ((irangeC lo hi c).drop i) σ H := h
    rw [drop_cons (irangeC_get hi')] at h'
    exact hs _ _ σ H h'
  · have h' : W ((irangeC lo hi c).drop (Builtin.Range.rangeSize lo hi c).toNat) σ H := h
    rw [← irangeC_len, List.drop_length] at h'
    exact hd σ H h'
theorem for_rng {lo hi : Int} {n : Nat} (hn : n = (hi - lo).toNat) (W : List Int → L2.St → Hp → Prop) (h0 : W (irange lo hi) σ H)
    (hs : ∀ x ts σ H, W (x :: ts) σ H → g (.int x) σ H fun σ2 H2 => tb { D with nx := W ts, ct := W ts, bk := D.nx } σ2 H2) (hd : ∀ σ H, W [] σ H → D.nx σ H) :
    ∃ W : Nat → Nat → L2.St → Hp → Prop, (∃ m, W 0 m σ H) ∧ ∀ i m σ H, W i m σ H →
      ((Itr lo n).stop i H ∧ D.nx σ H) ∨ ((Itr lo n).go i H ∧ ∃ N : L2.St → Hp → Prop, (∀ σ' H', N σ' H' → ∃ m', m' < m ∧ W (i + 1) m' σ' H') ∧ ∀ x H', (Itr lo n).yld i H x H' → g x σ H' fun σ2 H2 => tb { D with nx := N, ct := N, bk := D.nx } σ2 H2) := by
  subst hn
  refine for_range (fun i σ H => W ((irange lo hi).drop i) σ H) (by rw [List.drop_zero]; exact h0) (fun i σ H hi' h => ?_) fun σ H h => ?_
  · have h' : W ((irange lo hi).drop i) σ H := h
    rw [drop_cons (irange_get hi')] at h'
    exact hs _ _ σ H h'
  · have h' : W ((irange lo hi).drop (hi - lo).toNat) σ H := h
    rw [← irange_len, List.drop_length] at h'
    exact hd σ H h'
variable {tt : TT} {te : TE} {vs : List Nat} {H1 : Hp} {Dl : Addr} {Qd : Hp → Prop}
theorem lc_lst {a : Addr} {us : List V} {xs : List α} {F : Hp} (W : List α → Hp → Prop) (fr : Rs F us xs) (h0 : W xs (upd H1 Dl (.lst []))) (hf : ∀ ts H, W ts H → H a = some (.lst us))
    (hs : ∀ x ts v H, R F v x → W (x :: ts) H → g v (wipe σ vs) H fun σ2 H2 => wipe σ2 vs = wipe σ vs ∧ tt σ2 H2 fun b H3 =>
        if b = true then te σ2 H3 fun y H4 => ∃ acc, H4 Dl = some (HO.lst acc) ∧ acc.length < sizeLine ∧ W ts (upd H4 Dl (HO.lst (acc ++ [y]))) else W ts H3) (hd : ∀ H, W [] H → Qd H) :
    ∃ W : Nat → Nat → Hp → Prop, (∃ m, W 0 m (upd H1 Dl (HO.lst []))) ∧ ∀ (i m : Nat) (H : Hp), W i m H → (Itl K a).stop i H ∧ Qd H ∨
      (Itl K a).go i H ∧ ∃ Nx : Hp → Prop, (∀ (H' : Hp), Nx H' → ∃ m', m' < m ∧ W (i + 1) m' H') ∧ ∀ (x : V) (H' : Hp), (Itl K a).yld i H x H' →
        g x (wipe σ vs) H' fun σ2 H2 => wipe σ2 vs = wipe σ vs ∧ tt σ2 H2 fun b H3 => if b = true then te σ2 H3 fun y H4 => ∃ acc, H4 Dl = some (HO.lst acc) ∧ acc.length < sizeLine ∧ Nx (upd H4 Dl (HO.lst (acc ++ [y]))) else Nx H3 := by
  have hl := Rs_len fr
  refine lc_list (xs := us) (fun i H => W (xs.drop i) H) (by rw [List.drop_zero]; exact h0) (fun i H _ h => .inl (.inl (hf _ H h))) (fun i v H e h => ?_) fun H h => ?_
  · obtain ⟨d, e1, e2⟩ := fr.get' e
    have h1 : i < xs.length := by have := (List.getElem?_eq_some_iff.mp e).1; omega
    have e3 : xs[i]? = some xs[i] := List.getElem?_eq_getElem h1
    rw [List.getElem?_map, e3] at e1
    cases e1
    have h' : W (xs.drop i) H := h
    rw [drop_cons e3] at h'
    exact hs _ _ v H e2 h'
  · have h' : W (xs.drop us.length) H := h
    rw [hl, List.drop_length] at h'
    exact hd H h'
/-- with which value it is -/
theorem lc_lstM {a : Addr} {us : List V} {xs : List α} {F : Hp} (W : List α → Hp → Prop) (fr : Rs F us xs) (h0 : W xs (upd H1 Dl (.lst []))) (hf : ∀ ts H, W ts H → H a = some (.lst us))
    (hs : ∀ x ts v H, R F v x → v ∈ us → W (x :: ts) H → g v (wipe σ vs) H fun σ2 H2 => wipe σ2 vs = wipe σ vs ∧ tt σ2 H2 fun b H3 =>
        if b = true then te σ2 H3 fun y H4 => ∃ acc, H4 Dl = some (HO.lst acc) ∧ acc.length < sizeLine ∧ W ts (upd H4 Dl (HO.lst (acc ++ [y]))) else W ts H3) (hd : ∀ H, W [] H → Qd H) :
    ∃ W : Nat → Nat → Hp → Prop, (∃ m, W 0 m (upd H1 Dl (HO.lst []))) ∧ ∀ (i m : Nat) (H : Hp), W i m H → (Itl K a).stop i H ∧ Qd H ∨
      (Itl K a).go i H ∧ ∃ Nx : Hp → Prop, (∀ (H' : Hp), Nx H' → ∃ m', m' < m ∧ W (i + 1) m' H') ∧ ∀ (x : V) (H' : Hp), (Itl K a).yld i H x H' →
        g x (wipe σ vs) H' fun σ2 H2 => wipe σ2 vs = wipe σ vs ∧ tt σ2 H2 fun b H3 => if b = true then te σ2 H3 fun y H4 => ∃ acc, H4 Dl = some (HO.lst acc) ∧ acc.length < sizeLine ∧ Nx (upd H4 Dl (HO.lst (acc ++ [y]))) else Nx H3 := by
  have hl := Rs_len fr
  refine lc_list (xs := us) (fun i H => W (xs.drop i) H) (by rw [List.drop_zero]; exact h0) (fun i H _ h => .inl (.inl (hf _ H h))) (fun i v H e h => ?_) fun H h => ?_
  · obtain ⟨d, e1, e2⟩ := fr.get' e
    have h1 : i < xs.length := by have := (List.getElem?_eq_some_iff.mp e).1; omega
    have e3 : xs[i]? = some xs[i] := List.getElem?_eq_getElem h1
    rw [List.getElem?_map, e3] at e1
    cases e1
    have h' : W (xs.drop i) H := h
    rw [drop_cons e3] at h'
    exact hs _ _ v H e2 (List.mem_of_getElem? e) h'
  · have h' : W (xs.drop us.length) H := h
    rw [hl, List.drop_length] at h'
    exact hd H h'
theorem lc_rng {lo hi : Int} {n : Nat} (hn : n = (hi - lo).toNat) (W : List Int → Hp → Prop) (h0 : W (irange lo hi) (upd H1 Dl (.lst [])))
    (hs : ∀ x ts H, W (x :: ts) H → g (.int x) (wipe σ vs) H fun σ2 H2 => wipe σ2 vs = wipe σ vs ∧ tt σ2 H2 fun b H3 =>
        if b = true then te σ2 H3 fun y H4 => ∃ acc, H4 Dl = some (HO.lst acc) ∧ acc.length < sizeLine ∧ W ts (upd H4 Dl (HO.lst (acc ++ [y]))) else W ts H3) (hd : ∀ H, W [] H → Qd H) :
    ∃ W : Nat → Nat → Hp → Prop, (∃ m, W 0 m (upd H1 Dl (HO.lst []))) ∧ ∀ (i m : Nat) (H : Hp), W i m H → (Itr lo n).stop i H ∧ Qd H ∨
      (Itr lo n).go i H ∧ ∃ Nx : Hp → Prop, (∀ (H' : Hp), Nx H' → ∃ m', m' < m ∧ W (i + 1) m' H') ∧ ∀ (x : V) (H' : Hp), (Itr lo n).yld i H x H' →
        g x (wipe σ vs) H' fun σ2 H2 => wipe σ2 vs = wipe σ vs ∧ tt σ2 H2 fun b H3 => if b = true then te σ2 H3 fun y H4 => ∃ acc, H4 Dl = some (HO.lst acc) ∧ acc.length < sizeLine ∧ Nx (upd H4 Dl (HO.lst (acc ++ [y]))) else Nx H3 := by
  subst hn
  refine lc_range (fun i H => W ((irange lo hi).drop i) H) (by rw [List.drop_zero]; exact h0) (fun i H hi' h => ?_) fun H h => ?_
  · have h' : W ((irange lo hi).drop i) H := h
    rw [drop_cons (irange_get hi')] at h'
    exact hs _ _ H h'
  · have h' : W ((irange lo hi).drop (hi - lo).toNat) H := h
    rw [← irange_len, List.drop_length] at h'
    exact hd H h'
end

/-! #### operators of my own -/
section
variable {X : Cx}
def rEqT (α : Type) [TD α] [TE' α] : R2 := fun x y H Q => ∃ (F : Hp) (a b : α), Sub F H ∧ R F x a ∧ R F y b ∧ Q (.bl (eqT a b)) H
def rNeT (α : Type) [TD α] [TE' α] : R2 := fun x y H Q => ∃ (F : Hp) (a b : α), Sub F H ∧ R F x a ∧ R F y b ∧ Q (.bl (!eqT a b)) H
theorem op_eqT {α : Type} [TD α] [TB α] [TE' α] (hd : TB.dep α ≤ 60) (hu : X.A.units + 64 < cLine) : OpR X (compareOp .Eq) (rEqT α) := by
  intro pins s σ H x y v u Q I rx ry h
  obtain ⟨F, a, b, sb, ha, hb, q⟩ := h
  exact op_eqD hu pins s σ H x y v u Q I rx ry ⟨_, _, ha.dpL sb (TB.lay a), hb.dpL sb (TB.lay b), TD.shaped hd a, TD.shaped hd b, by rw [eqvT]; exact q⟩
theorem op_neT {α : Type} [TD α] [TB α] [TE' α] (hd : TB.dep α ≤ 60) (hu : X.A.units + 64 < cLine) : OpR X (compareOp .NotEq) (rNeT α) := by
  intro pins s σ H x y v u Q I rx ry h
  obtain ⟨F, a, b, sb, ha, hb, q⟩ := h
  exact op_neD hu pins s σ H x y v u Q I rx ry ⟨_, _, ha.dpL sb (TB.lay a), hb.dpL sb (TB.lay b), TD.shaped hd a, TD.shaped hd b, by rw [eqvT]; exact q⟩
theorem any_eq {α : Type} [TD α] (x : α) (xs : List α) : ((xs.map TD.d).any fun z => PyData.eqv z (TD.d x)) = memT x xs := by
  unfold memT
  rw [List.any_map]
  rfl
def rInT (α : Type) [TD α] [TE' α] : R2 := fun x y H Q => ∃ (F : Hp) (a : α) (b : List α), Sub F H ∧ R F x a ∧ R F y b ∧ Q (.bl (memT a b)) H
def rNiT (α : Type) [TD α] [TE' α] : R2 := fun x y H Q => ∃ (F : Hp) (a : α) (b : List α), Sub F H ∧ R F x a ∧ R F y b ∧ Q (.bl (!memT a b)) H
theorem op_inT {α : Type} [TD α] [TB α] [TE' α] (hd : TB.dep α ≤ 50) (hu : X.A.units + 65 < cLine) : OpR X (compareOp .In) (rInT α) := by
  intro pins s σ H x y v u Q I rx ry h
  obtain ⟨F, a, b, sb, ha, hb, q⟩ := h
  exact op_inD hu pins s σ H x y v u Q I rx ry ⟨_, _, ha.dpL sb (TB.lay a), hb.dpL sb (TB.lay b), TD.shaped (by omega) a, TD.shaped (α := List α) (by show TB.dep α + 1 ≤ 60; omega) b, by rw [any_eq]; exact q⟩
theorem op_niT {α : Type} [TD α] [TB α] [TE' α] (hd : TB.dep α ≤ 50) (hu : X.A.units + 65 < cLine) : OpR X (compareOp .NotIn) (rNiT α) := by
  intro pins s σ H x y v u Q I rx ry h
  obtain ⟨F, a, b, sb, ha, hb, q⟩ := h
  exact op_notInD hu pins s σ H x y v u Q I rx ry ⟨_, _, ha.dpL sb (TB.lay a), hb.dpL sb (TB.lay b), TD.shaped (by omega) a, TD.shaped (α := List α) (by show TB.dep α + 1 ≤ 60; omega) b, by rw [any_eq]; exact q⟩
end
theorem hu64 {A : Around} {k : Nat} (hr : Room k A) : A.units + 64 < cLine := by have := hr.un; omega
theorem hu65 {A : Around} {k : Nat} (hr : Room k A) : A.units + 65 < cLine := by have := hr.un; omega
theorem szl {n : Nat} (h : n < 16777216) : n < sizeLine := by rw [sizeLine_eq]; exact h
theorem szle {n : Nat} (h : n ≤ 16777216) : n ≤ sizeLine := by rw [sizeLine_eq]; exact h

/-- a divisor, two factors that the model carries -/
def Dv (j : Int) : Prop := 0 < j ∧ j.natAbs.log2 < 9000
instance (j : Int) : Decidable (Dv j) := inferInstanceAs (Decidable (_ ∧ _))
theorem Dv.w {i j : Int} (h : Dv j) : CDivW i j := h
theorem Dv.p {j : Int} (h : Dv j) : 0 < j := h.1
theorem Dv.of {j : Int} (h : 0 < j) (h2 : j < 2 ^ 9000) : Dv j := by
  refine ⟨h, ?_⟩
  have e : j.natAbs < 2 ^ 9000 := by omega
  rw [Nat.log2_lt (by omega)]; exact e
def Mv (i j : Int) : Prop := i.natAbs.log2 + j.natAbs.log2 < 1000000
instance (i j : Int) : Decidable (Mv i j) := inferInstanceAs (Decidable (_ < _))
theorem Mv.w {i j : Int} (h : Mv i j) : CMulW i j := h


/-! #### readings opened one layer -/
section
variable {K : PySem.W.Frag} {σ : L2.St} {H : Hp} {D : Ends} {t u : TS} {te ta tb tc : TE} {tt tu : TT} {g : TG} {r r' : R2} {Q : VK} {QB : Bool → Hp → Prop} {QA : List V → Hp → Prop} {tA : TA}
theorem x_seq (h : t { D with nx := u D } σ H) : tSeq t u D σ H := h
theorem x_yes (h : QB true H) : tYes σ H QB := h
theorem x_nopart {QO : Option Int → Hp → Prop} (h : QO none H) : tNoPart σ H QO := h
theorem x_c {v : V} (h : Q v H) : tC v σ H Q := h
theorem x_gn {i : Nat} {v : V} {QS : L2.St → Hp → Prop} (h : QS (σ.set i (some v)) H) : gName i v σ H QS := h
theorem x_next (h : D.nx σ H) : tNext D σ H := h
theorem x_par {i j : Nat} (h : tA σ H fun vs H1 => ∃ v w, vs = [v, w] ∧ D.nx ((σ.set i (some v)).set j (some w)) H1) : tPar i j tA D σ H := h
theorem x_if (h : tt σ H fun b H1 => if b = true then t D σ H1 else u D σ H1) : tIfS tt t u D σ H := h
theorem x_asg (h : te σ H fun x H1 => g x σ H1 D.nx) : tAsg te g D σ H := h
theorem x_drop (h : te σ H fun _ H1 => D.nx σ H1) : tDrop te D σ H := h
theorem x_ret (h : te σ H D.rt) : tRet te D σ H := h
theorem x_op (h : ta σ H fun x H1 => tb σ H1 fun y H2 => r x y H2 Q) : tOp r ta tb σ H Q := h
theorem x_un {r : V → Hp → VK → Prop} (h : ta σ H fun x H1 => r x H1 Q) : tUn r ta σ H Q := h
theorem x_cmp {p : Int → Int → Bool} (h : ta σ H fun x H1 => tb σ H1 fun y H2 => ∃ i j, x = .int i ∧ y = .int j ∧ Q (.bl (p i j)) H2) : tCmp p ta tb σ H Q := h
theorem x_cons {tr : TA} (h : ta σ H fun x H1 => tr σ H1 fun xs H2 => QA (x :: xs) H2) : tCons ta tr σ H QA := h
theorem x_lst (h : tA σ H fun xs H1 => xs.length ≤ sizeLine ∧ ∀ p, H1 p = none → Q (.ref p) (upd H1 p (.lst xs))) : tLst tA σ H Q := h
theorem x_tup (h : tA σ H fun xs H1 => xs.length ≤ sizeLine ∧ ∀ p, H1 p = none → Q (.ref p) (upd H1 p (.tup xs))) : tTup tA σ H Q := h
theorem x_call {sp : Sp} {dvs : List V} {E : XK} (h : tA σ H fun vs H1 => sp (vs ++ dvs) H1 Q E) : tCall sp dvs E tA σ H Q := h
theorem x_cb {r : List V → Hp → VK → Prop} (h : tA σ H fun vs H1 => r vs H1 Q) : tCB r tA σ H Q := h
theorem x_B (h : te σ H fun x H1 => ∃ c, x = .bl c ∧ QB c H1) : tB te σ H QB := h
theorem x_test (h : te σ H fun x H1 => ∃ c, x = .bl c ∧ QB c H1) : tTest te σ H QB := h
theorem x_not (h : tt σ H fun c H1 => QB (!c) H1) : tNot tt σ H QB := h
theorem x_and (h : tt σ H fun c H1 => if c = true then tu σ H1 QB else QB false H1) : tAnd tt tu σ H QB := h
theorem x_or (h : tt σ H fun c H1 => if c = true then QB true H1 else tu σ H1 QB) : tOr tt tu σ H QB := h
theorem x_andV (h : ta σ H fun x H1 => ∃ c, x = .bl c ∧ if c = true then tb σ H1 Q else Q (.bl false) H1) : tAndV ta tb σ H Q := h
theorem x_orV (h : ta σ H fun x H1 => ∃ c, x = .bl c ∧ if c = true then Q (.bl true) H1 else tb σ H1 Q) : tOrV ta tb σ H Q := h
theorem x_notV (h : ta σ H fun x H1 => ∃ c, x = .bl c ∧ Q (.bl (!c)) H1) : tNotV ta σ H Q := h
theorem x_chain (h : ta σ H fun x H1 => tb σ H1 fun y H2 => r x y H2 fun z H3 => ∃ k, z = .bl k ∧ (if k = true then tc σ H3 fun w' H4 => r' y w' H4 Q else Q (.bl false) H3)) : tChain r r' ta tb tc σ H Q := h
theorem x_ife (h : tt σ H fun c H1 => if c = true then ta σ H1 Q else tb σ H1 Q) : tIf tt ta tb σ H Q := h
theorem x_sl {r : V → Option Int → Option Int → Hp → VK → Prop} {tl th : TO} (h : te σ H fun x H1 => tl σ H1 fun l H2 => th σ H2 fun u H3 => r x l u H3 Q) : tSl r te tl th σ H Q := h
theorem x_part {QO : Option Int → Hp → Prop} (h : te σ H fun x H1 => ∃ i, x = .int i ∧ QO (some i) H1) : tPart te σ H QO := h
theorem x_revL (h : te σ H fun x H1 => ∃ a xs, x = .ref a ∧ SqL K H1 a xs ∧ ∀ p, H1 p = none → Q (.ref p) (upd H1 p (.lst xs.reverse))) : tRevL K te σ H Q := h
theorem x_bm {T : String} {r : V → List V → Hp → VK → Prop} (h : te σ H fun x H1 => tyV K T x H1 ∧ tA σ H1 fun xs H2 => r x xs H2 Q) : tBM K T r te tA σ H Q := h
theorem x_bm0 {T : String} {r : V → List V → Hp → VK → Prop} (h : te σ H fun x H1 => tyV K T x H1 ∧ r x [] H1 Q) : tBM0 K T r te σ H Q := h
theorem x_isN (h : ta σ H fun x H1 => Q (.bl (decide (x = .non))) H1) : tIsN ta σ H Q := h
theorem x_notN (h : ta σ H fun x H1 => Q (.bl (!decide (x = .non))) H1) : tNotN ta σ H Q := h
theorem x_isN' (h : ta σ H fun x H1 => ∃ b, decide (x = .non) = b ∧ Q (.bl b) H1) : tIsN ta σ H Q := by
  have e : (fun (x : V) (H1 : Hp) => ∃ b, decide (x = .non) = b ∧ Q (.bl b) H1) = fun x H1 => Q (.bl (decide (x = .non))) H1 := funext fun x => funext fun H1 => propext ⟨fun ⟨b, e, q⟩ => by rw [e]; exact q, fun q => ⟨_, rfl, q⟩⟩
  rw [e] at h
  exact h
theorem x_notN' (h : ta σ H fun x H1 => ∃ b, (!decide (x = .non)) = b ∧ Q (.bl b) H1) : tNotN ta σ H Q := by
  have e : (fun (x : V) (H1 : Hp) => ∃ b, (!decide (x = .non)) = b ∧ Q (.bl b) H1) = fun x H1 => Q (.bl (!decide (x = .non))) H1 := funext fun x => funext fun H1 => propext ⟨fun ⟨b, e, q⟩ => by rw [e]; exact q, fun q => ⟨_, rfl, q⟩⟩
  rw [e] at h
  exact h
theorem x_rng1 {R : It → Hp → Prop} (h : tA σ H fun vs H1 => ∃ j : Int, vs = [.int j] ∧ -(2 ^ 62) ≤ j ∧ j < 2 ^ 62 ∧ R (Itr 0 j.toNat) H1) : iRng1 tA σ H R := h
theorem x_rng2 {R : It → Hp → Prop} (h : tA σ H fun vs H1 => ∃ i j : Int, vs = [.int i, .int j] ∧ (-(2 ^ 62) ≤ i ∧ i < 2 ^ 62 ∧ -(2 ^ 62) ≤ j ∧ j < 2 ^ 62) ∧ R (Itr i (j - i).toNat) H1) : iRng2 tA σ H R := h
theorem x_rng3 {R : It → Hp → Prop} (h : tA σ H fun vs H1 => ∃ (i j c : Int) (n : Nat), vs = [.int i, .int j, .int c] ∧ RgC i j c n ∧ R (Itc i c n) H1) : iRng3 tA σ H R := h
theorem x_iter {R : It → Hp → Prop} (h : te σ H fun x H1 => ∃ a, x = .ref a ∧ (∃ xs, SqL K H1 a xs) ∧ R (Itl K a) H1) : iList K te σ H R := h
theorem x_for {wi : TI} (h : wi σ H fun J H1 => ∃ W : Nat → Nat → L2.St → Hp → Prop, (∃ m, W 0 m σ H1) ∧ ∀ i m σ H, W i m σ H →
  (J.stop i H ∧ D.nx σ H) ∨ (J.go i H ∧ ∃ N : L2.St → Hp → Prop, (∀ σ' H', N σ' H' → ∃ m', m' < m ∧ W (i + 1) m' σ' H') ∧ ∀ x H', J.yld i H x H' → g x σ H' fun σ2 H2 => t { D with nx := N, ct := N, bk := D.nx } σ2 H2)) : tFor wi g t D σ H := h
theorem x_lc {wi : TI} {vs : List Nat} (h : wi σ H fun J H1 => ∀ Dl, H1 Dl = none → ∃ W : Nat → Nat → Hp → Prop, (∃ m, W 0 m (upd H1 Dl (.lst []))) ∧ ∀ i m H, W i m H → J.stop i H ∧ Q (.ref Dl) H ∨ J.go i H ∧ ∃ Nx : Hp → Prop, (∀ (H' : Hp), Nx H' → ∃ m', m' < m ∧ W (i + 1) m' H') ∧ ∀ (x : V) (H' : Hp), J.yld i H x H' →
        g x (wipe σ vs) H' fun σ2 H2 => wipe σ2 vs = wipe σ vs ∧ tt σ2 H2 fun b H3 => if b = true then te σ2 H3 fun y H4 => ∃ acc, H4 Dl = some (HO.lst acc) ∧ acc.length < sizeLine ∧ Nx (upd H4 Dl (HO.lst (acc ++ [y]))) else Nx H3) : tLc wi g tt te vs σ H Q := h
end

/-! #### order and sorted, of data of one type -/
class SO (α : Type) [TD α] where
  alike : ∀ x y : α, PySem.W.alike (TD.d x) (TD.d y) = true
  nn : ∀ x : α, TD.d x ≠ .none
  kind : (∀ x : α, ∃ y r, TD.d x = .tuple (y :: r)) ∨ ∀ (x : α) xs, TD.d x ≠ .tuple xs
instance : SO Int := ⟨fun _ _ => by simp [TD.d, PySem.W.alike], (fun _ h => nomatch h), .inr fun _ _ h => nomatch h⟩
theorem alikeAll_of {α : Type} [TD α] [SO α] : ∀ xs ys : List α, PySem.W.alikeAll (xs.map TD.d) (ys.map TD.d) = true
  | [], _ => by simp [PySem.W.alikeAll]
  | _ :: _, [] => by simp [PySem.W.alikeAll]
  | x :: xs, y :: ys => by
    rw [List.map_cons, List.map_cons, PySem.W.alikeAll, alikeAll_of xs ys, SO.alike]; rfl
instance {α : Type} [TD α] [SO α] : SO (List α) := ⟨fun xs ys => by
  show PySem.W.alike (.list _) (.list _) = true
  rw [PySem.W.alike]; exact alikeAll_of xs ys, (fun _ h => nomatch h), .inr fun _ _ h => nomatch h⟩
instance {α β : Type} [TD α] [SO α] [TD β] [SO β] : SO (α × β) := ⟨fun p q => by
  show PySem.W.alike (.tuple [_, _]) (.tuple [_, _]) = true
  simp [PySem.W.alike, PySem.W.alikeAll, SO.alike], (fun _ h => nomatch h), .inl fun p => ⟨_, _, rfl⟩⟩
def ltT {α : Type} [TD α] (x y : α) : Bool := PySem.W.dataLt (TD.d x) (TD.d y)
def sortT {α : Type} [TD α] (xs : List α) : List α := xs.mergeSort (PySem.W.dataLe false TD.d)
theorem sortT_len {α : Type} [TD α] (xs : List α) : (sortT xs).length = xs.length := List.length_mergeSort _
def rGeT (α : Type) [TD α] : R2 := fun x y H Q => ∃ (F : Hp) (a b : α), Sub F H ∧ R F x a ∧ R F y b ∧ Q (.bl (!ltT a b)) H
def rLeT' (α : Type) [TD α] : R2 := fun x y H Q => ∃ (F : Hp) (a b : α), Sub F H ∧ R F x a ∧ R F y b ∧ Q (.bl (!ltT b a)) H
def rLtT' (α : Type) [TD α] : R2 := fun x y H Q => ∃ (F : Hp) (a b : α), Sub F H ∧ R F x a ∧ R F y b ∧ Q (.bl (ltT a b)) H
def rGtT (α : Type) [TD α] : R2 := fun x y H Q => ∃ (F : Hp) (a b : α), Sub F H ∧ R F x a ∧ R F y b ∧ Q (.bl (ltT b a)) H
section
variable {X : Cx} {α : Type} [TD α] [TB α] [SO α]
theorem op_geT' (hd : TB.dep α ≤ 60) (hu : X.A.units + 64 < cLine) : OpR X (compareOp .GtE) (rGeT α) := by
  intro pins s σ H x y v u Q I rx ry h
  obtain ⟨F, a, b, sb, ha, hb, q⟩ := h
  obtain ⟨as, r1⟩ := Dp.reads I _ x v (ha.dpL (K := X.K) sb (TB.lay a)) rx
  obtain ⟨bs, r2⟩ := Dp.reads I _ y u (hb.dpL (K := X.K) sb (TB.lay b)) ry
  have h1 := TB.dle a
  exact PySem.W.ge_data r1 r2 (SO.alike a b) (SO.nn a) (by omega) ⟨.bl _, H, I, rfl, q⟩
theorem op_leT' (hd : TB.dep α ≤ 60) (hu : X.A.units + 64 < cLine) : OpR X (compareOp .LtE) (rLeT' α) := by
  intro pins s σ H x y v u Q I rx ry h
  obtain ⟨F, a, b, sb, ha, hb, q⟩ := h
  obtain ⟨as, r1⟩ := Dp.reads I _ x v (ha.dpL (K := X.K) sb (TB.lay a)) rx
  obtain ⟨bs, r2⟩ := Dp.reads I _ y u (hb.dpL (K := X.K) sb (TB.lay b)) ry
  have h1 := TB.dle a
  exact PySem.W.le_data r1 r2 (SO.alike a b) (SO.nn a) (by omega) ⟨.bl _, H, I, rfl, q⟩
theorem op_ltT' (hd : TB.dep α ≤ 60) (hu : X.A.units + 64 < cLine) : OpR X (compareOp .Lt) (rLtT' α) := by
  intro pins s σ H x y v u Q I rx ry h
  obtain ⟨F, a, b, sb, ha, hb, q⟩ := h
  obtain ⟨as, r1⟩ := Dp.reads I _ x v (ha.dpL (K := X.K) sb (TB.lay a)) rx
  obtain ⟨bs, r2⟩ := Dp.reads I _ y u (hb.dpL (K := X.K) sb (TB.lay b)) ry
  have h1 := TB.dle a
  exact PySem.W.lt_data r1 r2 (SO.alike a b) (SO.nn a) (by omega) ⟨.bl _, H, I, rfl, q⟩
theorem op_gtT' (hd : TB.dep α ≤ 60) (hu : X.A.units + 64 < cLine) : OpR X (compareOp .Gt) (rGtT α) := by
  intro pins s σ H x y v u Q I rx ry h
  obtain ⟨F, a, b, sb, ha, hb, q⟩ := h
  obtain ⟨as, r1⟩ := Dp.reads I _ x v (ha.dpL (K := X.K) sb (TB.lay a)) rx
  obtain ⟨bs, r2⟩ := Dp.reads I _ y u (hb.dpL (K := X.K) sb (TB.lay b)) ry
  have h1 := TB.dle a
  exact PySem.W.gt_data r1 r2 (SO.alike a b) (SO.nn a) (by omega) ⟨.bl _, H, I, rfl, q⟩
/-- the values stand for the items -/
theorem each_of {F : Hp} : ∀ {us : List V} {vs : List Value} {xs : List α}, Vals us vs → Rs F us xs → PySem.W.EachIs (fun v x => ∃ u, RelV u v ∧ R F u x) vs xs
  | _, _, [], r, q => by
    cases q
    cases r; exact .nil
  | _, _, x :: xs, r, q => by
    cases q with
    | cons h1 h2 => cases r with | cons r1 r2 => exact .cons ⟨_, r1, h1⟩ (each_of r2 h2)
theorem of_each {F : Hp} : ∀ {vs : List Value} {xs : List α}, PySem.W.EachIs (fun v x => ∃ u, RelV u v ∧ R F u x) vs xs → ∃ us, Vals us vs ∧ Rs F us xs
  | _, _, .nil => ⟨[], .nil, .nil⟩
  | _, _, .cons ⟨u, h1, h2⟩ t => by
    obtain ⟨us, a, b⟩ := of_each t
    exact ⟨u :: us, .cons h1 a, .cons h2 b⟩
def rSortedT (α : Type) [TD α] : List V → Hp → VK → Prop := fun vs H Q => ∃ (a : Addr) (us : List V) (F : Hp) (xs : List α), vs = [.ref a] ∧ H a = some (.lst us) ∧ Sub F H ∧ Rs F us xs ∧ xs.length ≤ 16777216 ∧
  ∀ p ws, H p = none → Rs F ws (sortT xs) → Q (.ref p) (upd H p (.lst ws))
theorem call_sortedT (hd : TB.dep α ≤ 60) (hu : X.A.units + 200 < cLine) : CallR X (.builtin "sorted") (rSortedT α) := by
  intro pins s σ H vs us0 Q I r h
  obtain ⟨a, us, F, xs, rfl, ha, sb, hr, hl, q⟩ := h
  have hS : SqL X.K H a us := .inl (.inl ha)
  obtain ⟨its, rv, hli, _⟩ := I.list hS
  rw [Vals.ref1 r]
  have e1 := each_of rv hr
  have reads : PySem.W.EachIs (fun v x => ∃ as, Reads s.heap v (TD.d x) as) its xs := e1.mono fun v x ⟨u, r1, r2⟩ => Dp.reads I _ u v (r2.dpL (K := X.K) sb (TB.lay x)) r1
  refine PySem.W.sorted_data (enc := TD.d) (R := fun v x => ∃ u, RelV u v ∧ R F u x) hli.isList e1 reads (PySem.W.AllAlike.of SO.alike) ?_ (by rw [sizeLine_eq]; exact hl) (fun x _ => ?_) fun out hlen eo => ?_
  · rcases SO.kind (α := α) with k | k
    · exact PySem.W.Sortable.tuples k
    · exact PySem.W.Sortable.others fun x => ⟨SO.nn x, k x⟩
  · have h1 := TB.dle x
    omega
  · obtain ⟨ws, w1, w2⟩ := of_each eo
    obtain ⟨ep, he'⟩ := PyProof.Rows.sortedAll_at s.heap its out.toArray
    have hz : ws.length ≤ sizeLine := by rw [Rs_len w2, sizeLine_eq]; show (sortT xs).length ≤ _; rw [sortT_len]; exact hl
    exact ⟨.ref _, upd H (s.heap.objs.size + 1) (.lst ws), I.laid (t' := s.toks) (fun _ _ => PyProof.Rows.sortedAll_old) (Nat.le_succ _) ⟨hz, out, ep, w1, he'⟩, rfl, q _ ws (I.hok.fresh (Nat.le_succ _)) w2⟩
end
theorem hu200 {A : Around} {k : Nat} (hr : Room (k + 1) A) : A.units + 200 < cLine := by have := hr.un; omega
theorem hu200' {A : Around} {k : Nat} (hr : Room k A) : A.units + 200 < cLine := by have := hr.un; omega

/-! #### readings at a K that is written -/
section
variable {X : Cx}
def rLenT (K : PySem.W.Frag) : List V → Hp → VK → Prop := fun xs H Q => ∃ p ys, xs = [V.ref p] ∧ (SqL K H p ys ∨ SqT K H p ys) ∧ Q (.int ys.length) H
theorem call_lenT : CallR X (.builtin "len") (rLenT X.K) := call_len_seq
def rListT (K : PySem.W.Frag) : List V → Hp → VK → Prop := fun xs H Q => ∃ p ys, xs = [V.ref p] ∧ (SqL K H p ys ∨ SqT K H p ys) ∧ ∀ l, H l = none → Q (.ref l) (upd H l (.lst ys))
theorem call_listT : CallR X (.type "list") (rListT X.K) := call_list_of
end

/-! #### simple expressions by a term -/
theorem gr_ex {F H H2 : Hp} (s : Sub F H) (e : Evl.Ex H H2) : Gr NA F H F H2 :=
  ⟨fun a o _ h => e a o h, fun a h => by
    cases q : H a with
    | none => exact absurd q h
    | some o => rw [e a o q]; exact (fun z => nomatch z), Sub.refl F, s.trans e, fun _ _ f => f⟩
theorem useEv {te : TE} {σ : L2.St} {H : Hp} {Q : VK} (v : V) (h : Evl.Ev te σ H v) (k : ∀ H2, Evl.Ex H H2 → Q v H2) : te σ H Q := h H (Evl.Ex.refl H) Q k
theorem useT {tt : TT} {σ : L2.St} {H : Hp} {Q : Bool → Hp → Prop} (b : Bool) (h : Evl.EvT tt σ H b) (k : ∀ H2, Evl.Ex H H2 → Q b H2) : tt σ H Q := h H (Evl.Ex.refl H) Q k
section
variable {K : PySem.W.Frag} {σ : L2.St} {H F : Hp} {ta tb : TE} {α : Type} [TD α]
theorem ev_cmp {p : Int → Int → Bool} {i j : Int} (ha : Evl.Ev ta σ H (.int i)) (hb : Evl.Ev tb σ H (.int j)) : Evl.Ev (tCmp p ta tb) σ H (.bl (p i j)) := fun H1 e Q q =>
  ha H1 e _ fun H2 e2 => hb H2 (e.trans e2) _ fun H3 e3 => ⟨i, j, rfl, rfl, q H3 (e2.trans e3)⟩
theorem isN_opt [NN α] {v : V} {o : Option α} (h : R F v o) : decide (v = .non) = o.isNone := by
  cases o with
  | none => cases (show RD F v .none from h); rfl
  | some x =>
    have h' : RD F v (TD.d x) := h
    have hn : v ≠ .non := fun e => by
      subst e
      generalize hd : TD.d x = d at h'
      cases h'
      exact (NN.nn x).2 hd
    rw [decide_eq_false hn]; rfl
theorem ev_isN [NN α] {v : V} {o : Option α} (ha : Evl.Ev ta σ H v) (h : R F v o) : Evl.Ev (tIsN ta) σ H (.bl o.isNone) := fun H1 e Q q =>
  ha H1 e _ fun H2 e2 => by
    show Q (.bl (decide (v = .non))) H2
    rw [isN_opt h]; exact q H2 e2
theorem ev_notN [NN α] {v : V} {o : Option α} (ha : Evl.Ev ta σ H v) (h : R F v o) : Evl.Ev (tNotN ta) σ H (.bl (!o.isNone)) := fun H1 e Q q =>
  ha H1 e _ fun H2 e2 => by
    show Q (.bl (!decide (v = .non))) H2
    rw [isN_opt h]; exact q H2 e2
theorem ev_eqVar [TE' α] {v w : V} {x y : α} (ha : Evl.Ev ta σ H v) (hb : Evl.Ev tb σ H w) (hx : R H v x) (hy : R H w y) : Evl.Ev (tOp (rEqT α) ta tb) σ H (.bl (eqT x y)) := fun H1 e Q q =>
  ha H1 e _ fun H2 e2 => hb H2 (e.trans e2) _ fun H3 e3 => ⟨H3, x, y, Sub.refl _, hx.mono ((e.trans e2).trans e3), hy.mono ((e.trans e2).trans e3), q H3 (e2.trans e3)⟩
theorem ev_neqVar [TE' α] {v w : V} {x y : α} (ha : Evl.Ev ta σ H v) (hb : Evl.Ev tb σ H w) (hx : R H v x) (hy : R H w y) : Evl.Ev (tOp (rNeT α) ta tb) σ H (.bl (!eqT x y)) := fun H1 e Q q =>
  ha H1 e _ fun H2 e2 => hb H2 (e.trans e2) _ fun H3 e3 => ⟨H3, x, y, Sub.refl _, hx.mono ((e.trans e2).trans e3), hy.mono ((e.trans e2).trans e3), q H3 (e2.trans e3)⟩
theorem ev_eqNil [TE' α] {v : V} {x : List α} (ha : Evl.Ev ta σ H v) (hx : R H v x) : Evl.Ev (tOp (rEqT (List α)) ta (tLst tNil)) σ H (.bl (eqT x [])) := fun H1 e Q q =>
  ha H1 e _ fun H2 e2 => ⟨Nat.zero_le _, fun p hp => ⟨_, x, [], Sub.refl _, hx.mono ((e.trans e2).trans (Evl.Ex.new hp)), mk_lst upd_same Rs_nil, q _ (e2.trans (Evl.Ex.new hp))⟩⟩
theorem ev_neqNil [TE' α] {v : V} {x : List α} (ha : Evl.Ev ta σ H v) (hx : R H v x) : Evl.Ev (tOp (rNeT (List α)) ta (tLst tNil)) σ H (.bl (!eqT x [])) := fun H1 e Q q =>
  ha H1 e _ fun H2 e2 => ⟨Nat.zero_le _, fun p hp => ⟨_, x, [], Sub.refl _, hx.mono ((e.trans e2).trans (Evl.Ex.new hp)), mk_lst upd_same Rs_nil, q _ (e2.trans (Evl.Ex.new hp))⟩⟩
theorem ev_lenT {a : Addr} {us : List V} {xs : List α} (ha : Evl.Ev ta σ H (.ref a)) (h : H a = some (.lst us)) (r : Rs F us xs) :
    Evl.Ev (tCB (rLenT K) (tCons ta tNil)) σ H (.int (xs.length : Int)) := fun H1 e Q q =>
  ha H1 e _ fun H2 e2 => ⟨a, us, rfl, .inl (.inl (.inl (e2 _ _ (e _ _ h)))), by rw [Rs_len r]; exact q H2 e2⟩
end
section
variable {A : Addr → Prop} {F0 H0 F H N H' : Hp} {p : Addr} {o : HO} {us : List V}
theorem Ow.frzo {q : Addr} {ws : List V} (w : Ow H0 F H p us) (h : p ≠ q) (x : Ow H0 F H q ws) : Ow H0 (upd F q (.lst ws)) H p us := ⟨w.at_, by rw [upd_ne h]; exact w.nf, w.n0⟩
end
/-! #### slices, stores -/
def cutT {α : Type} (xs : List α) (lo hi : Option Int) : List α := (xs.drop (HT.sIx xs.length 0 lo)).take (HT.sIx xs.length xs.length hi - HT.sIx xs.length 0 lo)
section
variable {F : Hp} {α : Type} [TD α] {us : List V} {xs : List α}
theorem Rs_take (n : Nat) (r : Rs F us xs) : Rs F (us.take n) (xs.take n) := by unfold Rs; rw [List.map_take]; exact r.take n
theorem Rs_drop (n : Nat) (r : Rs F us xs) : Rs F (us.drop n) (xs.drop n) := by unfold Rs; rw [List.map_drop]; exact r.drop n
theorem Rs_cut {lo hi : Option Int} (r : Rs F us xs) : Rs F (cutV us lo hi) (cutT xs lo hi) := by
  unfold cutV cutT; rw [Rs_len r]; exact Rs_take _ (Rs_drop _ r)
theorem Rs_set {u : V} {x : α} {j : Nat} (r : Rs F us xs) (h : R F u x) : Rs F (us.set j u) (xs.set j x) := by unfold Rs; rw [List.map_set]; exact r.set j h
theorem Rs_ins {u : V} {x : α} {n : Nat} (r : Rs F us xs) (h : R F u x) : Rs F (us.take n ++ [u] ++ us.drop n) (xs.take n ++ [x] ++ xs.drop n) := Rs_app (Rs_app (Rs_take n r) (Rs_cons h Rs_nil)) (Rs_drop n r)
theorem Rs_rep (r : Rs F us xs) : ∀ {n : Nat}, Rs F (List.replicate n us).flatten (List.replicate n xs).flatten
  | 0 => .nil
  | n + 1 => by rw [List.replicate_succ, List.replicate_succ, List.flatten_cons, List.flatten_cons]; exact Rs_app r (Rs_rep r)
end
def Rg1 (j : Int) : Prop := -(2 ^ 62) ≤ j ∧ j < 2 ^ 62
instance (j : Int) : Decidable (Rg1 j) := inferInstanceAs (Decidable (_ ∧ _))
theorem Rg1.lo {j : Int} (h : Rg1 j) : -(2 ^ 62) ≤ j := h.1
theorem Rg1.hi {j : Int} (h : Rg1 j) : j < 2 ^ 62 := h.2
def Rg2 (i j : Int) : Prop := -(2 ^ 62) ≤ i ∧ i < 2 ^ 62 ∧ -(2 ^ 62) ≤ j ∧ j < 2 ^ 62
instance (i j : Int) : Decidable (Rg2 i j) := inferInstanceAs (Decidable (_ ∧ _))
theorem Rg2.ok {i j : Int} (h : Rg2 i j) : -(2 ^ 62) ≤ i ∧ i < 2 ^ 62 ∧ -(2 ^ 62) ≤ j ∧ j < 2 ^ 62 := h
def InsOk (n : Nat) (i : Int) : Prop := n < 16777216 ∧ 0 ≤ i ∧ i < 2 ^ 63
instance (n : Nat) (i : Int) : Decidable (InsOk n i) := inferInstanceAs (Decidable (_ ∧ _))
theorem InsOk.a {n : Nat} {i : Int} (h : InsOk n i) : n < 16777216 := h.1
theorem InsOk.b {n : Nat} {i : Int} (h : InsOk n i) : 0 ≤ i := h.2.1
theorem InsOk.c {n : Nat} {i : Int} (h : InsOk n i) : i < 2 ^ 63 := h.2.2
def Rv (n : Nat) (k : Int) : Prop := (-(2 ^ 63) ≤ k ∧ k < 2 ^ 63) ∧ n * k.toNat ≤ 16777216
instance (n : Nat) (k : Int) : Decidable (Rv n k) := inferInstanceAs (Decidable (_ ∧ _))
theorem Rv.lo {n : Nat} {k : Int} (h : Rv n k) : -(2 ^ 63) ≤ k := h.1.1
theorem Rv.hi {n : Nat} {k : Int} (h : Rv n k) : k < 2 ^ 63 := h.1.2
theorem Rv.sz {n : Nat} {k : Int} (h : Rv n k) : n * k.toNat ≤ 16777216 := h.2
theorem no_none {P : Prop} {α : Type} {r : α} (h : none = some r) : P := nomatch h
theorem ret_true {b : Bool} {Q : VK} {H : Hp} (hm : some b = some true) (q : ∀ H', Q (.bl true) H') : Q (.bl b) H := by cases hm; exact q H
theorem pairp {α β : Type} {a c : α} {b d : β} (h : some (a, b) = some (c, d)) : a = c ∧ b = d := by cases h; exact ⟨rfl, rfl⟩

/-! #### a fresh answer is ours -/
def Fz (H : Hp) (v : V) : Prop := ∀ a, v = .ref a → H a = none
theorem own_of {A B : Addr → Prop} {α : Type} [TD α] {F0 H0 F H N H2 : Hp} {a : Addr} {us : List V} {xs : List α} (G : Gr A F0 H0 F H) (g : Gr B F H N H2) (z : H a = none) (h : N a = some (.lst us)) : Ow H0 F H2 a us :=
  ⟨g.sub _ _ h, G.sub.none z, G.fresh z⟩
theorem Rs_flatI {N F : Hp} {us : List V} {xs : List Int} (r : Rs N us xs) : Rs F us xs := by rw [Rs_int r]; exact int_Rs xs
theorem Rs_flatB {N F : Hp} : ∀ {us : List V} {xs : List Bool}, Rs N us xs → Rs F us xs
  | _, [], r => by cases r; exact .nil
  | _, x :: xs, r => by cases r with | cons h r => cases h; exact .cons (.bl _) (Rs_flatB r)

/-! #### a fresh answer with a list within -/
def NestFz (H N : Hp) (v : V) : Prop := ∀ t b p, v = .ref t → N t = some (.tup [b, .ref p]) → H p = none
def eraseP (N : Hp) (p : Addr) : Hp := fun a => if a = p then none else N a
theorem eraseP_ne {N : Hp} {p a : Addr} (h : a ≠ p) : eraseP N p a = N a := if_neg h
theorem eraseP_same {N : Hp} {p : Addr} : eraseP N p p = none := if_pos rfl
theorem Gr.eraseP {A : Addr → Prop} {F H N H2 : Hp} {p : Addr} (g : Gr A F H N H2) (s : Sub F H) (z : H p = none) : Gr A F H (eraseP N p) H2 :=
  ⟨g.keep, g.there, fun a o e => by
    have : a ≠ p := fun q => by rw [q, s.none z] at e; exact nomatch e
    rw [eraseP_ne this]; exact g.ex a o e, fun a o e => by
    by_cases q : a = p
    · rw [q, eraseP_same] at e; exact nomatch e
    · rw [eraseP_ne q] at e; exact g.sub a o e, fun a h f => by
    by_cases q : a = p
    · rw [q]; exact eraseP_same
    · rw [eraseP_ne q]; exact g.own a h f⟩
theorem own_ofN {A B : Addr → Prop} {F0 H0 F H N H2 : Hp} {a : Addr} {us : List V} (G : Gr A F0 H0 F H) (g : Gr B F H N H2) (z : H a = none) (h : N a = some (.lst us)) : Ow H0 (eraseP N a) H2 a us :=
  ⟨g.sub _ _ h, eraseP_same, G.fresh z⟩
theorem eraseP_tup {N : Hp} {p t : Addr} {us xs : List V} (h : N t = some (.tup xs)) (k : N p = some (.lst us)) : eraseP N p t = some (.tup xs) := by
  rw [eraseP_ne (fun q => by rw [q, k] at h; exact nomatch h)]; exact h
theorem Rs_eraseP {N : Hp} {p : Addr} {us : List V} {xs : List (List Int)} (k : N p = some (.lst us)) (r : Rs N us xs) : Rs (eraseP N p) us xs := by
  have one : ∀ (u : V) (x : List Int), u ∈ us → R N u x → R (eraseP N p) u x := by
    intro u x hu h
    obtain ⟨a, ws, rfl, fa, fr⟩ := lst_of h
    have e := Rs_int fr
    have hne : a ≠ p := fun q => by
      rw [q, k] at fa
      have fa : us = ws := by cases fa; rfl
      rw [fa, e] at hu
      obtain ⟨i, _, hi⟩ := List.mem_map.mp hu
      exact nomatch hi
    exact mk_lst (by rw [eraseP_ne hne]; exact fa) (Rs_flatI fr)
  have all : ∀ (vs : List V) (ys : List (List Int)), (∀ u ∈ vs, u ∈ us) → Rs N vs ys → Rs (eraseP N p) vs ys := by
    intro vs ys
    induction ys generalizing vs with
    | nil => intro _ r; cases r; exact .nil
    | cons y ys ih =>
      intro hs r
      cases r with
      | cons h r => exact Rs_cons (one _ _ (hs _ List.mem_cons_self) h) (ih _ (fun u hu => hs u (List.mem_cons_of_mem _ hu)) r)
  exact all us xs (fun u h => h) r
def PopOk (n : Nat) (i : Int) : Prop := 0 ≤ i ∧ i < n ∧ i < 2 ^ 63
instance (n : Nat) (i : Int) : Decidable (PopOk n i) := inferInstanceAs (Decidable (_ ∧ _))
theorem PopOk.ix {n : Nat} {i : Int} (h : PopOk n i) : seqIndex? i n = some i.toNat := by
  obtain ⟨h0, h1, _⟩ := h
  unfold seqIndex?
  simp [h0, h1] <;> omega
theorem PopOk.get {i : Int} {us : List V} (h : PopOk us.length i) : ∃ y, us[i.toNat]? = some y := ⟨_, List.getElem?_eq_getElem (by have := h.1; have := h.2.1; omega)⟩
theorem PopOk.lo {n : Nat} {i : Int} (h : PopOk n i) : -(2 ^ 63) ≤ i := by have := h.1; omega
theorem Rs_popAt {α : Type} [TD α] {F : Hp} {us : List V} {xs : List α} (r : Rs F us xs) {k : Nat} : Rs F (us.eraseIdx k) (xs.eraseIdx k) := by
  rw [List.eraseIdx_eq_take_drop_succ, List.eraseIdx_eq_take_drop_succ]
  exact Rs_app (Rs_take _ r) (Rs_drop _ r)

/-! #### the deck of the laws' draws -/
abbrev DkS := List (Int × Int × Int) × Int
def Deck (A : Addr → Prop) (H : Hp) (dk : Addr) (st : DkS) : Prop := ∃ (P : Addr) (pas : List Addr), H dk = some (.lst [.ref P, .int st.2]) ∧ H P = some (.lst (pas.map V.ref)) ∧
  Paired (fun pa (p : Int × Int × Int) => H pa = some (.lst [.int p.1, .int p.2.1, .int p.2.2])) pas st.1 ∧ (∀ a, A a ↔ a = dk ∨ a = P ∨ a ∈ pas) ∧ dk ≠ P ∧ dk ∉ pas ∧ P ∉ pas ∧ pas.Nodup
theorem paired_mono {α β : Type} {F G : α → β → Prop} {l : List α} {m : List β} (p : Paired F l m) (f : ∀ a b, a ∈ l → F a b → G a b) : Paired G l m := by
  induction p with
  | nil => exact .nil
  | cons h _ ih => exact .cons (f _ _ List.mem_cons_self h) (ih fun a b ha => f a b (List.mem_cons_of_mem _ ha))
theorem Deck.keep {A : Addr → Prop} {H H' : Hp} {dk : Addr} {st : DkS} (d : Deck A H dk st) (k : ∀ a o, A a → H a = some o → H' a = some o) : Deck A H' dk st := by
  obtain ⟨P, pas, h1, h2, h3, hA, r⟩ := d
  exact ⟨P, pas, k _ _ ((hA _).mpr (.inl rfl)) h1, k _ _ ((hA _).mpr (.inr (.inl rfl))) h2, paired_mono h3 fun a b ha h => k _ _ ((hA _).mpr (.inr (.inr ha))) h, hA, r⟩
theorem paired_left {α β : Type} {F : α → β → Prop} : ∀ {l : List α} {m : List β} {a : α}, Paired F l m → a ∈ l → ∃ b, F a b
  | _, _, _, .nil, h => nomatch h
  | _, _, a, .cons (a := x) h t, hm => by
    rcases List.mem_cons.mp hm with e | e
    · subst e; exact ⟨_, h⟩
    · exact paired_left t e
theorem Deck.there {A : Addr → Prop} {H : Hp} {dk a : Addr} {st : DkS} (d : Deck A H dk st) (h : A a) : H a ≠ none := by
  obtain ⟨P, pas, h1, h2, h3, hA, r⟩ := d
  rcases (hA a).mp h with e | e | e
  · subst e; rw [h1]; exact (fun z => nomatch z)
  · subst e; rw [h2]; exact (fun z => nomatch z)
  · obtain ⟨p, hp⟩ := paired_left h3 e
    rw [hp]; exact (fun z => nomatch z)
structure DkAt (A : Addr → Prop) (H0 F H : Hp) (dk : Addr) (st : DkS) : Prop where
  at_ : Deck A H dk st
  nf : ∀ a, A a → F a = none
  n0 : ∀ a, A a → H0 a ≠ none
section
variable {A : Addr → Prop} {F0 H0 F H N H' : Hp} {p dk : Addr} {o : HO} {us : List V} {st st2 : DkS}
theorem DkAt.mk0 (h : Deck A H dk st) (f : ∀ a, A a → F a = none) : DkAt A H F H dk st := ⟨h, f, fun _ => h.there⟩
theorem DkAt.step (d : DkAt A H0 F H dk st) (g : Gr NA F H N H') : DkAt A H0 N H' dk st := ⟨d.at_.keep fun a o _ h => g.keep a o id h, fun a h => g.own a (d.at_.there h) (d.nf a h), d.n0⟩
theorem DkAt.stepA (d : DkAt A H0 F H dk st) (g : Gr A F H N H') (x : Deck A H' dk st2) : DkAt A H0 N H' dk st2 := ⟨x, fun a h => g.own a (d.at_.there h) (d.nf a h), d.n0⟩
theorem DkAt.out (d : DkAt A H0 F H dk st) (w : Ow H0 F H p us) : ¬ A p := fun h => d.n0 p h w.n0
theorem DkAt.mut {ws : List V} (d : DkAt A H0 F H dk st) (w : Ow H0 F H p us) : DkAt A H0 F (upd H p (.lst ws)) dk st :=
  ⟨d.at_.keep fun a o h e => by rw [upd_ne (show a ≠ p from fun z => d.out w (by rw [← z]; exact h))]; exact e, d.nf, d.n0⟩
theorem DkAt.frz (d : DkAt A H0 F H dk st) (w : Ow H0 F H p us) : DkAt A H0 (upd F p (.lst us)) H dk st :=
  ⟨d.at_, fun a h => by rw [upd_ne (show a ≠ p from fun z => d.out w (by rw [← z]; exact h))]; exact d.nf a h, d.n0⟩
theorem Ow.stepA (w : Ow H0 F H p us) (g : Gr A F H N H') (h : ¬ A p) : Ow H0 N H' p us := ⟨g.keep p _ h w.at_, g.own p (by rw [w.at_]; exact (fun z => nomatch z)) w.nf, w.n0⟩
theorem Gr.mutA (G : Gr A F0 H0 F H) (h : A p) (f : F p = none) : Gr A F0 H0 F (upd H p o) :=
  ⟨fun a u na e => by rw [upd_ne (show a ≠ p from fun z => na (by rw [z]; exact h))]; exact G.keep a u na e, fun a e => by
    by_cases z : a = p
    · subst z; rw [upd_same]; exact (fun z => nomatch z)
    · rw [upd_ne z]; exact G.there a e, G.ex, G.sub.mut f, G.own⟩
end
/-! #### a list that is handed in and grown -/
abbrev HdS := List (Option (List Int) × Option (List Int))
def Held (A : Addr → Prop) (F H : Hp) (dk : Addr) (st : HdS) : Prop := (∃ us, H dk = some (.lst us) ∧ Rs F us st) ∧ F dk = none ∧ ∀ a, A a ↔ a = dk
structure HdAt (A : Addr → Prop) (H0 F H : Hp) (dk : Addr) (st : HdS) : Prop where
  at_ : ∃ us, H dk = some (.lst us) ∧ Rs F us st
  nf : F dk = none
  n0 : H0 dk ≠ none
  ia : ∀ a, A a ↔ a = dk
section
variable {A : Addr → Prop} {F0 H0 F H N H' : Hp} {p q dk : Addr} {o : HO} {us : List V} {st : HdS}
theorem HdAt.mk0 (h : Held A F H dk st) : HdAt A H F H dk st := ⟨h.1, h.2.1, by obtain ⟨⟨us, e, _⟩, _⟩ := h; rw [e]; exact (fun z => nomatch z), h.2.2⟩
theorem HdAt.held (h : HdAt A H0 F H dk st) : Held A F H dk st := ⟨h.at_, h.nf, h.ia⟩
theorem HdAt.step (d : HdAt A H0 F H dk st) (g : Gr NA F H N H') : HdAt A H0 N H' dk st := by
  obtain ⟨us, e, r⟩ := d.at_
  exact ⟨⟨us, g.keep dk _ id e, Rs_mono g.ex r⟩, g.own dk (by rw [e]; exact (fun z => nomatch z)) d.nf, d.n0, d.ia⟩
theorem HdAt.out (d : HdAt A H0 F H dk st) (w : Ow H0 F H p us) : p ≠ dk := fun e => d.n0 (by rw [← e]; exact w.n0)
theorem HdAt.mut {ws : List V} (d : HdAt A H0 F H dk st) (w : Ow H0 F H p us) : HdAt A H0 F (upd H p (.lst ws)) dk st := by
  obtain ⟨us, e, r⟩ := d.at_
  exact ⟨⟨us, by rw [upd_ne (d.out w).symm]; exact e, r⟩, d.nf, d.n0, d.ia⟩
theorem HdAt.frz (d : HdAt A H0 F H dk st) (w : Ow H0 F H p us) : HdAt A H0 (upd F p (.lst us)) H dk st := by
  obtain ⟨vs, e, r⟩ := d.at_
  exact ⟨⟨vs, e, Rs_mono w.ex r⟩, by rw [upd_ne (d.out w).symm]; exact d.nf, d.n0, d.ia⟩
theorem HdAt.app {v : V} {x : Option (List Int) × Option (List Int)} (d : HdAt A H0 F H dk st) (r : Rs F us st) (h : R F v x) : HdAt A H0 F (upd H dk (.lst (us ++ [v]))) dk (st ++ [x]) :=
  ⟨⟨_, upd_same, Rs_snoc r h⟩, d.nf, d.n0, d.ia⟩
theorem Gr.transO (G : Gr A F0 H0 F H) (g : Gr (fun a => a = p) F H N H') (h0 : H0 p = none) : Gr A F0 H0 N H' :=
  ⟨fun a o na e => g.keep a o (fun z => by rw [z, h0] at e; exact nomatch e) (G.keep a o na e), fun a e => g.there a (G.there a e), G.ex.trans g.ex, g.sub, fun a e f => g.own a (G.there a e) (G.own a e f)⟩
theorem DkAt.stepO {st : DkS} (d : DkAt A H0 F H dk st) (g : Gr (fun a => a = p) F H N H') (h0 : H0 p = none) : DkAt A H0 N H' dk st :=
  ⟨d.at_.keep fun a o h e => g.keep a o (fun z => d.n0 a h (by rw [z]; exact h0)) e, fun a h => g.own a (d.at_.there h) (d.nf a h), d.n0⟩
theorem Fz.up {v : V} (G : Gr A F0 H0 F H) (z : Fz H v) : Fz H0 v := fun a e => G.fresh (z a e)
end
theorem nonO_of {α : Type} [TD α] {F : Hp} {v : V} (h : R F v (none : Option α)) : v = .non := by cases (show RD F v .none from h); rfl
def optE {α ρ : Type} (o : Option α) (n : Option ρ) (s : α → Option ρ) : Option ρ := match o with | none => n | some x => s x
theorem optE_cases {α ρ : Type} {o : Option α} {n : Option ρ} {s : α → Option ρ} {z : ρ} (h : optE o n s = some z) : (o = none ∧ n = some z) ∨ ∃ x, o = some x ∧ s x = some z := by
  cases o with
  | none => exact .inl ⟨rfl, h⟩
  | some x => exact .inr ⟨x, rfl, h⟩

/-! #### a deck and a list that is handed in and grown, together -/
def AH (A : Addr → Prop) (h : Addr) : Addr → Prop := fun a => A a ∨ a = h
def HeldQ (A : Addr → Prop) (F H : Hp) (hd : Addr) (st : HdS) : Prop := (∃ us, H hd = some (.lst us) ∧ Rs F us st) ∧ F hd = none ∧ ¬ A hd
/-- the list that was handed in: it is changed in place, and stood ahead -/
structure OwP (A : Addr → Prop) (H0 F H : Hp) (p : Addr) (us : List V) : Prop where
  at_ : H p = some (.lst us)
  nf : F p = none
  n0 : H0 p ≠ none
  na : ¬ A p
section
variable {A : Addr → Prop} {F0 H0 F H N H' : Hp} {p q dk : Addr} {o : HO} {us ws : List V} {st st2 : DkS}
theorem OwP.step (w : OwP A H0 F H p us) (g : Gr NA F H N H') : OwP A H0 N H' p us := ⟨g.keep p _ id w.at_, g.own p (by rw [w.at_]; exact (fun z => nomatch z)) w.nf, w.n0, w.na⟩
theorem OwP.stepA (w : OwP A H0 F H p us) (g : Gr A F H N H') : OwP A H0 N H' p us := ⟨g.keep p _ w.na w.at_, g.own p (by rw [w.at_]; exact (fun z => nomatch z)) w.nf, w.n0, w.na⟩
theorem OwP.mut {xs : List V} (w : OwP A H0 F H p us) : OwP A H0 F (upd H p (.lst xs)) p xs := ⟨upd_same, w.nf, w.n0, w.na⟩
theorem OwP.other {xs : List V} (w : OwP A H0 F H p us) (h : q ≠ p) : OwP A H0 F (upd H q (.lst xs)) p us := ⟨by rw [upd_ne h.symm]; exact w.at_, w.nf, w.n0, w.na⟩
theorem OwP.ne_new (w : OwP A H0 F H p us) (hq : H q = none) : p ≠ q := ne_of_none w.at_ hq
theorem OwP.ne (w : OwP A H0 F H p us) (x : Ow H0 F H q ws) : p ≠ q := fun e => w.n0 (by rw [e]; exact x.n0)
theorem OwP.mutG (w : OwP A H0 F H p us) (G : Gr (AH A p) F0 H0 F H) : Gr (AH A p) F0 H0 F (upd H p o) := G.mutA (.inr rfl) w.nf
theorem OwP.frzo (w : OwP A H0 F H p us) (x : Ow H0 F H q ws) : OwP A H0 (upd F q (.lst ws)) H p us := ⟨w.at_, by rw [upd_ne (w.ne x)]; exact w.nf, w.n0, w.na⟩
theorem OwP.mk0 {hst : HdS} (h : HeldQ A F H p hst) : ∃ us, OwP A H F H p us ∧ Rs F us hst := by
  obtain ⟨⟨us, e, r⟩, nf, na⟩ := h
  exact ⟨us, ⟨e, nf, by rw [e]; exact (fun z => nomatch z), na⟩, r⟩
theorem OwP.held {hst : HdS} (w : OwP A H0 F H p us) (r : Rs F us hst) : HeldQ A F H p hst := ⟨⟨us, w.at_, r⟩, w.nf, w.na⟩
theorem Gr.wid (g : Gr A F H N H') : Gr (AH A p) F H N H' := ⟨fun a o na h => g.keep a o (fun z => na (.inl z)) h, g.there, g.ex, g.sub, g.own⟩
theorem Gr.widR (g : Gr (fun a => a = p) F H N H') : Gr (AH A p) F H N H' := ⟨fun a o na h => g.keep a o (fun z => na (.inr z)) h, g.there, g.ex, g.sub, g.own⟩
theorem Gr.transAH (G : Gr A F0 H0 F H) (g : Gr (AH A p) F H N H') (h0 : H0 p = none) : Gr A F0 H0 N H' :=
  ⟨fun a o na e => g.keep a o (fun z => z.elim na fun z => by rw [z, h0] at e; exact nomatch e) (G.keep a o na e), fun a e => g.there a (G.there a e), G.ex.trans g.ex, g.sub, fun a e f => g.own a (G.there a e) (G.own a e f)⟩
theorem DkAt.mutP {xs : List V} (d : DkAt A H0 F H dk st) (w : OwP A H0 F H p us) : DkAt A H0 F (upd H p (.lst xs)) dk st :=
  ⟨d.at_.keep fun a o h e => by rw [upd_ne (show a ≠ p from fun z => w.na (by rw [← z]; exact h))]; exact e, d.nf, d.n0⟩
theorem DkAt.stepP (d : DkAt A H0 F H dk st) (g : Gr (fun a => a = p) F H N H') (na : ¬ A p) : DkAt A H0 N H' dk st :=
  ⟨d.at_.keep fun a o h e => g.keep a o (fun z => na (by rw [← z]; exact h)) e, fun a h => g.own a (d.at_.there h) (d.nf a h), d.n0⟩
theorem DkAt.stepAH (d : DkAt A H0 F H dk st) (g : Gr (AH A p) F H N H') (x : Deck A H' dk st2) : DkAt A H0 N H' dk st2 := ⟨x, fun a h => g.own a (d.at_.there h) (d.nf a h), d.n0⟩
end
/-! #### sorted, and which values it is of -/
def rSortedM (α : Type) [TD α] : List V → Hp → VK → Prop := fun vs H Q => ∃ (a : Addr) (us : List V) (F : Hp) (xs : List α), vs = [.ref a] ∧ H a = some (.lst us) ∧ Sub F H ∧ Rs F us xs ∧ xs.length ≤ 16777216 ∧
  ∀ p ws, H p = none → Rs F ws (sortT xs) → (∀ w ∈ ws, w ∈ us) → Q (.ref p) (upd H p (.lst ws))

section
variable {X : Cx} {α : Type} [TD α] [TB α] [SO α]
theorem each_ofM {F : Hp} {ms : List V} : ∀ {us : List V} {vs : List Value} {xs : List α}, (∀ u ∈ us, u ∈ ms) → Vals us vs → Rs F us xs → PySem.W.EachIs (fun v x => ∃ u, RelV u v ∧ R F u x ∧ u ∈ ms) vs xs
  | _, _, [], _, r, q => by
    cases q
    cases r; exact .nil
  | _, _, x :: xs, hm, r, q => by
    cases q with
    | cons h1 h2 => cases r with | cons r1 r2 => exact .cons ⟨_, r1, h1, hm _ List.mem_cons_self⟩ (each_ofM (fun u hu => hm u (List.mem_cons_of_mem _ hu)) r2 h2)
theorem of_eachM {F : Hp} {ms : List V} : ∀ {vs : List Value} {xs : List α}, PySem.W.EachIs (fun v x => ∃ u, RelV u v ∧ R F u x ∧ u ∈ ms) vs xs → ∃ us, Vals us vs ∧ Rs F us xs ∧ ∀ u ∈ us, u ∈ ms
  | _, _, .nil => ⟨[], .nil, .nil, fun _ h => absurd h List.not_mem_nil⟩
  | _, _, .cons ⟨u, h1, h2, h3⟩ t => by
    obtain ⟨us, a, b, c⟩ := of_eachM t
    exact ⟨u :: us, .cons h1 a, .cons h2 b, fun w hw => (List.mem_cons.mp hw).elim (fun e => by rw [e]; exact h3) (c w)⟩
theorem call_sortedM (hd : TB.dep α ≤ 60) (hu : X.A.units + 200 < cLine) : CallR X (.builtin "sorted") (rSortedM α) := by
  intro pins s σ H vs us0 Q I r h
  obtain ⟨a, us, F, xs, rfl, ha, sb, hr, hl, q⟩ := h
  have hS : SqL X.K H a us := .inl (.inl ha)
  obtain ⟨its, rv, hli, _⟩ := I.list hS
  rw [Vals.ref1 r]
  have e1 := each_ofM (ms := us) (fun _ h => h) rv hr
  have reads : PySem.W.EachIs (fun v x => ∃ as, Reads s.heap v (TD.d x) as) its xs := e1.mono fun v x ⟨u, r1, r2, _⟩ => Dp.reads I _ u v (r2.dpL (K := X.K) sb (TB.lay x)) r1
  refine PySem.W.sorted_data (enc := TD.d) (R := fun v x => ∃ u, RelV u v ∧ R F u x ∧ u ∈ us) hli.isList e1 reads (PySem.W.AllAlike.of SO.alike) ?_ (by rw [sizeLine_eq]; exact hl) (fun x _ => ?_) fun out hlen eo => ?_
  · rcases SO.kind (α := α) with k | k
    · exact PySem.W.Sortable.tuples k
    · exact PySem.W.Sortable.others fun x => ⟨SO.nn x, k x⟩
  · have h1 := TB.dle x
    omega
  · obtain ⟨ws, w1, w2, w3⟩ := of_eachM eo
    obtain ⟨ep, he'⟩ := PyProof.Rows.sortedAll_at s.heap its out.toArray
    have hz : ws.length ≤ sizeLine := by rw [Rs_len w2, sizeLine_eq]; show (sortT xs).length ≤ _; rw [sortT_len]; exact hl
    exact ⟨.ref _, upd H (s.heap.objs.size + 1) (.lst ws), I.laid (t' := s.toks) (fun _ _ => PyProof.Rows.sortedAll_old) (Nat.le_succ _) ⟨hz, out, ep, w1, he'⟩, rfl, q _ ws (I.hok.fresh (Nat.le_succ _)) w2 w3⟩
end

/-- one draw -/
def mixD (x t many : Int) : Int :=
  let a := (x % 99999999977 + 700001 * t) % 99999999947
  let b := a * a % 99999999821
  let c := b * (b + 19) % 9999999967
  c / 13 % many
def _law_draw (st : DkS) (many : Int) : Option (Int × DkS) :=
  if Dv many then
    (st.1[(st.2 % (st.1.length : Int)).toNat]?).bind fun p =>
      if p.2.1 = 1 ∧ 0 < p.1 then some (p.1 % many, (st.1.set (st.2 % (st.1.length : Int)).toNat (p.1 / many, p.2.1, p.2.2), st.2 + 1))
      else some (mixD p.1 (p.2.2 + 1) many, (st.1.set (st.2 % (st.1.length : Int)).toNat (p.1, p.2.1, p.2.2 + 1), st.2 + 1))
  else none
def poolOf (cells : List Int) (k : Nat) : Int × Int × Int :=
  let cell := cells.getD k 0
  (cell, (if decide ((10 : Int) ^ (18 : Int).toNat ≤ cell) = true then 1 else 0), 31 * (k : Int))
def deckLen (cells : List Int) : Nat := max 1 (min 63 cells.length)
def mkDeck (cells : List Int) : DkS := ((List.range (deckLen cells)).map (poolOf cells), 0)

/-! #### a constant of the module -/
structure CAt (mg : Str → Option Value) (nm : Str) (i : Int) where
  t : Tok
  g : mg nm = some (.int i t)

/-! #### a def of the text, where it stands -/
structure FnAt (K : PySem.W.Frag) (mg : Str → Option Value) (nm : Str) (st : Stmt) (ps : List Str) where
  f : Addr
  fd : FuncData
  F : Fun K nm nm st f fd
  g : mg nm = some (.ref f)
  b : Binds K fd ps []
end My

namespace My
open PySem PySem.Spec PyProof.Rows L2
/-! #### data whose lists are all new -/
mutual
inductive RN (H0 F : Hp) : V → PyData → Prop
  | non : RN H0 F .non .none
  | bl (b : Bool) : RN H0 F (.bl b) (.bool b)
  | int (i : Int) : RN H0 F (.int i) (.int i)
  | str (x : Str) : RN H0 F (.str x) (.str x)
  | lst {a : Addr} {us : List V} {ds : List PyData} : H0 a = none → F a = some (.lst us) → RNs H0 F us ds → RN H0 F (.ref a) (.list ds)
  | tup {a : Addr} {us : List V} {ds : List PyData} : F a = some (.tup us) → RNs H0 F us ds → RN H0 F (.ref a) (.tuple ds)
inductive RNs (H0 F : Hp) : List V → List PyData → Prop
  | nil : RNs H0 F [] []
  | cons {v : V} {us : List V} {d : PyData} {ds : List PyData} : RN H0 F v d → RNs H0 F us ds → RNs H0 F (v :: us) (d :: ds)
end
mutual
theorem RN.rd {H0 F : Hp} : ∀ {d : PyData} {v : V}, RN H0 F v d → RD F v d
  | _, _, .non => .non
  | _, _, .bl b => .bl b
  | _, _, .int i => .int i
  | _, _, .str x => .str x
  | _, _, .lst _ h r => .lst h (RNs.rds r)
  | _, _, .tup h r => .tup h (RNs.rds r)
theorem RNs.rds {H0 F : Hp} : ∀ {ds : List PyData} {us : List V}, RNs H0 F us ds → RDs F us ds
  | _, _, .nil => .nil
  | _, _, .cons h r => .cons (RN.rd h) (RNs.rds r)
end
mutual
theorem RN.mono {H0 F N : Hp} (s : Sub F N) : ∀ {d : PyData} {v : V}, RN H0 F v d → RN H0 N v d
  | _, _, .non => .non
  | _, _, .bl b => .bl b
  | _, _, .int i => .int i
  | _, _, .str x => .str x
  | _, _, .lst n h r => .lst n (s _ _ h) (RNs.mono s r)
  | _, _, .tup h r => .tup (s _ _ h) (RNs.mono s r)
theorem RNs.mono {H0 F N : Hp} (s : Sub F N) : ∀ {ds : List PyData} {us : List V}, RNs H0 F us ds → RNs H0 N us ds
  | _, _, .nil => .nil
  | _, _, .cons h r => .cons (RN.mono s h) (RNs.mono s r)
end
mutual
/-- new ahead of a later heap, new ahead of an earlier one -/
theorem RN.up {H1 H0 F : Hp} (s : ∀ a, H1 a = none → H0 a = none) : ∀ {d : PyData} {v : V}, RN H1 F v d → RN H0 F v d
  | _, _, .non => .non
  | _, _, .bl b => .bl b
  | _, _, .int i => .int i
  | _, _, .str x => .str x
  | _, _, .lst n h r => .lst (s _ n) h (RNs.up s r)
  | _, _, .tup h r => .tup h (RNs.up s r)
theorem RNs.up {H1 H0 F : Hp} (s : ∀ a, H1 a = none → H0 a = none) : ∀ {ds : List PyData} {us : List V}, RNs H1 F us ds → RNs H0 F us ds
  | _, _, .nil => .nil
  | _, _, .cons h r => .cons (RN.up s h) (RNs.up s r)
end
theorem RNs.append {H0 F : Hp} : ∀ {us ws : List V} {ds es : List PyData}, RNs H0 F us ds → RNs H0 F ws es → RNs H0 F (us ++ ws) (ds ++ es)
  | _, _, _, _, .nil, s => s
  | _, _, _, _, .cons h r, s => .cons h (RNs.append r s)
mutual
theorem RN.of {H0 F : Hp} : ∀ {d d' : PyData} {v : V}, RN H0 F v d' → RD F v d → RN H0 F v d
  | _, _, _, .non, r => by cases r; exact .non
  | _, _, _, .bl b, r => by cases r; exact .bl b
  | _, _, _, .int i, r => by cases r; exact .int i
  | _, _, _, .str x, r => by cases r; exact .str x
  | _, _, _, .lst n h q, r => by
    cases r with
    | lst h' q' => rw [h] at h'; cases h'; exact .lst n h (RNs.of q q')
    | tup h' q' => rw [h] at h'; cases h'
    | dic h' q' => rw [h] at h'; cases h'
  | _, _, _, .tup h q, r => by
    cases r with
    | dic h' q' => rw [h] at h'; cases h'
    | lst h' q' => rw [h] at h'; cases h'
    | tup h' q' => rw [h] at h'; cases h'; exact .tup h (RNs.of q q')
theorem RNs.of {H0 F : Hp} : ∀ {ds ds' : List PyData} {us : List V}, RNs H0 F us ds' → RDs F us ds → RNs H0 F us ds
  | _, _, _, .nil, r => by cases r; exact .nil
  | _, _, _, .cons h q, r => by cases r with | cons h' q' => exact .cons (RN.of h h') (RNs.of q q')
end
theorem RNs.mem {H0 F : Hp} : ∀ {us : List V} {ds : List PyData} {u : V}, RNs H0 F us ds → u ∈ us → ∃ d, RN H0 F u d
  | _, _, _, .nil, h => absurd h List.not_mem_nil
  | _, _, u, .cons h r, hm => by
    rcases List.mem_cons.mp hm with e | e
    · subst e; exact ⟨_, h⟩
    · exact RNs.mem r e
theorem RNs.sub {H0 F : Hp} {us : List V} {ds : List PyData} (r : RNs H0 F us ds) : ∀ {ws : List V} {es : List PyData}, (∀ w ∈ ws, w ∈ us) → RDs F ws es → RNs H0 F ws es
  | _, _, _, .nil => .nil
  | _, _, k, .cons h q => by
    obtain ⟨d, hd⟩ := r.mem (k _ List.mem_cons_self)
    exact .cons (hd.of h) (RNs.sub r (fun w hw => k w (List.mem_cons_of_mem _ hw)) q)
abbrev NR {α : Type} [TD α] (H0 F : Hp) (v : V) (x : α) : Prop := RN H0 F v (TD.d x)
abbrev NRs {α : Type} [TD α] (H0 F : Hp) (us : List V) (xs : List α) : Prop := RNs H0 F us (xs.map TD.d)
section
variable {α β : Type} [TD α] [TD β] {H0 F N : Hp} {v u : V} {us ws : List V} {xs ys : List α} {x : α}
theorem NR_lst_of (h : NR H0 F v xs) : ∃ a us, v = .ref a ∧ F a = some (.lst us) ∧ NRs H0 F us xs ∧ H0 a = none := by
  cases h with | lst n h r => exact ⟨_, _, rfl, h, r, n⟩
theorem NR_tup2_of {p : α × β} (h : NR H0 F v p) : ∃ a v1 v2, v = .ref a ∧ F a = some (.tup [v1, v2]) ∧ NR H0 F v1 p.1 ∧ NR H0 F v2 p.2 := by
  cases h with | tup h r => cases r with | cons h1 r => cases r with | cons h2 r => cases r; exact ⟨_, _, _, rfl, h, h1, h2⟩
theorem NRs_nil : NRs (α := α) H0 F [] [] := .nil
theorem NRs_cons (h : NR H0 F u x) (r : NRs H0 F us xs) : NRs H0 F (u :: us) (x :: xs) := .cons h r
theorem NRs_snoc (r : NRs H0 F us xs) (h : NR H0 F u x) : NRs H0 F (us ++ [u]) (xs ++ [x]) := by
  unfold NRs; rw [List.map_append]; exact RNs.append r (.cons h .nil)
theorem NRs_mono (s : Sub F N) (r : NRs H0 F us xs) : NRs H0 N us xs := RNs.mono s r
theorem NRs_rs (r : NRs H0 F us xs) : Rs F us xs := RNs.rds r
theorem NR_r (r : NR H0 F v x) : R F v x := RN.rd r
theorem NRs_sub (r : NRs H0 F us xs) (k : ∀ w ∈ ws, w ∈ us) (q : Rs F ws ys) : NRs H0 F ws ys := RNs.sub r k q
theorem NRs_mem (r : NRs H0 F us xs) (k : u ∈ us) (q : R F u x) : NR H0 F u x := by
  obtain ⟨d, hd⟩ := RNs.mem r k
  exact hd.of q
theorem NRs_flatI {us : List V} {xs : List Int} (r : Rs F us xs) : NRs H0 F us xs := by
  induction xs generalizing us with
  | nil => cases r; exact .nil
  | cons x xs ih => cases r with | cons h r => cases h; exact .cons (.int _) (ih r)
theorem mkN_lst {a : Addr} (n : H0 a = none) (h : F a = some (.lst us)) (r : NRs H0 F us xs) : NR H0 F (.ref a) xs := .lst n h r
theorem mkN_tup2 {a : Addr} {v1 v2 : V} {p : α × β} (h : F a = some (.tup [v1, v2])) (h1 : NR H0 F v1 p.1) (h2 : NR H0 F v2 p.2) : NR H0 F (.ref a) p := .tup h (.cons h1 (.cons h2 .nil))
theorem NRs_cut {lo hi : Option Int} (r : NRs H0 F us xs) : NRs H0 F (cutV us lo hi) (cutT xs lo hi) :=
  NRs_sub r (fun w hw => by unfold cutV at hw; exact List.mem_of_mem_drop (List.mem_of_mem_take hw)) (Rs_cut (NRs_rs r))
end

/-! #### a list of lists that is all ours -/
structure OwL (H0 F H : Hp) (p : Addr) (as : List Addr) (xs : List (List Int)) : Prop where
  at_ : H p = some (.lst (as.map V.ref))
  it : Paired (fun a (x : List Int) => H a = some (.lst (x.map V.int))) as xs
  nd : (p :: as).Nodup
  nf : ∀ a ∈ p :: as, F a = none
  n0 : ∀ a ∈ p :: as, H0 a = none
theorem prd_mono {α β : Type} {F G : α → β → Prop} {l : List α} {m : List β} (p : Paired F l m) (f : ∀ a b, a ∈ l → F a b → G a b) : Paired G l m := paired_mono p f
theorem prd_get {α β : Type} {F : α → β → Prop} : ∀ {l : List α} {m : List β} {i : Nat} {b : β}, Paired F l m → m[i]? = some b → ∃ a, l[i]? = some a ∧ F a b
  | _, _, _, _, .nil, e => by simp at e
  | _, _, 0, _, .cons h _, e => by simp at e; subst e; exact ⟨_, rfl, h⟩
  | _, _, i + 1, _, .cons _ t, e => by
    obtain ⟨a, h1, h2⟩ := prd_get (i := i) t (by simpa using e)
    exact ⟨a, by simpa using h1, h2⟩
theorem prd_getL {α β : Type} {F : α → β → Prop} : ∀ {l : List α} {m : List β} {i : Nat} {a : α}, Paired F l m → l[i]? = some a → ∃ b, m[i]? = some b ∧ F a b
  | _, _, _, _, .nil, e => by simp at e
  | _, _, 0, _, .cons h _, e => by simp at e; subst e; exact ⟨_, rfl, h⟩
  | _, _, i + 1, _, .cons _ t, e => by
    obtain ⟨a, h1, h2⟩ := prd_getL (i := i) t (by simpa using e)
    exact ⟨a, by simpa using h1, h2⟩
theorem prd_len {α β : Type} {F : α → β → Prop} : ∀ {l : List α} {m : List β}, Paired F l m → l.length = m.length
  | _, _, .nil => rfl
  | _, _, .cons _ t => by simp [prd_len t]
theorem prd_left {α β : Type} {F : α → β → Prop} : ∀ {l : List α} {m : List β} {a : α}, Paired F l m → a ∈ l → ∃ b, b ∈ m ∧ F a b
  | _, _, _, .nil, h => absurd h List.not_mem_nil
  | _, _, a, .cons h t, hm => by
    rcases List.mem_cons.mp hm with e | e
    · subst e; exact ⟨_, List.mem_cons_self, h⟩
    · obtain ⟨b, hb, hf⟩ := prd_left t e
      exact ⟨b, List.mem_cons_of_mem _ hb, hf⟩
theorem prd_set {α β : Type} {F G : α → β → Prop} : ∀ {l : List α} {m : List β} {i : Nat} {a : α} {b : β}, Paired F l m → l[i]? = some a → l.Nodup → (∀ a' b', a' ∈ l → a' ≠ a → F a' b' → G a' b') → G a b → Paired G l (m.set i b)
  | _, _, _, _, _, .nil, e, _, _, _ => by simp at e
  | _, _, 0, a, b, .cons (a := x) h t, e, nd, f, g => by
    simp at e; subst e
    refine .cons g ?_
    have nd' := List.nodup_cons.mp nd
    exact paired_mono t fun a' b' ha hF => f a' b' (List.mem_cons_of_mem _ ha) (fun z => nd'.1 (z ▸ ha)) hF
  | _, _, i + 1, a, b, .cons (a := x) h t, e, nd, f, g => by
    have nd' := List.nodup_cons.mp nd
    have e' := e
    simp at e'
    refine .cons (f _ _ List.mem_cons_self (fun z => ?_) h) (prd_set (i := i) t e' nd'.2 (fun a' b' ha => f a' b' (List.mem_cons_of_mem _ ha)) g)
    rw [z] at nd'
    exact nd'.1 (List.mem_of_getElem? e')
theorem prd_snoc {α β : Type} {F : α → β → Prop} {a : α} {b : β} : ∀ {l : List α} {m : List β}, Paired F l m → F a b → Paired F (l ++ [a]) (m ++ [b])
  | _, _, .nil, h => .cons h .nil
  | _, _, .cons g t, h => .cons g (prd_snoc t h)
theorem map_int_inj {x y : List Int} (h : x.map V.int = y.map V.int) : x = y := by
  induction x generalizing y with
  | nil => cases y with
    | nil => rfl
    | cons => cases h
  | cons a x ih => cases y with
    | nil => cases h
    | cons b y =>
      rw [List.map_cons, List.map_cons, List.cons.injEq] at h
      obtain ⟨h1, h2⟩ := h
      cases h1
      rw [ih h2]
theorem addrs_of {H0 F : Hp} : ∀ {us : List V} {xs : List (List Int)}, NRs H0 F us xs → ∃ as : List Addr, us = as.map V.ref ∧ Paired (fun a (x : List Int) => F a = some (.lst (x.map V.int)) ∧ H0 a = none) as xs
  | _, [], r => by cases r; exact ⟨[], rfl, .nil⟩
  | _, x :: xs, r => by
    cases r with
    | cons h r =>
      obtain ⟨as, rfl, p⟩ := addrs_of (xs := xs) r
      obtain ⟨a, ws, rfl, fa, fr, n⟩ := NR_lst_of h
      exact ⟨a :: as, rfl, .cons ⟨by rw [fa, Rs_int (NRs_rs fr)], n⟩ p⟩
theorem nodup_prd {F : Hp} {H0 : Hp} : ∀ {as : List Addr} {xs : List (List Int)}, Paired (fun a (x : List Int) => F a = some (.lst (x.map V.int)) ∧ H0 a = none) as xs → xs.Nodup → as.Nodup
  | _, _, .nil, _ => List.nodup_nil
  | _, _, .cons h t, nd => by
    have nd' := List.nodup_cons.mp nd
    refine List.nodup_cons.mpr ⟨fun hm => ?_, nodup_prd t nd'.2⟩
    obtain ⟨y, hy, e, _⟩ := prd_left t hm
    rw [h.1] at e
    have e2 := HO.lst.inj (Option.some.inj e)
    rw [map_int_inj e2] at nd'
    exact nd'.1 hy
section
variable {A B : Addr → Prop} {F0 H0 F H N H' : Hp} {p q dk : Addr} {as : List Addr} {us ws : List V} {xs : List (List Int)} {x y : List Int} {st st2 : DkS} {o : HO}
theorem OwL.of (G : Gr A F0 H0 F H) (g : Gr B F H N H') (r : NR H N (.ref p) xs) (nd : xs.Nodup) : ∃ as, OwL H0 F H' p as xs ∧ ∀ a ∈ p :: as, H a = none := by
  obtain ⟨p', us, e, fa, fr, np⟩ := NR_lst_of r
  cases e
  obtain ⟨as, rfl, pr⟩ := addrs_of fr
  have fz : ∀ a ∈ p :: as, H a = none := fun a ha => by
    rcases List.mem_cons.mp ha with e | e
    · rw [e]; exact np
    · obtain ⟨_, _, _, n⟩ := prd_left pr e
      exact n
  refine ⟨as, ⟨g.sub _ _ fa, paired_mono pr fun a x _ h => g.sub _ _ h.1, List.nodup_cons.mpr ⟨fun hm => ?_, nodup_prd pr nd⟩, fun a ha => G.sub.none (fz a ha), fun a ha => G.fresh (fz a ha)⟩, fz⟩
  obtain ⟨x, _, e, _⟩ := prd_left pr hm
  rw [fa] at e
  have e2 := HO.lst.inj (Option.some.inj e)
  cases as with
  | nil => exact absurd hm List.not_mem_nil
  | cons b as =>
    cases x with
    | nil => cases e2
    | cons i x => cases (List.cons.inj e2).1
theorem OwL.mem (w : OwL H0 F H p as xs) {a : Addr} (h : a ∈ as) : ∃ x : List Int, H a = some (.lst (x.map V.int)) := by
  obtain ⟨x, _, e⟩ := prd_left w.it h
  exact ⟨x, e⟩
theorem OwL.some_ (w : OwL H0 F H p as xs) : ∀ a ∈ p :: as, H a ≠ none := fun a ha => by
  rcases List.mem_cons.mp ha with e | e
  · rw [e, w.at_]; exact (fun z => nomatch z)
  · obtain ⟨x, e⟩ := w.mem e
    rw [e]; exact (fun z => nomatch z)
theorem OwL.len (w : OwL H0 F H p as xs) : as.length = xs.length := prd_len w.it
theorem OwL.keep (w : OwL H0 F H p as xs) (k : ∀ a o, a ∈ p :: as → H a = some o → H' a = some o) (nf : ∀ a ∈ p :: as, N a = none) : OwL H0 N H' p as xs :=
  ⟨k _ _ List.mem_cons_self w.at_, paired_mono w.it fun a x ha h => k _ _ (List.mem_cons_of_mem _ ha) h, w.nd, nf, w.n0⟩
theorem OwL.step (w : OwL H0 F H p as xs) (g : Gr NA F H N H') : OwL H0 N H' p as xs := w.keep (fun a o _ h => g.keep a o id h) fun a ha => g.own a (w.some_ a ha) (w.nf a ha)
theorem OwL.stepA (w : OwL H0 F H p as xs) (g : Gr A F H N H') (h : ∀ a ∈ p :: as, ¬ A a) : OwL H0 N H' p as xs := w.keep (fun a o ha e => g.keep a o (h a ha) e) fun a ha => g.own a (w.some_ a ha) (w.nf a ha)
theorem OwL.other (w : OwL H0 F H p as xs) (h : q ∉ p :: as) : OwL H0 F (upd H q (.lst ws)) p as xs := w.keep (fun a o ha e => by rw [upd_ne (show a ≠ q from fun z => h (by rw [← z]; exact ha))]; exact e) w.nf
theorem OwL.frzo (w : OwL H0 F H p as xs) (h : q ∉ p :: as) (x : Ow H0 F H q ws) : OwL H0 (upd F q (.lst ws)) H p as xs := w.keep (fun _ _ _ e => e) fun a ha => by rw [upd_ne (show a ≠ q from fun z => h (by rw [← z]; exact ha))]; exact w.nf a ha
theorem OwL.ne_new (w : OwL H0 F H p as xs) (hq : H q = none) : q ∉ p :: as := fun h => w.some_ q h hq
theorem Gr.subN (g : Gr NA F H N H') : Sub H H' := fun a o e => g.keep a o id e
theorem OwL.ne_push {r : Addr} (h : r ∉ p :: as) (k : r ≠ q) : r ∉ p :: (as ++ [q]) := fun hm => by
  rcases List.mem_cons.mp hm with e | e
  · exact h (by rw [e]; exact List.mem_cons_self)
  · rcases List.mem_append.mp e with e | e
    · exact h (List.mem_cons_of_mem _ e)
    · exact k (List.mem_singleton.mp e)
theorem Ow.ne_fz {l : List Addr} (w : Ow H0 F H q us) (fz : ∀ a ∈ l, H a = none) : q ∉ l := fun h => by have := fz q h; rw [w.at_] at this; cases this
theorem OwP.ne_l {hd : Addr} (w : OwP A H0 F H hd us) (x : OwL H0 N H' p as xs) : hd ∉ p :: as := fun h => w.n0 (x.n0 hd h)
theorem DkAt.outL (d : DkAt A H0 F H dk st) (w : OwL H0 F H p as xs) : ∀ a ∈ p :: as, ¬ A a := fun a ha h => d.n0 a h (w.n0 a ha)
theorem OwL.read (w : OwL H0 F H p as xs) : Rs H (as.map V.ref) xs := by
  have : ∀ {as : List Addr} {xs : List (List Int)}, Paired (fun a (x : List Int) => H a = some (.lst (x.map V.int))) as xs → Rs H (as.map V.ref) xs := by
    intro as xs pr
    induction pr with
    | nil => exact .nil
    | cons h _ ih => exact .cons (mk_lst h (int_Rs _)) ih
  exact this w.it
theorem OwL.rd (w : OwL H0 F H p as xs) : R H (.ref p) xs := mk_lst w.at_ w.read
theorem OwL.item (w : OwL H0 F H p as xs) {j : Nat} {a : Addr} (ha : as[j]? = some a) (hx : xs[j]? = some x) : H a = some (.lst (x.map V.int)) := by
  obtain ⟨b, e, h⟩ := prd_get w.it hx
  rw [ha] at e; cases e; exact h
theorem OwL.ix (w : OwL H0 F H p as xs) {i : Int} (h : atI xs i = some x) : ∃ (j : Nat) (a : Addr), ixN xs.length i = some j ∧ xs[j]? = some x ∧ as[j]? = some a ∧ atI (as.map V.ref) i = some (.ref a) := by
  unfold atI at h
  cases e : ixN xs.length i with
  | none => rw [e] at h; cases h
  | some j =>
    rw [e] at h
    have h' : xs[j]? = some x := h
    obtain ⟨a, e2, _⟩ := prd_get w.it h'
    refine ⟨j, a, rfl, h', e2, ?_⟩
    unfold atI
    rw [List.length_map, w.len, e]
    show (as.map V.ref)[j]? = _
    rw [List.getElem?_map, e2]; rfl
theorem OwL.ix2 (w : OwL H0 F H p as xs) {i : Int} (h : atI xs i = some x) : ∃ a : Addr, xs[(ixN xs.length i).getD 0]? = some x ∧ as[(ixN xs.length i).getD 0]? = some a ∧ atI (as.map V.ref) i = some (.ref a) := by
  obtain ⟨j, a, e, h1, h2, h3⟩ := w.ix h
  exact ⟨a, by rw [e]; exact h1, by rw [e]; exact h2, h3⟩
theorem OwL.set_get (w : OwL H0 F H p as xs) {j : Nat} {a : Addr} (ha : as[j]? = some a) : (xs.set j y)[j]? = some y := by
  have h := (List.getElem?_eq_some_iff.mp ha).1
  rw [w.len] at h
  rw [List.getElem?_set_self h]
theorem OwL.cut {lo hi : Option Int} (w : OwL H0 F (upd H q (.lst (cutV (as.map V.ref) lo hi))) p as xs) : R (upd H q (.lst (cutV (as.map V.ref) lo hi))) (.ref q) (cutT xs lo hi) := mk_lst upd_same (Rs_cut w.read)
theorem OwL.memA {j : Nat} {a : Addr} (ha : as[j]? = some a) : a ∈ p :: as := List.mem_cons_of_mem _ (List.mem_of_getElem? ha)
theorem OwL.put (w : OwL H0 F H p as xs) {j : Nat} {a : Addr} (ha : as[j]? = some a) (hu : us = y.map V.int) : OwL H0 F (upd H a (.lst us)) p as (xs.set j y) := by
  subst hu
  have nd := List.nodup_cons.mp w.nd
  have hm := List.mem_of_getElem? ha
  refine ⟨by rw [upd_ne (show p ≠ a from fun z => nd.1 (by rw [z]; exact hm))]; exact w.at_, prd_set w.it ha nd.2 (fun a' b' _ ne h => by rw [upd_ne ne]; exact h) upd_same, w.nd, w.nf, w.n0⟩
theorem OwL.mutG (w : OwL H0 F H p as xs) {a : Addr} (ha : a ∈ p :: as) (G : Gr A F0 H0 F H) : Gr A F0 H0 F (upd H a o) := G.mut (w.n0 a ha) (w.nf a ha)
theorem OwL.ne_it {a : Addr} (h : q ∉ p :: as) (ha : a ∈ p :: as) : a ≠ q := fun z => h (by rw [← z]; exact ha)
theorem OwL.push (w : OwL H0 F H p as xs) (x : Ow H0 F H q us) (h : q ∉ p :: as) (r : Rs N us y) : OwL H0 F (upd H p (.lst (as.map V.ref ++ [.ref q]))) p (as ++ [q]) (xs ++ [y]) := by
  have nd := List.nodup_cons.mp w.nd
  have hq := x.at_
  rw [Rs_int r] at hq
  have mm : ∀ a, a ∈ p :: (as ++ [q]) → a ∈ p :: as ∨ a = q := fun a ha => by
    rcases List.mem_cons.mp ha with e | e
    · exact .inl (by rw [e]; exact List.mem_cons_self)
    · rcases List.mem_append.mp e with e | e
      · exact .inl (List.mem_cons_of_mem _ e)
      · exact .inr (List.mem_singleton.mp e)
  have hpq : q ≠ p := fun z => h (by rw [z]; exact List.mem_cons_self)
  have hqa : q ∉ as := fun z => h (List.mem_cons_of_mem _ z)
  refine ⟨by rw [upd_same, List.map_append]; rfl, prd_snoc (paired_mono w.it fun a b ha e => by rw [upd_ne (show a ≠ p from fun z => nd.1 (by rw [← z]; exact ha))]; exact e) (by rw [upd_ne hpq]; exact hq), ?_, fun a ha => (mm a ha).elim (w.nf a) fun e => by rw [e]; exact x.nf, fun a ha => (mm a ha).elim (w.n0 a) fun e => by rw [e]; exact x.n0⟩
  refine List.nodup_cons.mpr ⟨fun hm => ?_, List.nodup_append.mpr ⟨nd.2, by simp, fun a ha b hb e => hqa (by rw [← List.mem_singleton.mp hb, ← e]; exact ha)⟩⟩
  rcases List.mem_append.mp hm with e | e
  · exact nd.1 e
  · exact hpq (List.mem_singleton.mp e).symm
theorem OwL.clear (w : OwL H0 F H p as xs) : OwL H0 F (upd H p (.lst [])) p [] [] :=
  ⟨upd_same, .nil, by simp, fun a ha => w.nf a (by rw [List.mem_singleton.mp ha]; exact List.mem_cons_self), fun a ha => w.n0 a (by rw [List.mem_singleton.mp ha]; exact List.mem_cons_self)⟩
theorem DkAt.mutL (d : DkAt A H0 F H dk st) (w : OwL H0 F H p as xs) {a : Addr} (ha : a ∈ p :: as) : DkAt A H0 F (upd H a (.lst ws)) dk st :=
  ⟨d.at_.keep fun b o h e => by rw [upd_ne (show b ≠ a from fun z => d.outL w a ha (by rw [← z]; exact h))]; exact e, d.nf, d.n0⟩
end
section
variable {K : PySem.W.Frag} {g : TG} {tb : TS} {D : Ends} {σ : L2.St} {H : Hp}
theorem range_get {n j : Nat} (h : j < n) : (List.range n)[j]? = some j := by simp [h]
theorem for_ll {a : Addr} {as : List Addr} (W : List Nat → L2.St → Hp → Prop) (h0 : W (List.range as.length) σ H) (hf : ∀ ts σ H, W ts σ H → H a = some (.lst (as.map V.ref)))
    (hs : ∀ j ts b σ H, as[j]? = some b → W (j :: ts) σ H → g (.ref b) σ H fun σ2 H2 => tb { D with nx := W ts, ct := W ts, bk := D.nx } σ2 H2) (hd : ∀ σ H, W [] σ H → D.nx σ H) :
    ∃ W : Nat → Nat → L2.St → Hp → Prop, (∃ m, W 0 m σ H) ∧ ∀ i m σ H, W i m σ H →
      ((Itl K a).stop i H ∧ D.nx σ H) ∨ ((Itl K a).go i H ∧ ∃ N : L2.St → Hp → Prop, (∀ σ' H', N σ' H' → ∃ m', m' < m ∧ W (i + 1) m' σ' H') ∧ ∀ x H', (Itl K a).yld i H x H' → g x σ H' fun σ2 H2 => tb { D with nx := N, ct := N, bk := D.nx } σ2 H2) := by
  refine for_list (xs := as.map V.ref) (fun i σ H => W ((List.range as.length).drop i) σ H) (by rw [List.drop_zero]; exact h0) (fun i σ H _ h => .inl (.inl (hf _ σ H h))) (fun i v σ H e h => ?_) fun σ H h => ?_
  · rw [List.getElem?_map] at e
    cases e2 : as[i]? with
    | none => rw [e2] at e; cases e
    | some b =>
      rw [e2] at e
      cases e
      have hi := (List.getElem?_eq_some_iff.mp e2).1
      have h' : W ((List.range as.length).drop i) σ H := h
      rw [drop_cons (range_get hi)] at h'
      exact hs i _ b σ H e2 h'
  · have h' : W ((List.range as.length).drop (as.map V.ref).length) σ H := h
    rw [List.length_map, List.drop_of_length_le (by rw [List.length_range]; exact Nat.le_refl _)] at h'
    exact hd σ H h'
variable {tt : TT} {te : TE} {vs : List Nat} {H1 : Hp} {Dl : Addr} {Qd : Hp → Prop}
theorem lc_ll {a : Addr} {as : List Addr} (W : List Nat → Hp → Prop) (h0 : W (List.range as.length) (upd H1 Dl (.lst []))) (hf : ∀ ts H, W ts H → H a = some (.lst (as.map V.ref)))
    (hs : ∀ j ts b H, as[j]? = some b → W (j :: ts) H → g (.ref b) (wipe σ vs) H fun σ2 H2 => wipe σ2 vs = wipe σ vs ∧ tt σ2 H2 fun b H3 =>
        if b = true then te σ2 H3 fun y H4 => ∃ acc, H4 Dl = some (HO.lst acc) ∧ acc.length < sizeLine ∧ W ts (upd H4 Dl (HO.lst (acc ++ [y]))) else W ts H3) (hd : ∀ H, W [] H → Qd H) :
    ∃ W : Nat → Nat → Hp → Prop, (∃ m, W 0 m (upd H1 Dl (HO.lst []))) ∧ ∀ (i m : Nat) (H : Hp), W i m H → (Itl K a).stop i H ∧ Qd H ∨
      (Itl K a).go i H ∧ ∃ Nx : Hp → Prop, (∀ (H' : Hp), Nx H' → ∃ m', m' < m ∧ W (i + 1) m' H') ∧ ∀ (x : V) (H' : Hp), (Itl K a).yld i H x H' →
        g x (wipe σ vs) H' fun σ2 H2 => wipe σ2 vs = wipe σ vs ∧ tt σ2 H2 fun b H3 => if b = true then te σ2 H3 fun y H4 => ∃ acc, H4 Dl = some (HO.lst acc) ∧ acc.length < sizeLine ∧ Nx (upd H4 Dl (HO.lst (acc ++ [y]))) else Nx H3 := by
  refine lc_list (xs := as.map V.ref) (fun i H => W ((List.range as.length).drop i) H) (by rw [List.drop_zero]; exact h0) (fun i H _ h => .inl (.inl (hf _ H h))) (fun i v H e h => ?_) fun H h => ?_
  · rw [List.getElem?_map] at e
    cases e2 : as[i]? with
    | none => rw [e2] at e; cases e
    | some b =>
      rw [e2] at e
      cases e
      have hi := (List.getElem?_eq_some_iff.mp e2).1
      have h' : W ((List.range as.length).drop i) H := h
      rw [drop_cons (range_get hi)] at h'
      exact hs i _ b H e2 h'
  · have h' : W ((List.range as.length).drop (as.map V.ref).length) H := h
    rw [List.length_map, List.drop_of_length_le (by rw [List.length_range]; exact Nat.le_refl _)] at h'
    exact hd H h'
end

/-! #### the frozen part by a name -/
section
variable {A : Addr → Prop} {F0 H0 F F' H : Hp} {p q dk : Addr} {o : HO} {us ws : List V} {as : List Addr} {xs : List (List Int)}
theorem Gr.newE (s : Sub F H) (hp : H p = none) : ∃ F', Gr NA F H F' (upd H p o) ∧ F' p = some o := ⟨_, Gr.new s hp, upd_same⟩
theorem Ow.frzE (w : Ow H0 F H p us) (G : Gr A F0 H0 F H) : ∃ F', Gr A F0 H0 F' H ∧ Sub F F' ∧ F' p = some (.lst us) ∧ ∀ q, q ≠ p → F q = none → F' q = none := ⟨_, w.frz G, w.ex, upd_same, fun q h e => by rw [upd_ne h]; exact e⟩
theorem Ow.frzN (w : Ow H0 F H q us) (h : q ≠ p) (nf : ∀ q, q ≠ p → F q = none → F' q = none) : Ow H0 F' H q us := ⟨w.at_, nf _ h w.nf, w.n0⟩
theorem OwP.frzN (w : OwP A H0 F H q us) (x : Ow H0 F H p ws) (nf : ∀ q, q ≠ p → F q = none → F' q = none) : OwP A H0 F' H q us := ⟨w.at_, nf _ (w.ne x) w.nf, w.n0, w.na⟩
theorem OwL.frzN (w : OwL H0 F H q as xs) (h : p ∉ q :: as) (nf : ∀ q, q ≠ p → F q = none → F' q = none) : OwL H0 F' H q as xs :=
  ⟨w.at_, w.it, w.nd, fun a ha => nf a (fun z => h (by rw [← z]; exact ha)) (w.nf a ha), w.n0⟩
theorem DkAt.frzN {st : DkS} (d : DkAt A H0 F H dk st) (w : Ow H0 F H p us) (_ : Sub F F') (nf : ∀ q, q ≠ p → F q = none → F' q = none) : DkAt A H0 F' H dk st :=
  ⟨d.at_, fun a h => nf a (fun z => d.out w (by rw [← z]; exact h)) (d.nf a h), d.n0⟩
theorem HdAt.frzN {st : HdS} (d : HdAt A H0 F H dk st) (w : Ow H0 F H p us) (ex : Sub F F') (nf : ∀ q, q ≠ p → F q = none → F' q = none) : HdAt A H0 F' H dk st := by
  obtain ⟨vs, e, r⟩ := d.at_
  exact ⟨⟨vs, e, Rs_mono ex r⟩, nf _ (d.out w).symm d.nf, d.n0, d.ia⟩
end

/-! #### slots written out -/
theorem x_gnE {i : Nat} {v : V} {σ σ' : L2.St} {H : Hp} {QS : L2.St → Hp → Prop} (e : σ.set i (some v) = σ') (h : QS σ' H) : gName i v σ H QS := by
  show QS (σ.set i (some v)) H
  rw [e]; exact h
theorem x_start {t : TS} {D : Ends} {σ σ' : L2.St} {H : Hp} (e : σ = σ') (h : t D σ' H) : t D σ H := by rw [e]; exact h
theorem x_parE {i j : Nat} {tA : TA} {D : Ends} {σ : L2.St} {H : Hp} (h : tA σ H fun vs H1 => ∃ v w σ', vs = [v, w] ∧ (σ.set i (some v)).set j (some w) = σ' ∧ D.nx σ' H1) : tPar i j tA D σ H := by
  have e : (fun (vs : List V) (H1 : Hp) => ∃ v w σ', vs = [v, w] ∧ (σ.set i (some v)).set j (some w) = σ' ∧ D.nx σ' H1) = fun vs H1 => ∃ v w, vs = [v, w] ∧ D.nx ((σ.set i (some v)).set j (some w)) H1 :=
    funext fun vs => funext fun H1 => propext ⟨fun ⟨v, w, σ', a, b, c⟩ => ⟨v, w, a, by rw [b]; exact c⟩, fun ⟨v, w, a, c⟩ => ⟨v, w, _, a, rfl, c⟩⟩
  rw [e] at h
  exact h
theorem x_augE {i : Nat} {te : TE} {ti : TIp} {D : Ends} {σ : L2.St} {H : Hp} (h : ∃ x, σ[i]? = some (some x) ∧ te σ H fun y H1 => ti x y H1 fun z H2 => ∃ σ', σ.set i (some z) = σ' ∧ D.nx σ' H2) : tAug i te ti D σ H := by
  have e : (fun (z : V) (H2 : Hp) => ∃ σ', σ.set i (some z) = σ' ∧ D.nx σ' H2) = fun z H2 => D.nx (σ.set i (some z)) H2 :=
    funext fun z => funext fun H2 => propext ⟨fun ⟨σ', a, b⟩ => by rw [a]; exact b, fun b => ⟨_, rfl, b⟩⟩
  rw [e] at h
  exact h
end My

namespace My
open PySem PySem.Spec PyProof.Rows L2
/-! ### data of any kind -/
def isTupD : PyData → Bool | .tuple _ => true | _ => false
def isLstD : PyData → Bool | .list _ => true | _ => false
def isIntD : PyData → Bool | .int _ => true | .bool _ => true | _ => false
def isBlD : PyData → Bool | .bool _ => true | _ => false
def isStrD : PyData → Bool | .str _ => true | _ => false
def isNonD : PyData → Bool | .none => true | _ => false
def asInt : PyData → Option Int | .int i => some i | _ => none
def asBl : PyData → Option Bool | .bool i => some i | _ => none
def asStr : PyData → Option Str | .str i => some i | _ => none
def asLst : PyData → Option (List PyData) | .list xs => some xs | _ => none
def asSeq : PyData → Option (List PyData) | .list xs => some xs | .tuple xs => some xs | _ => none
def asPair : PyData → Option (PyData × PyData) | .tuple [a, b] => some (a, b) | _ => none
section
variable {K : PySem.W.Frag} {F H : Hp} {v : V} {d : PyData}
theorem asInt_of {i : Int} (h : RD F v d) (e : asInt d = some i) : v = .int i := by
  cases h <;> first | (cases e; rfl) | exact nomatch e
theorem asBl_of {i : Bool} (h : RD F v d) (e : asBl d = some i) : v = .bl i := by
  cases h <;> first | (cases e; rfl) | exact nomatch e
theorem asStr_of {i : Str} (h : RD F v d) (e : asStr d = some i) : v = .str i := by
  cases h <;> first | (cases e; rfl) | exact nomatch e
theorem any_id (xs : List PyData) : xs.map TD.d = xs := List.map_id' xs
theorem R_anyL {xs : List PyData} (h : R F v xs) : R (α := PyData) F v (PyData.list xs) := by
  have h' : RD F v (.list (xs.map TD.d)) := h
  rw [any_id] at h'
  exact h'
theorem asLst_of {xs : List PyData} (h : RD F v d) (e : asLst d = some xs) : R F v xs := by
  cases h with
  | lst h r => cases e; exact .lst h (by rw [any_id]; exact r)
  | _ => exact nomatch e
theorem asPair_of {p : PyData × PyData} (h : RD F v d) (e : asPair d = some p) : R F v p := by
  cases h with
  | tup h r =>
    cases r with
    | nil => exact nomatch e
    | cons h1 r =>
      cases r with
      | nil => exact nomatch e
      | cons h2 r =>
        cases r with
        | nil => cases e; exact .tup h (.cons h1 (.cons h2 .nil))
        | cons => exact nomatch e
  | _ => exact nomatch e
/-- a list or a tuple, read -/
theorem asSeq_of {xs : List PyData} (s : Sub F H) (h : RD F v d) (e : asSeq d = some xs) : ∃ a us, v = .ref a ∧ (SqL K H a us ∨ SqT K H a us) ∧ us.length = xs.length ∧ RDs F us xs := by
  cases h with
  | lst h r => cases e; exact ⟨_, _, rfl, .inl (.inl (.inl (s _ _ h))), r.len, r⟩
  | tup h r => cases e; exact ⟨_, _, rfl, .inr (.inl (.inl (s _ _ h))), r.len, r⟩
  | _ => exact nomatch e
theorem ixD {xs : List PyData} {i : Int} {x : PyData} (s : Sub F H) (h : RD F v d) (e : asSeq d = some xs) (hx : atI xs i = some x) : ∃ u, RD F u x ∧ ∀ Q : VK, Q u H → rIx K v (.int i) H Q := by
  obtain ⟨a, us, rfl, hq, hl, r⟩ := asSeq_of (K := K) s h e
  have r' : Rs F us xs := by unfold Rs; rw [any_id]; exact r
  obtain ⟨u, hu, hr⟩ := Rs_at r' hx
  refine ⟨u, hr, fun Q q => ?_⟩
  rcases hq with hq | hq
  · exact .inl ⟨_, _, _, _, rfl, rfl, hq, hu, q⟩
  · exact .inr (.inl ⟨_, _, _, _, rfl, rfl, hq, hu, q⟩)
theorem lenD {xs : List PyData} (s : Sub F H) (h : RD F v d) (e : asSeq d = some xs) (Q : VK) (q : Q (.int (xs.length : Int)) H) : rLenT K [v] H Q := by
  obtain ⟨a, us, rfl, hq, hl, r⟩ := asSeq_of (K := K) s h e
  exact ⟨_, _, rfl, hq, by rw [hl]; exact q⟩
theorem isi_of {T : String} {f : PyData → Bool} (s : Sub F H) (h : RD F v d)
    (k : kitB "NoneType" T = some (f .none) ∧ (∀ b, kitB "bool" T = some (f (.bool b))) ∧ (∀ i, kitB "int" T = some (f (.int i))) ∧ (∀ x, kitB "str" T = some (f (.str x))) ∧ (∀ x, kitB "list" T = some (f (.list x))) ∧ (∀ x, kitB "tuple" T = some (f (.tuple x))) ∧ ∀ x, kitB "dict" T = some (f (.dict x)))
    (Q : VK) (q : Q (.bl (f d)) H) : rIsi K [v, .ty T] H Q := by
  obtain ⟨k1, k2, k3, k4, k5, k6, k7⟩ := k
  cases h with
  | non => exact ⟨_, _, _, _, _, rfl, ClsV.ty _, TyX.base .non, kit_ty k1, q⟩
  | bl b => exact ⟨_, _, _, _, _, rfl, ClsV.ty _, TyX.base (.bl b), kit_ty (k2 b), q⟩
  | int i => exact ⟨_, _, _, _, _, rfl, ClsV.ty _, TyX.base (.int i), kit_ty (k3 i), q⟩
  | str x => exact ⟨_, _, _, _, _, rfl, ClsV.ty _, TyX.base (.str x), kit_ty (k4 x), q⟩
  | lst h r => exact ⟨_, _, _, _, _, rfl, ClsV.ty _, TyX.base (.lst (s _ _ h)), kit_ty (k5 _), q⟩
  | tup h r => exact ⟨_, _, _, _, _, rfl, ClsV.ty _, TyX.base (.tup (s _ _ h)), kit_ty (k6 _), q⟩
  | dic h r => exact ⟨_, _, _, _, _, rfl, ClsV.ty _, TyX.base (.dK (s _ _ h)), kit_ty (k7 _), q⟩
theorem isi_tuple (s : Sub F H) (h : RD F v d) (Q : VK) (q : Q (.bl (isTupD d)) H) : rIsi K [v, .ty "tuple"] H Q := isi_of s h ⟨(by show kitB "NoneType" "tuple" = some false; decide +kernel), fun _ => (by show kitB "bool" "tuple" = some false; decide +kernel), fun _ => (by show kitB "int" "tuple" = some false; decide +kernel), fun _ => (by show kitB "str" "tuple" = some false; decide +kernel), fun _ => (by show kitB "list" "tuple" = some false; decide +kernel), fun _ => (by show kitB "tuple" "tuple" = some true; decide +kernel), fun _ => (by show kitB "dict" "tuple" = some false; decide +kernel)⟩ Q q
theorem isi_list (s : Sub F H) (h : RD F v d) (Q : VK) (q : Q (.bl (isLstD d)) H) : rIsi K [v, .ty "list"] H Q := isi_of s h ⟨(by show kitB "NoneType" "list" = some false; decide +kernel), fun _ => (by show kitB "bool" "list" = some false; decide +kernel), fun _ => (by show kitB "int" "list" = some false; decide +kernel), fun _ => (by show kitB "str" "list" = some false; decide +kernel), fun _ => (by show kitB "list" "list" = some true; decide +kernel), fun _ => (by show kitB "tuple" "list" = some false; decide +kernel), fun _ => (by show kitB "dict" "list" = some false; decide +kernel)⟩ Q q
theorem isi_int (s : Sub F H) (h : RD F v d) (Q : VK) (q : Q (.bl (isIntD d)) H) : rIsi K [v, .ty "int"] H Q := isi_of s h ⟨(by show kitB "NoneType" "int" = some false; decide +kernel), fun _ => (by show kitB "bool" "int" = some true; decide +kernel), fun _ => (by show kitB "int" "int" = some true; decide +kernel), fun _ => (by show kitB "str" "int" = some false; decide +kernel), fun _ => (by show kitB "list" "int" = some false; decide +kernel), fun _ => (by show kitB "tuple" "int" = some false; decide +kernel), fun _ => (by show kitB "dict" "int" = some false; decide +kernel)⟩ Q q
theorem isi_bool (s : Sub F H) (h : RD F v d) (Q : VK) (q : Q (.bl (isBlD d)) H) : rIsi K [v, .ty "bool"] H Q := isi_of s h ⟨(by show kitB "NoneType" "bool" = some false; decide +kernel), fun _ => (by show kitB "bool" "bool" = some true; decide +kernel), fun _ => (by show kitB "int" "bool" = some false; decide +kernel), fun _ => (by show kitB "str" "bool" = some false; decide +kernel), fun _ => (by show kitB "list" "bool" = some false; decide +kernel), fun _ => (by show kitB "tuple" "bool" = some false; decide +kernel), fun _ => (by show kitB "dict" "bool" = some false; decide +kernel)⟩ Q q
theorem isi_str (s : Sub F H) (h : RD F v d) (Q : VK) (q : Q (.bl (isStrD d)) H) : rIsi K [v, .ty "str"] H Q := isi_of s h ⟨(by show kitB "NoneType" "str" = some false; decide +kernel), fun _ => (by show kitB "bool" "str" = some false; decide +kernel), fun _ => (by show kitB "int" "str" = some false; decide +kernel), fun _ => (by show kitB "str" "str" = some true; decide +kernel), fun _ => (by show kitB "list" "str" = some false; decide +kernel), fun _ => (by show kitB "tuple" "str" = some false; decide +kernel), fun _ => (by show kitB "dict" "str" = some false; decide +kernel)⟩ Q q
theorem isN_D (h : RD F v d) : decide (v = .non) = isNonD d := by cases h <;> first | rfl | exact decide_eq_false (fun z => nomatch z)
theorem Rs_any {α : Type} [TD α] {us : List V} {xs : List α} (r : Rs F us xs) : Rs (α := PyData) F us (xs.map TD.d) := by
  unfold Rs; rw [any_id]; exact r
theorem Rs_anyL {us : List V} {xs : List (List PyData)} (r : Rs F us xs) : Rs (α := PyData) F us (xs.map fun z => PyData.list z) := by
  have e : (TD.d : List PyData → PyData) = fun z => PyData.list z := funext fun z => congrArg PyData.list (any_id z)
  have h : RDs F us (xs.map TD.d) := r
  rw [e] at h
  unfold Rs; rw [any_id]; exact h
theorem str_of {x : Str} (h : R F v x) : v = .str x := by cases h; rfl
end
/-- data that the order of Python is sure of -/
def LtOk (a b : PyData) : Prop := (PySem.W.alike a b && !isNonD a && a.canLay0 && b.canLay0 && decide (a.depth ≤ 64)) = true
instance (a b : PyData) : Decidable (LtOk a b) := inferInstanceAs (Decidable (_ = true))
def EqOk (a b : PyData) : Prop := (SeqAt.shaped a && SeqAt.shaped b) = true
instance (a b : PyData) : Decidable (EqOk a b) := inferInstanceAs (Decidable (_ = true))
def rCmpD (f : PyData → PyData → Bool) : R2 := fun x y H Q => ∃ (F : Hp) (a b : PyData), Sub F H ∧ RD F x a ∧ RD F y b ∧ LtOk a b ∧ Q (.bl (f a b)) H
def rEqD' (f : Bool → Bool) : R2 := fun x y H Q => ∃ (F : Hp) (a b : PyData), Sub F H ∧ RD F x a ∧ RD F y b ∧ EqOk a b ∧ Q (.bl (f (PyData.eqv a b))) H
section
variable {X : Cx}
theorem LtOk.parts {a b : PyData} (h : LtOk a b) : PySem.W.alike a b = true ∧ a ≠ .none ∧ a.canLay0 = true ∧ b.canLay0 = true ∧ a.depth ≤ 64 := by
  unfold LtOk at h
  simp only [Bool.and_eq_true, decide_eq_true_eq, Bool.not_eq_true'] at h
  exact ⟨h.1.1.1.1, (fun e => by rw [e] at h; exact nomatch h.1.1.1.2), h.1.1.2, h.1.2, h.2⟩
theorem op_geA (hu : X.A.units + 64 < cLine) : OpR X (compareOp .GtE) (rCmpD fun a b => !PySem.W.dataLt a b) := by
  intro pins s σ H x y v u Q I rx ry h
  obtain ⟨F, a, b, sb, ha, hb, k, q⟩ := h
  obtain ⟨k1, k2, k3, k4, k5⟩ := k.parts
  obtain ⟨as, r1⟩ := Dp.reads I _ x v (ha.dpL (K := X.K) sb k3) rx
  obtain ⟨bs, r2⟩ := Dp.reads I _ y u (hb.dpL (K := X.K) sb k4) ry
  exact PySem.W.ge_data r1 r2 k1 k2 (by omega) ⟨.bl _, H, I, rfl, q⟩
theorem op_ltA (hu : X.A.units + 64 < cLine) : OpR X (compareOp .Lt) (rCmpD fun a b => PySem.W.dataLt a b) := by
  intro pins s σ H x y v u Q I rx ry h
  obtain ⟨F, a, b, sb, ha, hb, k, q⟩ := h
  obtain ⟨k1, k2, k3, k4, k5⟩ := k.parts
  obtain ⟨as, r1⟩ := Dp.reads I _ x v (ha.dpL (K := X.K) sb k3) rx
  obtain ⟨bs, r2⟩ := Dp.reads I _ y u (hb.dpL (K := X.K) sb k4) ry
  exact PySem.W.lt_data r1 r2 k1 k2 (by omega) ⟨.bl _, H, I, rfl, q⟩
theorem op_eqA (hu : X.A.units + 64 < cLine) : OpR X (compareOp .Eq) (rEqD' id) := by
  intro pins s σ H x y v u Q I rx ry h
  obtain ⟨F, a, b, sb, ha, hb, k, q⟩ := h
  unfold EqOk at k
  rw [Bool.and_eq_true] at k
  exact op_eqD hu pins s σ H x y v u Q I rx ry ⟨_, _, ha.dpL sb (SeqAt.canLay_of_shaped k.1), hb.dpL sb (SeqAt.canLay_of_shaped k.2), k.1, k.2, q⟩
theorem op_neA (hu : X.A.units + 64 < cLine) : OpR X (compareOp .NotEq) (rEqD' not) := by
  intro pins s σ H x y v u Q I rx ry h
  obtain ⟨F, a, b, sb, ha, hb, k, q⟩ := h
  unfold EqOk at k
  rw [Bool.and_eq_true] at k
  exact op_neD hu pins s σ H x y v u Q I rx ry ⟨_, _, ha.dpL sb (SeqAt.canLay_of_shaped k.1), hb.dpL sb (SeqAt.canLay_of_shaped k.2), k.1, k.2, q⟩
/-- texts -/
def rEqS (f : Bool → Bool) : R2 := fun x y H Q => ∃ a b : Str, x = .str a ∧ y = .str b ∧ Q (.bl (f (decide (a = b)))) H
theorem dec_strV {a b : Str} : decide (V.str a = V.str b) = decide (a = b) := by
  rw [Bool.eq_iff_iff, decide_eq_true_iff, decide_eq_true_iff]
  exact ⟨fun h => V.str.inj h, fun h => by rw [h]⟩
theorem op_eqS : OpR X (compareOp .Eq) (rEqS id) := by
  intro pins s σ H x y v u Q I rx ry h
  obtain ⟨a, b, rfl, rfl, q⟩ := h
  exact op_eq pins s σ H _ _ v u Q I rx ry ⟨rfl, by rw [dec_strV]; exact q⟩
theorem op_neS : OpR X (compareOp .NotEq) (rEqS not) := by
  intro pins s σ H x y v u Q I rx ry h
  obtain ⟨a, b, rfl, rfl, q⟩ := h
  exact op_ne pins s σ H _ _ v u Q I rx ry ⟨rfl, by rw [dec_strV]; exact q⟩
end

/-- xs == [], whatever stands in xs -/
def rNil (K : PySem.W.Frag) (f : Bool → Bool) : R2 := fun x y H Q => ∃ (p q : Addr) (us : List V), x = .ref p ∧ y = .ref q ∧ SqL K H p us ∧ SqL K H q [] ∧ Q (.bl (f us.isEmpty)) H
theorem emp_len {α β : Type} {us : List α} {xs : List β} (h : us.length = xs.length) : us.isEmpty = xs.isEmpty := by cases us <;> cases xs <;> first | rfl | exact nomatch h
section
variable {X : Cx}
theorem op_eqNil (hu : X.A.units + 64 < cLine) : OpR X (compareOp .Eq) (rNil X.K id) := by
  intro pins s σ H x y v u Q I rx ry h
  obtain ⟨p, q, us, rfl, rfl, hp, hq, k⟩ := h
  cases rx
  cases ry
  obtain ⟨its, rv, pl, _⟩ := I.list hp
  obtain ⟨jts, rw', ql, _⟩ := I.list hq
  cases rw'
  have fin : ∀ b : Bool, b = us.isEmpty → EP X pins σ Q (Value.bool b) s := fun b e => ⟨.bl b, H, I, rfl, by rw [e]; exact k⟩
  cases us with
  | nil =>
    cases rv
    exact PySem.SeqAt.RcAt.lists (e := fun _ => true) pl.isList ql.isList rfl (by omega) (fun j h1 _ => absurd h1 (Nat.not_lt_zero _)) _ _ _ _ (fin _ rfl)
  | cons a us =>
    cases rv
    exact PySem.SeqAt.RcAt.lists_lengths pl.isList ql.isList (by simp) (by omega) _ _ _ _ (fin _ rfl)
theorem op_neNil (hu : X.A.units + 64 < cLine) : OpR X (compareOp .NotEq) (rNil X.K not) := by
  intro pins s σ H x y v u Q I rx ry h
  obtain ⟨p, q, us, rfl, rfl, hp, hq, k⟩ := h
  cases rx
  cases ry
  obtain ⟨its, rv, pl, _⟩ := I.list hp
  obtain ⟨jts, rw', ql, _⟩ := I.list hq
  cases rw'
  have fin : ∀ b : Bool, b = !us.isEmpty → EP X pins σ Q (Value.bool b) s := fun b e => ⟨.bl b, H, I, rfl, by rw [e]; exact k⟩
  cases us with
  | nil =>
    cases rv
    exact PySem.SeqAt.RcNeAt.lists (e := fun _ => true) pl.isList ql.isList rfl (by omega) (fun j h1 _ => absurd h1 (Nat.not_lt_zero _)) _ _ _ _ (fin _ rfl)
  | cons a us =>
    cases rv
    exact PySem.SeqAt.RcNeAt.lists_lengths pl.isList ql.isList (by simp) (by omega) _ _ _ _ (fin _ rfl)
end
/-- a tuple of the items of a list -/
def rTupL (K : PySem.W.Frag) : List V → Hp → VK → Prop := fun xs H Q => ∃ p ys, xs = [.ref p] ∧ ((SqL K H p ys ∧ ∀ l, H l = none → Q (.ref l) (upd H l (.tup ys))) ∨ (SqT K H p ys ∧ Q (.ref p) H))
theorem call_tupL {X : Cx} : CallR X (.type "tuple") (rTupL X.K) := call_tuple_of
/-! #### for i, x in enumerate(xs) -/
theorem x_nil {σ : L2.St} {H : Hp} {QA : List V → Hp → Prop} (h : QA [] H) : tNil σ H QA := h
theorem x_enum {K : PySem.W.Frag} {tA : TA} {σ : L2.St} {H : Hp} {R : It → Hp → Prop} (h : tA σ H fun vs H1 => ∃ a xs, vs = [.ref a] ∧ SqL K H1 a xs ∧ R (Ite K a) H1) : iEnum K tA σ H R := h
theorem for_enum {K : PySem.W.Frag} {g : TG} {tb : TS} {D : Ends} {σ : L2.St} {H : Hp} {α : Type} [TD α] {a : Addr} {us : List V} {xs : List α} {F : Hp} (W : Nat → List α → L2.St → Hp → Prop) (fr : Rs F us xs) (h0 : W 0 xs σ H) (hf : ∀ i ts σ H, W i ts σ H → H a = some (.lst us))
    (hs : ∀ i x ts v T σ H, R F v x → W i (x :: ts) σ H → H T = none → g (.ref T) σ (upd H T (.tup [.int (i : Int), v])) fun σ2 H2 => tb { D with nx := W (i + 1) ts, ct := W (i + 1) ts, bk := D.nx } σ2 H2) (hd : ∀ i σ H, W i [] σ H → D.nx σ H) :
    ∃ W : Nat → Nat → L2.St → Hp → Prop, (∃ m, W 0 m σ H) ∧ ∀ i m σ H, W i m σ H →
      ((Ite K a).stop i H ∧ D.nx σ H) ∨ ((Ite K a).go i H ∧ ∃ N : L2.St → Hp → Prop, (∀ σ' H', N σ' H' → ∃ m', m' < m ∧ W (i + 1) m' σ' H') ∧ ∀ x H', (Ite K a).yld i H x H' → g x σ H' fun σ2 H2 => tb { D with nx := N, ct := N, bk := D.nx } σ2 H2) := by
  have hl := Rs_len fr
  refine ⟨fun i m σ H => m = xs.length - i ∧ i ≤ xs.length ∧ W i (xs.drop i) σ H, ⟨xs.length, rfl, Nat.zero_le _, by rw [List.drop_zero]; exact h0⟩, ?_⟩
  rintro i m σ H ⟨rfl, hi, w⟩
  have q : SqL K H a us := .inl (.inl (hf _ _ _ _ w))
  by_cases hlt : i < xs.length
  · have e3 : xs[i]? = some xs[i] := List.getElem?_eq_getElem hlt
    have e4 : us[i]? = some us[i] := List.getElem?_eq_getElem (by omega)
    refine .inr ⟨⟨us, us[i], q, e4⟩, fun σ' H' => W (i + 1) (xs.drop (i + 1)) σ' H', fun σ' H' p' => ⟨xs.length - (i + 1), by omega, rfl, hlt, p'⟩, fun x H' y => ?_⟩
    obtain ⟨T, z, rfl, nT, rfl, hz⟩ := y
    have ez := hz us q
    rw [e4] at ez
    cases ez
    obtain ⟨d, e1, e2⟩ := fr.get' e4
    rw [List.getElem?_map, e3] at e1
    cases e1
    rw [drop_cons e3] at w
    exact hs i _ _ _ T σ H e2 w nT
  · have e : i = xs.length := by omega
    subst e
    rw [List.drop_length] at w
    exact .inl ⟨⟨us, q, by omega⟩, hd _ σ H w⟩
section
variable {K : PySem.W.Frag} {F H : Hp} {Q : VK} {p q : Addr} {us : List V} {b : Bool} {x y : V}
theorem eqNil_use (h : SqL K H p us) (k : SqL K H q []) (e : us.isEmpty = b) (z : Q (.bl b) H) : rNil K id (.ref p) (.ref q) H Q := ⟨_, _, _, rfl, rfl, h, k, by rw [e]; exact z⟩
theorem neNil_use (h : SqL K H p us) (k : SqL K H q []) (e : us.isEmpty = b) (z : Q (.bl (!b)) H) : rNil K not (.ref p) (.ref q) H Q := ⟨_, _, _, rfl, rfl, h, k, by rw [e]; exact z⟩
theorem eqS_use {a b : Str} (z : Q (.bl (decide (a = b))) H) : rEqS id (.str a) (.str b) H Q := ⟨_, _, rfl, rfl, z⟩
theorem neS_use {a b : Str} (z : Q (.bl (!decide (a = b))) H) : rEqS not (.str a) (.str b) H Q := ⟨_, _, rfl, rfl, z⟩
theorem eqA_use {a b : PyData} (s : Sub F H) (h : RD F x a) (k : RD F y b) (c : EqOk a b) (z : Q (.bl (PyData.eqv a b)) H) : rEqD' id x y H Q := ⟨_, _, _, s, h, k, c, z⟩
theorem neA_use {a b : PyData} (s : Sub F H) (h : RD F x a) (k : RD F y b) (c : EqOk a b) (z : Q (.bl (!PyData.eqv a b)) H) : rEqD' not x y H Q := ⟨_, _, _, s, h, k, c, z⟩
theorem geA_use {a b : PyData} (s : Sub F H) (h : RD F x a) (k : RD F y b) (c : LtOk a b) (z : Q (.bl (!PySem.W.dataLt a b)) H) : rCmpD (fun a b => !PySem.W.dataLt a b) x y H Q := ⟨_, _, _, s, h, k, c, z⟩
theorem ltA_use {a b : PyData} (s : Sub F H) (h : RD F x a) (k : RD F y b) (c : LtOk a b) (z : Q (.bl (PySem.W.dataLt a b)) H) : rCmpD (fun a b => PySem.W.dataLt a b) x y H Q := ⟨_, _, _, s, h, k, c, z⟩
end
/-! #### repr -/
def ShowOk (d : PyData) : Prop := (d.showable && decide (d.depth ≤ 60) && decide (d.shown.length ≤ 16777216)) = true
instance (d : PyData) : Decidable (ShowOk d) := inferInstanceAs (Decidable (_ = true))
theorem ShowOk.parts {d : PyData} (h : ShowOk d) : d.showable = true ∧ d.depth ≤ 60 ∧ d.shown.length ≤ 16777216 := by
  unfold ShowOk at h
  simp only [Bool.and_eq_true, decide_eq_true_eq] at h
  exact ⟨h.1.1, h.1.2, h.2⟩
section
variable {X : Cx} {pins : List (Addr × Obj)} {σ : L2.St} {H F : Hp} {s : Shared}
theorem ne_sys (I : Inv X pins σ H s) (hb : (X.base.get? sysModules).isSome = true) {a : Addr} {o : HO} (h : H a = some o) : a ≠ sysModules := fun e => by
  obtain ⟨u, hu⟩ := Option.isSome_iff_exists.mp hb
  have := (I.bs _ _ hu).2
  rw [← e, h] at this
  cases this
mutual
theorem RD.reads (I : Inv X pins σ H s) (hb : (X.base.get? sysModules).isSome = true) (sb : Sub F H) : ∀ {d : PyData} {v : V} {u : Value}, RD F v d → RelV v u → ∃ as, Reads s.heap u d as ∧ sysModules ∉ as
  | _, _, _, .non, r => by cases r; exact ⟨_, .none, by simp⟩
  | _, _, _, .bl b, r => by cases r; exact ⟨_, .bool b, by simp⟩
  | _, _, _, .int i, r => by obtain ⟨t, rfl⟩ := r; exact ⟨_, .int i t, by simp⟩
  | _, _, _, .str x, r => by obtain ⟨t, rfl⟩ := r; exact ⟨_, .str x t, by simp⟩
  | _, _, _, .lst (a := a) (us := us) h q, r => by
    cases r
    obtain ⟨_, its, n, vr, e⟩ := I.hok a _ (sb _ _ h)
    obtain ⟨as, ra, na⟩ := RDs.reads I hb sb q vr
    refine ⟨_, .list (vs := its.toArray) e rfl rfl ra, fun hm => ?_⟩
    rcases List.mem_cons.mp hm with z | z
    · exact ne_sys I hb (sb _ _ h) z.symm
    · exact na z
  | _, _, _, .tup (a := a) (us := us) h q, r => by
    cases r
    obtain ⟨_, its, vr, o, e, ec, n, ed⟩ := I.hok a _ (sb _ _ h)
    obtain ⟨as, ra, na⟩ := RDs.reads I hb sb q vr
    exact ⟨_, .tuple (vs := its.toArray) e ec ed ra, na⟩
  | _, _, _, .dic (a := a) (kvs := kvs) h q, r => by
    cases r
    obtain ⟨_, hs, vs, kv, o, es, ep, e, ex, ed, _, pr, _⟩ := I.hok a _ (sb _ _ h)
    obtain ⟨as, bs, r1, r2, n1, n2⟩ := RKs.reads I hb sb q kv pr
    refine ⟨_, .dict e ex.1 ed r1 r2, fun hm => ?_⟩
    rcases List.mem_append.mp hm with z | z
    · rcases List.mem_cons.mp z with z | z
      · exact beq_eq_false_iff_ne.mp hs z.symm
      · exact n1 z
    · exact n2 z
theorem RDs.reads (I : Inv X pins σ H s) (hb : (X.base.get? sysModules).isSome = true) (sb : Sub F H) : ∀ {ds : List PyData} {us : List V} {vs : List Value}, RDs F us ds → Vals us vs → ∃ as, ReadsAll s.heap vs ds as ∧ sysModules ∉ as
  | _, _, _, .nil, r => by cases r; exact ⟨_, .nil, by simp⟩
  | _, _, _, .cons h q, r => by
    cases r with
    | cons r1 r2 =>
      obtain ⟨as, a1, a2⟩ := RD.reads I hb sb h r1
      obtain ⟨bs, b1, b2⟩ := RDs.reads I hb sb q r2
      exact ⟨_, .cons a1 b1, fun hm => (List.mem_append.mp hm).elim a2 b2⟩
theorem RKs.reads (I : Inv X pins σ H s) (hb : (X.base.get? sysModules).isSome = true) (sb : Sub F H) : ∀ {ds : List (PyData × PyData)} {kvs : List (Key × V)} {vs : List (Key × Value)} {es : List DictEntry}, RKs F kvs ds → KV kvs vs → Pairs (mixKind X.prog X.w) es vs →
    ∃ as bs, ReadsAll s.heap (es.map (·.key)) (ds.map (·.1)) as ∧ ReadsAll s.heap (es.map (·.val)) (ds.map (·.2)) bs ∧ sysModules ∉ as ∧ sysModules ∉ bs
  | _, _, _, _, .nil, k, p => by cases k; cases p; exact ⟨_, _, .nil, .nil, by simp, by simp⟩
  | _, _, _, _, .int (i := i) h q, k, p => by
    cases k with
    | cons k1 k2 =>
      cases p with
      | cons p1 p2 p3 =>
        obtain ⟨e1, e2⟩ := k1
        rw [← e1] at p1
        have p1' : keyIs (.inl i) _ = true := p1
        rcases keyIs_shape p1' with ⟨j, t, z, ek⟩ | ⟨x, t, z, ek⟩
        · cases z
          obtain ⟨as, a1, a2⟩ := RD.reads I hb sb h e2
          obtain ⟨cs, bs, c1, c2, n1, n2⟩ := RKs.reads I hb sb q k2 p3
          exact ⟨[] ++ cs, as ++ bs, .cons (by show Reads _ (DictEntry.key _) _ _; rw [ek]; exact .int i t) c1, .cons (by show Reads _ (DictEntry.val _) _ _; rw [p2]; exact a1) c2, n1, fun hm => (List.mem_append.mp hm).elim a2 n2⟩
        · cases z
  | _, _, _, _, .str (x := x) h q, k, p => by
    cases k with
    | cons k1 k2 =>
      cases p with
      | cons p1 p2 p3 =>
        obtain ⟨e1, e2⟩ := k1
        rw [← e1] at p1
        have p1' : keyIs (.inr x) _ = true := p1
        rcases keyIs_shape p1' with ⟨j, t, z, ek⟩ | ⟨y, t, z, ek⟩
        · cases z
        · cases z
          obtain ⟨as, a1, a2⟩ := RD.reads I hb sb h e2
          obtain ⟨cs, bs, c1, c2, n1, n2⟩ := RKs.reads I hb sb q k2 p3
          exact ⟨[] ++ cs, as ++ bs, .cons (by show Reads _ (DictEntry.key _) _ _; rw [ek]; exact .str x t) c1, .cons (by show Reads _ (DictEntry.val _) _ _; rw [p2]; exact a1) c2, n1, fun hm => (List.mem_append.mp hm).elim a2 n2⟩
end
def rReprD : List V → Hp → VK → Prop := fun xs H Q => ∃ (x : V) (d : PyData) (F : Hp), xs = [x] ∧ Sub F H ∧ RD F x d ∧ ShowOk d ∧ Q (.str d.shown) H
end
theorem call_reprD {X : Cx} (hg : X.A.guards = some []) (hb : (X.base.get? sysModules).isSome = true) (hu : X.A.units + 200 < cLine) : CallR X (.builtin "repr") rReprD := by
  intro pins s σ H xs us Q I r h
  obtain ⟨x, d, F, rfl, sb, hd, ok, q⟩ := h
  obtain ⟨u, rfl, rx⟩ := vals1 r
  obtain ⟨k1, k2, k3⟩ := ok.parts
  have hz : d.shown.length ≤ sizeLine := by rw [sizeLine_eq]; exact k3
  have hd' := hd
  obtain ⟨as, ra, na⟩ := RD.reads I hb sb hd rx
  cases hd' with
  | non => cases rx; exact PySem.P.repr_of_none ⟨.str _, H, I.tok _, ⟨_, rfl⟩, q⟩
  | bl b => cases rx; exact PySem.P.repr_of_bool ⟨.str _, H, I.tok _, ⟨_, rfl⟩, q⟩
  | int i =>
    obtain ⟨t, rfl⟩ := rx
    have hi : i.natAbs.log2 < 1920 := by simpa [PyData.showable] using k1
    exact PySem.P.repr_of_int hi ⟨.str _, H, I.tok _, ⟨_, rfl⟩, q⟩
  | str x => obtain ⟨t, rfl⟩ := rx; exact PySem.P.repr_of_str ⟨.str _, H, I.tok _, ⟨_, rfl⟩, q⟩ hz
  | lst h r2 => cases rx; exact PySem.repr_of_reads' ra k1 (fun _ => na) hg (by omega) (fun _ _ e => e) (fun h' u tk kk => ⟨.str _, H, I.kept (t' := tk) kk, ⟨_, rfl⟩, q⟩) hz
  | tup h r2 => cases rx; exact PySem.repr_of_reads' ra k1 (fun _ => na) hg (by omega) (fun _ _ e => e) (fun h' u tk kk => ⟨.str _, H, I.kept (t' := tk) kk, ⟨_, rfl⟩, q⟩) hz
  | dic h r2 => cases rx; exact PySem.repr_of_reads' ra k1 (fun _ => na) hg (by omega) (fun _ _ e => e) (fun h' u tk kk => ⟨.str _, H, I.kept (t' := tk) kk, ⟨_, rfl⟩, q⟩) hz

/-! #### defs that want to know that no repr is under way, and where the table of modules stands -/
/-- as FnOk, where nothing is being shown around the call -/
structure FnOkG (P : Program) (w : World) (K : PySem.W.Frag) (mg : Str → Option Value) (base : Heap) (CX : CXT) (k : Nat) (f : Addr) (fd : FuncData) (ps : List Str) (sp : Sp) : Prop where
  len : ∀ vs H Q E, sp vs H Q E → vs.length = ps.length
  run : ∀ (A : Around) (outer : List Env) (s : Shared) (H : Hp) (args : Args) (us : List Value) (vs : List V) (Q : VK) (E : XK), A.guards = some [] → Room k A → Env0 P w K mg base A outer s H → BindsTo s fd args (ps.zip us) →
    Vals vs us → sp vs H Q E → codeAny (model P w) A (.call (.ref f) args) (CR CX outer P w H s Q E) s
section
variable {P : Program} {w : World} {K : PySem.W.Frag} {mg : Str → Option Value} {base : Heap} {CX : CXT} {k : Nat} {f : Addr} {fd : FuncData} {ps : List Str} {sp : Sp}
/-- a def of the text, by its body -/
theorem okG_of {x qual : Str} {st : Stmt} {N : List Str} (F : Fun K x qual st f fd) (S : FnScope N ps (defScope st)) (len : ∀ vs H Q E, sp vs H Q E → vs.length = ps.length)
    (hbody : ∀ (cdv : Value) (A : Around) (outer : List Env) (s : Shared) (H : Hp) (vs : List V) (Q : VK) (E : XK), A.guards = some [] → Room k (A.deeper (envOfC qual (defScope st) s.heap.objs.size f cdv)) → sp vs H Q E →
      ∃ t, PSs (cxOf CX P w K mg base N qual (defScope st) f cdv A outer s H E) (defBody st) t ∧ t { nx := fun _ H' => Q .non H', rt := Q } (start N vs) H) : FnOkG P w K mg base CX (k + 1) f fd ps sp := by
  obtain ⟨oc, od, kV, doc, pm, an, cdv, ct, osl, hfd, lk, hcd⟩ := F.ex
  subst hfd
  refine ⟨len, ?_⟩
  intro A outer s H args us vs Q E hgd hr e0 hb r hsp
  have low : ∀ b o, base.get? b = some o → s.heap.get? b = some o := fun b o e => (e0.bs b o e).1
  have KX : K.In s.heap := e0.mod.kin.keeps low
  have kinds : ∀ y ∈ ps.zip us, (defScope st).names.lookup y.1 = some .local ∨ ((defScope st).names.lookup y.1 = some .cell ∧ ((cellsFrom (s.heap.objs.size + 1) (defScope st).names []).lookup y.1).isSome = true) := by
    intro y hy
    obtain ⟨n, v⟩ := y
    cases S.par n (List.of_mem_zip hy).1 with
    | inl q => exact .inl q
    | inr q => exact .inr ⟨q, PySem.W.cellsFrom_some _ _ _ (.inl q)⟩
  refine codeAny_call_function hr.depth (KX _ _ lk) rfl S.co S.gen rfl (PySem.W.codeRec_of KX hcd) (hb _ _ _ _ (wpAny_newFunctionEnv_cells S.kind kinds fun env he s1 xx => ?_))
  subst he
  refine ⟨(e0.mod.nolimit.keeps low).keeps xx.toInCall.keep, codeAny_func ?_⟩
  obtain ⟨t, ht, hq⟩ := hbody cdv A outer s H vs Q E hgd (hr.deeper _) hsp
  refine wpAny_mono (ht.run [] s1 (start N vs) H _ (inv_start S hr.hd e0 (len _ _ _ _ hsp) r xx) hq) ?_ fun e s' hs => hs
  intro fl s' hs
  cases fl with
  | next =>
    obtain ⟨_, H', J, q⟩ := hs
    exact ⟨.non, H', J.os, J.bare, J.base, J.hok, rfl, q⟩
  | ret u =>
    obtain ⟨v, _, H', J, rv, q⟩ := hs
    exact ⟨v, H', J.os, J.bare, J.base, J.hok, rv, q⟩
  | brk => obtain ⟨_, _, _, q⟩ := hs; exact q.elim
  | cont => obtain ⟨_, _, _, q⟩ := hs; exact q.elim
end
/-- .. of a def that no exception leaves -/
theorem okG0_of {P : Program} {w : World} {K : PySem.W.Frag} {mg : Str → Option Value} {base : Heap} {k : Nat} {f : Addr} {fd : FuncData} {ps : List Str} {sp : Sp} {x qual : Str} {st : Stmt} {N : List Str} (F : Fun K x qual st f fd) (S : FnScope N ps (defScope st)) (len : ∀ vs H Q E, sp vs H Q E → vs.length = ps.length)
    (hbody : ∀ (cdv : Value) (A : Around) (outer : List Env) (s : Shared) (H : Hp) (vs : List V) (Q : VK) (E : XK), A.guards = some [] → Room k (A.deeper (envOfC qual (defScope st) s.heap.objs.size f cdv)) → sp vs H Q E →
      ∃ t, PSs (cxOf CX0 P w K mg base N qual (defScope st) f cdv A outer s H E).nox (defBody st) t ∧ t { nx := fun _ H' => Q .non H', rt := Q } (start N vs) H) : FnOkG P w K mg base CX0 (k + 1) f fd ps sp := by
  refine okG_of F S len fun cdv A outer s H vs Q E hgd hr hsp => ?_
  obtain ⟨t, h, q⟩ := hbody cdv A outer s H vs Q E hgd hr hsp
  exact ⟨t, h.nox, q⟩
section
variable {X : Cx} {k : Nat} {f : Addr} {fd : FuncData} {ps : List Str} {sp : Sp} {CX : CXT} {E : XK} {ds : List Value} {dvs : List V} {x : Str} {p pos : Pos} {e : Expr} {es : List Expr} {t : TA}
/-- a call of such a def -/
theorem pe_callG (hgd : X.A.guards = some []) (F : FnOkG X.prog X.w X.K X.mg X.base CX k f fd ps sp) (hr : Room k X.A) (hg : Gl X x) (hm : X.mg x = some (.ref f)) (hk : PySem.W.keepIn X.K (.ref f) = true) (hb : Binds X.K fd ps ds) (hd : Vals dvs ds) (hx : Passes CX X E)
    (ha : PA X (e :: es) t) (hdb : (x == ("__debug__" : Str)) = false := by decide) (he : starEach (e :: es) X.env = (false, eval e X.env) :: starEach es X.env := by rfl) (hpl : (backTo pos (starEach es X.env)).any (·.1) = false := by rfl) :
    PE X (.Call (.Name x p) (e :: es) [] pos) (tCall sp dvs E t) := by
  constructor
  intro pins s σ H Q I h
  refine wpAny_Call_Name_kw (ld_glob I hg hm (PySem.W.callWith_K (h₀ := X.base) I.ok.mod.kin hk (thn (ha.run pos pins s σ H _ I h) fun us s1 got => ?_) he hpl) hdb)
  obtain ⟨vs, H1, I1, r, q⟩ := got
  have r2 : Vals (vs ++ dvs) (us ++ ds) := r.append hd
  have hl : (us ++ ds).length = ps.length := by rw [← F.len _ _ _ _ q, r2.length]
  refine ⟨I1.kIn, wpAny_call (codeAny_mono (F.run X.A X.stack s1 H1 ⟨us, []⟩ (us ++ ds) (vs ++ dvs) Q E hgd hr I1.env0 (hb s1 us I1.kIn hl) r2 q) ?_)⟩
  intro res s' hq
  match res, hq with
  | .error e, hq => exact hx pins σ H1 s1 e s' I1 hq
  | .ok (.ret u), hq => exact I1.after hq
  | .ok .next, hq => exact hq.elim
  | .ok .brk, hq => exact hq.elim
  | .ok .cont, hq => exact hq.elim
end
/-- the law's call, where nothing is being shown -/
theorem law_callG {P : Program} {w : World} {K : PySem.W.Frag} {mg mb : Str → Option Value} {CX : CXT} {k : Nat} {fa a : Addr} {fd : FuncData} {x : Str} {sp : Sp} {s₁ : Shared} {vs : List Value} {ns : List Int}
    (KX : K.In s₁.heap) (hns : s₁.heap.Ns mainGlobals mg) (hb : s₁.heap.Ns builtinsNs mb) (hbb : ∀ x : Str, x ≠ "__name__" → mb x = bootBuiltins x) (hlim : s₁.heap.NoLimit) (hsy : ∃ m, s₁.heap.Ns sysModules m) (hg : s₁.gens = #[])
    (ha : s₁.heap.get? a = some { cls := .type "list", data := .seq vs.toArray }) (hi : IntsAre vs ns) (hl : ns.length ≤ sizeLine) (hr : Room k callerA)
    (F : ∀ base : Heap, K.In base → base.Ns mainGlobals mg → (base.get? sysModules).isSome = true → FnOkG P w K mg base CX k fa fd [x] sp) (hbind : ∀ (s : Shared) (u : Value), BindsTo s fd ⟨[u], []⟩ [(x, u)])
    (hsp : ∀ H : Hp, Only H → SqL K H a (ns.map V.int) → sp [.ref a] H (fun v _ => v = .bl true) fun _ _ _ => False)
    (hCX : ∀ H e s', CX [] H s₁ (fun _ _ _ => False) e s' → False) :
    codeAny (model P w) callerA (.call (.ref fa) ⟨[.ref a], []⟩) (fun r s' => r = .ok (.ret (.bool true)) ∧ OldK s₁.heap s'.heap ∧ s'.os = s₁.os ∧ AllBare s'.gens) s₁ := by
  have rv := vals_ints hi
  have noE : ∀ b : Addr, b ∉ ([] : List Addr) := fun b z => absurd z List.not_mem_nil
  -- H: an abstract heap in which the script alone may be tracked
  have core : ∀ H : Hp, Only H → SqL K H a (ns.map V.int) → HOk P w H s₁.heap → (∀ b, H b ≠ none → b = a ∧ K.lookup a = none) →
      codeAny (model P w) callerA (.call (.ref fa) ⟨[.ref a], []⟩) (fun r s' => r = .ok (.ret (.bool true)) ∧ OldK s₁.heap s'.heap ∧ s'.os = s₁.os ∧ AllBare s'.gens) s₁ := by
    intro H hO hS hok hA
    have free : ∀ {b : Addr} {o : Obj} {es : Array DictEntry} {ep : Nat}, s₁.heap.get? b = some o → o.data = .dict es ep → H b = none := by
      intro b o es ep e d
      cases q : H b with
      | none => rfl
      | some u =>
        have z := (hA b (by rw [q]; exact (fun z => nomatch z))).1
        rw [z, ha] at e
        cases e
        exact nomatch d
    have ns_ : ∀ {b : Addr} {m : Str → Option Value}, s₁.heap.Ns b m → (hidT s₁.heap H).Ns b m := fun {b m} h => by
      obtain ⟨o, es, ep, e, d, r⟩ := h
      exact ⟨o, es, ep, hidT_get e (free e d), d, r⟩
    have kin : K.In (hidT s₁.heap H) := by
      intro b o e
      refine hidT_get (KX b o e) ?_
      cases q : H b with
      | none => rfl
      | some u =>
        obtain ⟨z1, z2⟩ := hA b (by rw [q]; exact (fun z => nomatch z))
        rw [z1, z2] at e
        cases e
    have sys : ((hidT s₁.heap H).get? sysModules).isSome = true := by
      obtain ⟨m, hm⟩ := hsy
      obtain ⟨o, es, ep, e, _⟩ := ns_ hm
      rw [e]; rfl
    have md : Mod K mg (hidT s₁.heap H) := ⟨kin, ns_ hns, ⟨mb, ns_ hb, hbb⟩, by obtain ⟨mc, h1, h2⟩ := hlim; exact ⟨mc, ns_ h1, h2⟩⟩
    have e0 : Env0 P w K mg (hidT s₁.heap H) callerA [] s₁ H := ⟨rfl, md, fun b o e => of_hidT e, Nat.le_of_eq (hidT_size _ _), trivial, fun b z => absurd z (noE b), hok, .of_eq hg⟩
    refine codeAny_mono ((F _ kin (ns_ hns) sys).run callerA [] s₁ H ⟨[.ref a], []⟩ [.ref a] [.ref a] _ _ rfl hr e0 (hbind s₁ (.ref a)) (.cons rfl .nil) (hsp H hO hS)) ?_
    intro r s' h
    match r, h with
    | .error e, h => exact (hCX H e s' h).elim
    | .ok .next, h => exact h.elim
    | .ok .brk, h => exact h.elim
    | .ok .cont, h => exact h.elim
    | .ok (.ret u), h =>
      obtain ⟨v, H', os, bare, un, hok', r', q⟩ := h
      have q' : v = .bl true := q
      subst q'
      obtain rfl : u = Value.bool true := r'
      refine ⟨rfl, OldK.of_keep fun b o e => ?_, os, bare⟩
      cases q : H b with
      | none => exact un.keep b o e q (noE b) (noE b)
      | some u =>
        cases hO b with
        | inl z => rw [q] at z; cases z
        | inr z =>
          obtain ⟨ob, xs, z⟩ := z
          have e1 := (hok b _ z).1
          have e2 := (hok' b _ (un.frzs b ob _ z)).1
          rw [e] at e1
          cases e1
          exact e2
  cases hk : K.lookup a with
  | some o =>
    have e := KX a o hk
    rw [ha] at e
    cases e
    exact core (fun _ => none) (fun _ => .inl rfl) (.inr ⟨_, vs.toArray, _, hk, rfl, rfl, rfl, by rw [List.size_toArray, hi.length]; exact hl, by simpa using rv⟩) (fun b u z => nomatch z) fun b z => absurd rfl z
  | none =>
    have at_ : ∀ b, (if b = a then some (HO.frz { cls := .type "list", data := .seq vs.toArray } (.lst (ns.map V.int))) else none) ≠ none → b = a := fun b z => by
      by_cases q : b = a
      · exact q
      · exact absurd (if_neg q) z
    refine core (fun b => if b = a then some (.frz { cls := .type "list", data := .seq vs.toArray } (.lst (ns.map V.int))) else none) (fun b => ?_) (.inl (.inr ⟨{ cls := .type "list", data := .seq vs.toArray }, if_pos rfl⟩)) (fun b u z => ?_) fun b z => ⟨at_ b z, hk⟩
    · by_cases q : b = a
      · exact .inr ⟨_, _, if_pos q⟩
      · exact .inl (if_neg q)
    · have q := at_ b (by rw [show (if b = a then _ else none) = some u from z]; exact (fun z => nomatch z))
      subst q
      have z' := (if_pos rfl).symm.trans z
      cases z'
      exact ⟨ha, by rw [List.length_map]; exact hl, vs, _, rv, ha⟩
theorem walk_ofG {l : PySem.W.OpenLaw} {n k : Nat} {q : Program} {loose : List Str} {XP : (Str → Option Value) → Heap → Prop} {YP : World → Heap → Prop} {d : DefRec} {K : Params → PySem.W.Frag} {CX : World → CXT} {sp : World → Sp} {x : Str}
    (hn : l.most = some n) (hn2 : n ≤ sizeLine) (hdf : d.params.defaults = []) (hr : Room k callerA) (hin : importsNone q = true)
    (hY : ∀ (w : World) (h : Heap), YP w h → (K w.params).In h)
    (F : ∀ (w : World) (mg : Str → Option Value) (fa : Addr) (h : Heap), (K w.params).In h → h.Ns mainGlobals mg → mg d.name = some (.ref fa) →
      ∃ fd : FuncData, (∀ (s : Shared) (u : Value), BindsTo s fd ⟨[u], []⟩ [(x, u)]) ∧
        ∀ base : Heap, (K w.params).In base → base.Ns mainGlobals mg → (base.get? sysModules).isSome = true → FnOkG l.prog w (K w.params) mg base (CX w) k fa fd [x] (sp w))
    (hsp : ∀ (w : World) (H : Hp) (a : Addr) (ns : List Int), ns.length ≤ n → Only H → SqL (K w.params) H a (ns.map V.int) → sp w [.ref a] H (fun v _ => v = .bl true) fun _ _ _ => False)
    (hCX : ∀ (w : World) (H : Hp) (s : Shared) (e : Value) (s' : Shared), CX w [] H s (fun _ _ _ => False) e s' → False) :
    PySem.W.WalkO q loose XP YP l.row.toRowW d [] (fun f vs => PySem.call f vs) := by
  refine Att.attach_call hn hdf ?_
  intro w s₀ s₁ mg mb fa o pm cd doc a vs ns G Y ho hd hcd hmg hobj hints hlen hg
  obtain ⟨fd, hb, hF⟩ := F w mg fa _ (hY w _ Y) G.T.g hmg
  exact law_callG (hY w _ Y) G.T.g G.T.b G.T.builtins G.T.nolimit (by obtain ⟨m, hm, _⟩ := (G.T.seer hin).mods; exact ⟨m, hm⟩) hg hobj hints (Nat.le_trans hlen hn2) hr hF hb (fun H hO hS => hsp w H a ns hlen hO hS) fun H e s' => hCX w H s₁ e s'
end My

/-! ## exceptions of the text's own classes, kept as values -/
namespace My
open PySem PySem.Spec PyProof.Rows L2
inductive Er | NoBase | NoNumber | NoFigures | NoRule | NoStand | NoGood | Endless | NoRules | NoStretch | TooMany | NoText | NoName | NoRow
  deriving DecidableEq
/-- where the classes stand -/
class ErT where
  ad : Er → Addr
  lack : Addr
/-- an exception of the class at C, whatever has become of its trace -/
def EV (C a : Addr) : HO := .ext fun h => ∃ (oe : Obj) (vs : Array Value), h.get? a = some oe ∧ Zc (.ref C) none oe ∧ oe.data = .fields vs
theorem EV_ok {P : Program} {w : World} {H : Hp} {h : Heap} {C a : Addr} {oe : Obj} {vs : Array Value} (e : h.get? a = some oe) (z : Zc (.ref C) none oe) (d : oe.data = .fields vs) : ObjOk P w H h a (EV C a) :=
  ⟨⟨oe, vs, e, z, d⟩, ⟨oe, e⟩, fun _ _ ⟨o, v, q, r⟩ k => ⟨o, v, k o q, r⟩⟩
section
variable [ErT] {F N H : Hp} {v : V} {α ρ : Type}
/-- an exception, or None -/
def RX (F : Hp) (v : V) : Option Er → Prop
  | none => v = .non
  | some e => ∃ a, v = .ref a ∧ F a = some (EV (ErT.ad e) a)
theorem RX.mono {o : Option Er} (s : Sub F N) (h : RX F v o) : RX N v o := by
  cases o with
  | none => exact h
  | some e => obtain ⟨a, h1, h2⟩ := h; exact ⟨a, h1, s _ _ h2⟩
theorem RX.isN {o : Option Er} (h : RX F v o) : decide (v = .non) = o.isNone := by
  cases o with
  | none => cases (show v = .non from h); rfl
  | some e => obtain ⟨a, rfl, _⟩ := h; rfl
theorem ev_isNX {ta : TE} {σ : L2.St} {o : Option Er} (ha : Evl.Ev ta σ H v) (h : RX F v o) : Evl.Ev (tIsN ta) σ H (.bl o.isNone) := fun H1 e Q q =>
  ha H1 e _ fun H2 e2 => by
    show Q (.bl (decide (v = .non))) H2
    rw [h.isN]; exact q H2 e2
theorem ev_notNX {ta : TE} {σ : L2.St} {o : Option Er} (ha : Evl.Ev ta σ H v) (h : RX F v o) : Evl.Ev (tNotN ta) σ H (.bl (!o.isNone)) := fun H1 e Q q =>
  ha H1 e _ fun H2 e2 => by
    show Q (.bl (!decide (v = .non))) H2
    rw [h.isN]; exact q H2 e2
end
/-- what comes back, or the way out -/
def exB {α ρ : Type} (r : Except Er α) (k : α → Option ρ) (ke : Er → Option ρ) : Option ρ := match r with | .ok x => k x | .error e => ke e
theorem exB_ok {α ρ : Type} {x : α} {k : α → Option ρ} {ke : Er → Option ρ} : exB (.ok x) k ke = k x := rfl
theorem exB_err {α ρ : Type} {e : Er} {k : α → Option ρ} {ke : Er → Option ρ} : exB (.error e) k ke = ke e := rfl

/-! #### data of any kind, seen at a type -/
class UD (α : Type) [TD α] where
  un : PyData → Option α
  ok : ∀ d x, un d = some x → TD.d x = d
instance : UD Int := ⟨asInt, fun d x e => by cases d <;> first | (cases e; rfl) | cases e⟩
instance : UD Bool := ⟨asBl, fun d x e => by cases d <;> first | (cases e; rfl) | cases e⟩
instance : UD Str := ⟨asStr, fun d x e => by cases d <;> first | (cases e; rfl) | cases e⟩
instance : UD PyData := ⟨some, fun d x e => by cases e; rfl⟩
def unAll {α : Type} [TD α] [UD α] : List PyData → Option (List α)
  | [] => some []
  | d :: ds => (UD.un d).bind fun x => (unAll ds).bind fun xs => some (x :: xs)
theorem unAll_ok {α : Type} [TD α] [UD α] : ∀ (ds : List PyData) (xs : List α), unAll ds = some xs → xs.map TD.d = ds
  | [], xs, e => by cases e; rfl
  | d :: ds, xs, e => by
    obtain ⟨x, hx, e⟩ := Option.bind_eq_some_iff.mp e
    obtain ⟨ys, hy, e⟩ := Option.bind_eq_some_iff.mp e
    cases e
    rw [List.map_cons, UD.ok d x hx, unAll_ok ds ys hy]
instance {α : Type} [TD α] [UD α] : UD (List α) := ⟨fun d => match d with | .list ds => unAll ds | _ => none, fun d xs e => by
  cases d with
  | list ds => exact congrArg PyData.list (unAll_ok ds xs e)
  | _ => cases e⟩
instance {α β : Type} [TD α] [UD α] [TD β] [UD β] : UD (α × β) := ⟨fun d => match d with | .tuple [a, b] => (UD.un a).bind fun x => (UD.un b).bind fun y => some (x, y) | _ => none, fun d p e => by
  match d, e with
  | .tuple [a, b], e =>
    obtain ⟨x, hx, e⟩ := Option.bind_eq_some_iff.mp e
    obtain ⟨y, hy, e⟩ := Option.bind_eq_some_iff.mp e
    cases e
    show PyData.tuple [TD.d x, TD.d y] = _
    rw [UD.ok a x hx, UD.ok b y hy]⟩
theorem un_of {α : Type} [TD α] [UD α] {F : Hp} {v : V} {d : PyData} {x : α} (h : RD F v d) (e : UD.un d = some x) : R F v x := by
  show RD F v (TD.d x)
  rw [UD.ok d x e]; exact h
/-! #### what the text says of a class -/
abbrev veT : List Value := [.type "ValueError", .type "Exception", .type "BaseException", .type "object"]
/-- made and raised -/
structure ErRaise (K : PySem.W.Frag) (mg : Str → Option Value) (n : Str) (C : Addr) : Prop where
  g : mg n = some (.ref C)
  x : PySem.W.excIn K C veT "ValueError.__new__" = true
  k : PySem.W.keepIn K (.ref C) = true
  b : PySem.W.subIn K (.ref C) (.type "BaseException") = some true
  t : PySem.W.typeIn K (.ref C) = some (.type "type")
def ers : List Er := [.NoBase, .NoNumber, .NoFigures, .NoRule, .NoStand, .NoGood, .Endless, .NoRules, .NoStretch, .TooMany, .NoText, .NoName, .NoRow]
def adOf (a1 a2 a3 a4 a5 a6 a7 a8 a9 a10 a11 a12 a13 : Addr) : Er → Addr
  | .NoBase => a1 | .NoNumber => a2 | .NoFigures => a3 | .NoRule => a4 | .NoStand => a5 | .NoGood => a6 | .Endless => a7
  | .NoRules => a8 | .NoStretch => a9 | .TooMany => a10 | .NoText => a11 | .NoName => a12 | .NoRow => a13
theorem mem_ers (e : Er) : e ∈ ers := by cases e <;> decide
@[reducible] def Er.nm : Er → Str
  | .NoBase => "NoBase" | .NoNumber => "NoNumber" | .NoFigures => "NoFigures" | .NoRule => "NoRule" | .NoStand => "NoStand" | .NoGood => "NoGood" | .Endless => "Endless"
  | .NoRules => "NoRules" | .NoStretch => "NoStretch" | .TooMany => "TooMany" | .NoText => "NoText" | .NoName => "NoName" | .NoRow => "NoRow"
/-- what is asked of the written part, class by class -/
def erB (K : PySem.W.Frag) (L C : Addr) : Bool :=
  PySem.W.excIn K C veT "ValueError.__new__" && (PySem.W.keepIn K (.ref C) && (PySem.W.subIn K (.ref C) (.type "BaseException") == some true && (PySem.W.typeIn K (.ref C) == some (.type "type") &&
  (PySem.W.findIn K (.ref C) "__getattribute__" == some (some (.builtin "BaseException.__getattribute__")) && (PySem.W.findIn K (.ref C) "__getattr__" == some none && (PySem.W.hasDictIn K C &&
  (PySem.W.findIn K (.ref C) "__class__" == some (some (.builtin "object.__class__")) && (PySem.W.mroIn K C (.type "object") == some true && (PySem.W.exmOne K (.ref C) (.ref L) == some true &&
  (PySem.W.kitOne K (.type "NoneType") (.ref C) == some false && PySem.W.kitOne K (.ref C) (.type "ValueError") == some true))))))))))
def erAllB [ErT] (K : PySem.W.Frag) : Bool :=
  ers.all (fun e => erB K ErT.lack (ErT.ad e) && ers.all fun f => PySem.W.kitOne K (.ref (ErT.ad e)) (.ref (ErT.ad f)) == some (decide (e = f))) &&
  (PySem.W.specialIn K (.builtin "object.__class__") "__get__" == some (some (.builtin "getset_descriptor.__get__")) && (PySem.W.takesIn K (.builtin "object.__class__") == some true && PySem.W.kitOne K (.type "NoneType") (.type "ValueError") == some false))
/-- what the text says of all its exceptions -/
structure ErTxt [ErT] (K : PySem.W.Frag) (mg : Str → Option Value) : Prop where
  r : ∀ e : Er, ErRaise K mg e.nm (ErT.ad e)
  lg : mg "LackError" = some (.ref ErT.lack)
  c : ∀ e : Er, ExcC K (ErT.ad e)
  m : ∀ e : Er, PySem.W.exmOne K (.ref (ErT.ad e)) (.ref ErT.lack) = some true
  kit : ∀ e f : Er, PySem.W.kitOne K (.ref (ErT.ad e)) (.ref (ErT.ad f)) = some (decide (e = f))
  non : ∀ f : Er, PySem.W.kitOne K (.type "NoneType") (.ref (ErT.ad f)) = some false
  ve : ∀ e : Er, PySem.W.kitOne K (.ref (ErT.ad e)) (.type "ValueError") = some true
  nv : PySem.W.kitOne K (.type "NoneType") (.type "ValueError") = some false
theorem erTxt_mk [ErT] {K : PySem.W.Frag} {mg : Str → Option Value} (b : erAllB K = true) (g : ∀ e : Er, mg e.nm = some (.ref (ErT.ad e))) (lg : mg "LackError" = some (.ref ErT.lack)) : ErTxt K mg := by
  unfold erAllB at b
  simp only [Bool.and_eq_true, beq_iff_eq] at b
  obtain ⟨b1, b2, b3, b4⟩ := b
  have b1 := fun e => List.all_eq_true.mp b1 e (mem_ers e)
  simp only [Bool.and_eq_true] at b1
  have h := fun e => (b1 e).1
  unfold erB at h
  simp only [Bool.and_eq_true, beq_iff_eq] at h
  exact ⟨fun e => ⟨g e, (h e).1, (h e).2.1, (h e).2.2.1, (h e).2.2.2.1⟩, lg, fun e => ⟨(h e).2.2.2.2.1, (h e).2.2.2.2.2.1, (h e).2.2.1, (h e).2.2.2.2.2.2.1, (h e).2.2.2.2.2.2.2.1, b2, b3, (h e).2.2.2.2.2.2.2.2.1⟩,
    fun e => (h e).2.2.2.2.2.2.2.2.2.1, fun e f => by
      have := List.all_eq_true.mp (b1 e).2 f (mem_ers f)
      exact beq_iff_eq.mp this, fun f => (h f).2.2.2.2.2.2.2.2.2.2.1, fun e => (h e).2.2.2.2.2.2.2.2.2.2.2, b4⟩
section
variable {X : Cx}
theorem ps_raiseE {W : WX} {x m : Str} {C : Addr} {j : Nat} {p p2 p3 pos : Pos} (hc : X.calm = true) (tk : Takes X W) (T : ErRaise X.K X.mg x C) (hg : Gl X x) (hdb : (x == ("__debug__" : Str)) = false := by decide) :
    PS X (.Raise (some (.Call (.Name x p) [.Constant (.str m) j p2] [] p3)) none pos) (fun _ σ H => W (.ref C) none σ H) :=
  ps_raise hc tk (pmk_own PySem.F.excBase_ValueError T.x T.g T.k (raises_own T.b T.t) hg hdb)
theorem takesN : Takes X (fun _ _ _ _ => False) := fun _ _ x => by
  obtain ⟨_, _, _, _, _, _, _, _, _, _, _, _, _, _, _, _, z⟩ := x
  exact z.elim
end

/-! #### a try whose except suite keeps what was raised -/
section
variable {X : Cx} {pins : List (Addr × Obj)} {σ : L2.St} {H : Hp} {sI s s' : Shared} {B : Heap}
/-- on the ground, the exception tracked from here on -/
theorem landedX (I : Inv X pins σ H sI) (nb : ∀ b o, sI.heap.get? b = some o → b ∉ frs X.stack → B.get? b = some o) (st : B.StaysIn s'.heap) (up : sI.heap.UpToSlots s'.heap) (os : s'.os = sI.os) (ag : AllBare s'.gens)
    {a C : Addr} {oe : Obj} {vs : Array Value} (hB : B.get? a = none) (nf : a ∉ frs X.stack) (na : H a = none) (he : s'.heap.get? a = some oe) (hz : Zc (.ref C) none oe) (hd : oe.data = .fields vs) : Inv X pins σ (upd H a (EV C a)) s' := by
  have hI : ∀ b o, sI.heap.get? b = some o → b ≠ a := fun b o e z => by
    subst z
    have := nb b o e nf
    rw [hB] at this; cases this
  have nF : ∀ b ∈ frs X.stack, ∀ o, sI.heap.get? b = some o → ∃ sl, s'.heap.get? b = some { o with slots := sl } := fun b hb o e => by
    obtain ⟨_, o', e', hdd⟩ := I.stack.mem hb
    rw [e] at e'; cases e'
    exact up b o e hdd
  have J := I.call (ch := []) (h' := s'.heap) (g' := s'.gens) (t' := s'.toks) (d' := s'.drawn) (H' := upd H a (EV C a))
    ⟨fun b o e _ hb _ => st b o (nb b o e hb), fun b o e _ hb _ => nF b hb o e, fun b o e n _ => by rw [upd_ne (hI b o e)]; exact n, fun b o e _ => by
      by_cases hb : b ∈ frs X.stack
      · obtain ⟨sl, q⟩ := nF b hb o e
        exact ⟨_, q⟩
      · exact ⟨o, st b o (nb b o e hb)⟩, fun b xs e => by rw [upd_ne (ne_of_none e na)]; exact e, fun b o u e => by rw [upd_ne (ne_of_none e na)]; exact e, fun b ps e => ⟨#[], by rw [upd_ne (ne_of_none e na), e]; simp⟩⟩
    (HOk.laidN (I.inGround nb) st na (EV_ok he hz hd)) ag (fun _ z => nomatch z)
  obtain ⟨a1, a2, a3, a4, a5⟩ := s'
  have e5 : a5 = sI.os := os
  subst e5
  exact J
theorem toSuite (I : Inv X pins σ H s) (a : Addr) : Inv (X.suite a (X.pn ++ pins)) [] σ H s :=
  ⟨I.ok.suite _ _, I.os, I.bare, I.base, I.loc, I.cell, I.free, I.freeC, fun p hp => I.pin p (by rw [List.append_nil] at hp; exact hp), I.hok, I.len⟩
theorem ofSuite {a : Addr} {pn' : List (Addr × Obj)} (I : Inv (X.suite a (X.pn ++ pins)) pn' σ H s) (ok : X.Ok) : Inv X pins σ H s :=
  ⟨ok, I.os, I.bare, I.base, I.loc, I.cell, I.free, I.freeC, fun p hp => I.pin p (List.mem_append_left _ hp), I.hok, I.len⟩
end
/-- the wish of such a clause: any exception of the text that L takes in -/
def wKeep (K : PySem.W.Frag) (L : Value) (i : Nat) (ts : TS) (D : Ends) : WX := fun cls d σ H =>
  ∃ C, cls = .ref C ∧ d = none ∧ PySem.W.exmOne K cls L = some true ∧
    ∀ a, H a = none → ts { nx := fun σ' H' => D.nx (σ'.set i none) H', rt := D.rt, bk := fun σ' H' => D.bk (σ'.set i none) H', ct := fun σ' H' => D.ct (σ'.set i none) H' } (σ.set i (some (.ref a))) (upd H a (EV C a))
section
variable {X : Cx} {x n : Str} {L : Value} {i : Nat} {body suite : List Stmt} {b₀ : Stmt} {np pos pos' : Pos} {tb : WX → TS} {ts : TS}
theorem ps_try_keep (hs : X.stack = X.env :: X.outer) (hf : X.env.frame = some X.env.locals) (hN : X.N.Nodup) (hi : X.N[i]? = some n) (hln : X.env.kindOf n = some .local) (hc : Names X x L)
    (hb : ∀ (W : WX) (pn : List (Addr × Obj)) (xe : Value → Shared → Prop), Takes (X.tr pn xe) W → PassesOwn (model X.prog X.w) X.A X.env xe → PSs (X.tr pn xe) body (tb W))
    (hsu : ∀ (a : Addr) (pn : List (Addr × Obj)), PSs (X.suite a pn) (b₀ :: suite) ts) :
    PS X (.Try body [.ExceptHandler (some (.Name x np)) (some n) (b₀ :: suite) pos'] [] [] pos) (fun D σ H => tb (wKeep X.K L i ts D) D σ H) := by
  constructor
  intro pins s σ H D I h
  have ok := I.ok
  have hfr : X.A.frames = some (X.env :: X.outer) := by rw [ok.frames, hs]
  refine wpAny_Try_except (wpAny_mono ((hb (wKeep X.K L i ts D) (X.pn ++ pins) _ (fun u s' raised => ?_) PassesOwn.looking).run [] s σ H D (I.toTry _) h) (fun f s1 hsp => ?_) (fun e s1 he => he))
  · obtain ⟨a, B, sI, pins', σ', H', cls, d, rfl, J', nb, up, sky, na, os, ag, C, rfl, rfl, hm, hyes⟩ := raised
    have J : Inv X pins σ' H' sI := J'.ofTry ok
    have sky' : Sky B (X.env :: X.outer) a (Zc (.ref C) none) X.env.locals s'.heap := by rw [← hs]; exact sky
    show wpAny (model X.prog X.w) X.A (noteFrame (.ref a) X.env) _ _ _
    refine Sky.land Zc.steady hfr hf sky' fun h3 fl3 up3 => ?_
    have J3 : Inv X pins σ' H' { s' with heap := h3 } := J.landed nb fl3.1 (up.trans up3) os ag
    obtain ⟨oe3, vs3, he3, hz3, hd3⟩ := fl3.there
    have nfr : a ∉ frs X.stack := fun hmem => by
      rw [hs] at hmem
      obtain ⟨_, o', e', hnf⟩ := fl3.2.2.1.mem hmem
      rw [he3] at e'; cases e'
      exact hnf _ hd3
    have S3 : Inv (X.suite a (X.pn ++ pins)) [] σ' H' { s' with heap := h3 } := toSuite J3 a
    refine wpAny_handleBy_cons (codeAny_handlers_test ?_) (by intro q; cases q)
    have LT : PySem.W.Looks (model X.prog X.w) h3 (typeOf (.ref a)) (.ref C) := fun A Q E s k q => wpAny_typeOf_ref (k _ _ he3) (by rw [hz3.1]; exact q)
    have LM := PySem.W.exm_one (M := model X.prog X.w) (J3.kIn) LT hm
    have test : ∀ {Q : Value → Shared → Prop} {E : Value → Shared → Prop}, Q L { s' with heap := h3 } → wpAny (model X.prog X.w) (X.A.mark (some (.ref a))) (eval (.Name x np) X.env) Q E { s' with heap := h3 } := fun {Q E} q => by
      obtain ⟨hg, hdbg, hm | ⟨hm, hv, hnn⟩⟩ := hc
      · exact ld_glob (X := X.suite a (X.pn ++ pins)) S3 hg hm q hdbg
      · exact ld_blt (X := X.suite a (X.pn ++ pins)) S3 hg hm hv q hnn hdbg
    refine test (LM.here ?_)
    refine codeAny_handlers_suite_as ?_
    refine HandSPX.lands_againZ fl3 fun h4 fl4 up4 => ?_
    obtain ⟨oe4, vs4, he4, hz4, hd4⟩ := fl4.there
    have J4 : Inv X pins σ' (upd H' a (EV C a)) { s' with heap := h4 }   := landedX (s' := { s' with heap := h4 }) J nb fl4.1 ((up.trans up3).trans up4) os ag fl4.2.1 nfr na he4 hz4 hd4
    refine store_ok (X := X.suite a (X.pn ++ pins)) (v := .ref a) (toSuite J4 a) hN hi (.inl hln) rfl (fun s5 S5 => ?_) (.inr hln)
    refine wpAny_mono ((hsu a (X.pn ++ pins)).run [] s5 _ _ _ S5 (hyes a na)) (fun f s6 hsp => ?_) (fun _ _ z => False.elim z)
    have fin : ∀ {σ6 : L2.St} {H6 : Hp} {Q : Shared → Prop}, Inv (X.suite a (X.pn ++ pins)) [] σ6 H6 s6 → (∀ s7, Inv X pins (σ6.set i none) H6 s7 → Q s7) →
        wpAny (model X.prog X.w) X.A (do bindName X.env n .none; unbindBehindTheSuite X.env n pos') (fun _ s7 => Q s7) X.xe s6 := fun {σ6 H6 Q} S6 hq => gone_ok (ofSuite S6 ok) hN hi hln hq
    match f, hsp with
    | .next, ⟨_, _, S6, q6⟩ => exact fin S6 fun s7 J7 => ⟨_, _, J7, q6⟩
    | .brk, ⟨_, _, S6, q6⟩ => exact fin S6 fun s7 J7 => ⟨_, _, J7, q6⟩
    | .cont, ⟨_, _, S6, q6⟩ => exact fin S6 fun s7 J7 => ⟨_, _, J7, q6⟩
    | .ret _, ⟨_, _, _, S6, r6, q6⟩ => exact fin S6 fun s7 J7 => ⟨_, _, _, J7, r6, q6⟩
  · match f, hsp with
    | .next, ⟨σ', H', J', q⟩ => exact wpAny_execs_nil ⟨σ', H', J'.ofTry ok, q⟩
    | .brk, ⟨σ', H', J', q⟩ => exact ⟨σ', H', J'.ofTry ok, q⟩
    | .cont, ⟨σ', H', J', q⟩ => exact ⟨σ', H', J'.ofTry ok, q⟩
    | .ret _, ⟨v, σ', H', J', r, q⟩ => exact ⟨v, σ', H', J'.ofTry ok, r, q⟩
end

/-! #### isinstance of what was kept -/
section
variable [ErT] {X : Cx}
/-- isinstance(x, c): x an exception kept, or None -/
def rIsX (K : PySem.W.Frag) : List V → Hp → VK → Prop := fun xs H Q => ∃ (F : Hp) (x c : V) (u : Value) (o : Option Er) (f : Er → Bool), xs = [x, c] ∧ ClsV c u ∧ Sub F H ∧ RX F x o ∧
  PySem.W.kitOne K (.type "NoneType") u = some false ∧ (∀ e, ExcC K (ErT.ad e) ∧ PySem.W.kitOne K (.ref (ErT.ad e)) u = some (f e)) ∧ Q (.bl (match o with | none => false | some e => f e)) H
theorem call_isX : CallR X (.builtin "isinstance") (rIsX X.K) := by
  intro pins s σ H xs us Q I r h
  obtain ⟨F, x, c, u, o, f, rfl, hc, sb, hx, kn, ke, q⟩ := h
  cases o with
  | none =>
    cases (show x = .non from hx)
    exact call_isi pins s σ H _ us Q I r ⟨_, _, _, _, _, rfl, hc, TyX.base .non, kn, q⟩
  | some e =>
    obtain ⟨a, rfl, ha⟩ := hx
    obtain ⟨kc, kf⟩ := ke e
    cases r with
    | cons rx rr =>
      cases rr with
      | cons rt rr =>
        cases rr
        cases rx
        have ec := hc.eq rt
        subst ec
        obtain ⟨⟨oe, vs, hget, hz, hv⟩, _, _⟩ := I.hok a _ (sb _ _ ha)
        have J : PySem.W.InstAt s.heap a oe (ErT.ad e) none := by
          obtain ⟨oc, od, oda, osl⟩ := oe
          obtain ⟨h1, h2⟩ := hz
          dsimp only at h1 h2 hv
          subst h1 h2 hv
          exact ⟨hget, rfl, rfl, trivial⟩
        exact PySem.W.kia_one (PySem.W.handS_kitx_exc kc.hg kc.hk kc.hs kc.hd kc.ha kc.hn kc.ht kc.hm) I.kIn J kf (fun z => nomatch z) fun tk => ⟨.bl (f e), H, I.kept (t' := tk) fun _ _ z => z, rfl, q⟩
end
/-! #### steps -/
theorem x_callS {σ : L2.St} {H : Hp} {Q : VK} {tA : TA} {sp : Sp} {E : L2.St → XK} (h : tA σ H fun vs H1 => sp vs H1 Q (E σ)) : tCallS sp E tA σ H Q := h
section
variable [ErT] {K : PySem.W.Frag} {mg : Str → Option Value}
theorem x_keep {i : Nat} {ts : TS} {D : Ends} {σ : L2.St} {H : Hp} {e : Er} (T : ErTxt K mg)
    (h : ∀ a, H a = none → ts { nx := fun σ' H' => D.nx (σ'.set i none) H', rt := D.rt, bk := fun σ' H' => D.bk (σ'.set i none) H', ct := fun σ' H' => D.ct (σ'.set i none) H' } (σ.set i (some (.ref a))) (upd H a (EV (ErT.ad e) a))) :
    WE (wKeep K (.ref ErT.lack) i ts D) σ (.ref (ErT.ad e)) none H := ⟨_, rfl, rfl, T.m e, h⟩
theorem x_stE {t : TS} {D : Ends} {σ σ' : L2.St} {H : Hp} (e : σ = σ') (h : t D σ' H) : t D σ H := by rw [e]; exact h
theorem x_nxS {D : Ends} {i : Nat} {σ σ' : L2.St} {H : Hp} (e : σ.set i none = σ') (h : D.nx σ' H) : ({ nx := fun σ' H' => D.nx (σ'.set i none) H', rt := D.rt, bk := fun σ' H' => D.bk (σ'.set i none) H', ct := fun σ' H' => D.ct (σ'.set i none) H' } : Ends).nx σ H := by
  show D.nx (σ.set i none) H
  rw [e]; exact h
theorem x_nxE {σ σ' : L2.St} {H : Hp} {P : L2.St → Hp → Prop} (e : σ = σ') (h : P σ' H) : P σ H := by rw [e]; exact h
theorem isiX_er {F H : Hp} {v : V} {o : Option Er} {Q : VK} (T : ErTxt K mg) (s : Sub F H) (h : RX F v o) (f : Er) (q : Q (.bl (decide (o = some f))) H) : rIsX K [v, .ref (ErT.ad f)] H Q :=
  ⟨F, v, _, _, o, fun e => decide (e = f), rfl, ClsV.own _, s, h, T.non f, fun e => ⟨T.c e, T.kit e f⟩, by
    cases o with
    | none => exact q
    | some e =>
      have : decide (some e = some f) = decide (e = f) := decide_eq_decide.mpr Option.some_inj
      rw [this] at q; exact q⟩
theorem isiX_ve {F H : Hp} {v : V} {o : Option Er} {Q : VK} (T : ErTxt K mg) (s : Sub F H) (h : RX F v o) (q : Q (.bl o.isSome) H) : rIsX K [v, .ty "ValueError"] H Q :=
  ⟨F, v, _, _, o, fun _ => true, rfl, ClsV.ty _, s, h, T.nv, fun e => ⟨T.c e, T.ve e⟩, by cases o <;> exact q⟩
theorem RX_none {F : Hp} : RX F .non none := rfl
end

/-! #### dict([(k, v), ..]) of ints -/
def putI (kvs : List (Int × Int)) (k v : Int) : List (Int × Int) :=
  if (kvs.any fun p => decide (p.1 = k)) = true then kvs.map (fun p => if p.1 = k then (p.1, v) else p) else kvs ++ [(k, v)]
def mergeI (kvs more : List (Int × Int)) : List (Int × Int) := more.foldl (fun acc p => putI acc p.1 p.2) kvs
def kvI (p : Int × Int) : Key × V := (.inl p.1, .int p.2)
theorem putK_kvI (kvs : List (Int × Int)) (k v : Int) : putK (kvs.map kvI) (.inl k) (.int v) = (putI kvs k v).map kvI := by
  have e : ((kvs.map kvI).any fun kv => decide (kv.1 = (.inl k : Key))) = kvs.any fun p => decide (p.1 = k) := by
    rw [List.any_map]
    refine congrArg (fun f => kvs.any f) (funext fun p => ?_)
    exact decide_eq_decide.mpr ⟨fun h => Sum.inl.inj h, fun h => congrArg Sum.inl h⟩
  unfold putK putI
  rw [e]
  by_cases h : (kvs.any fun p => decide (p.1 = k)) = true
  · rw [if_pos h, if_pos h, List.map_map, List.map_map]
    refine List.map_congr_left fun p _ => ?_
    by_cases hk : p.1 = k
    · show (if (Sum.inl p.1 : Key) = .inl k then ((Sum.inl p.1 : Key), V.int v) else kvI p) = kvI (if p.1 = k then (p.1, v) else p)
      rw [if_pos hk, if_pos (congrArg Sum.inl hk)]; rfl
    · show (if (Sum.inl p.1 : Key) = .inl k then ((Sum.inl p.1 : Key), V.int v) else kvI p) = kvI (if p.1 = k then (p.1, v) else p)
      rw [if_neg hk, if_neg fun e => hk (Sum.inl.inj e)]
  · rw [if_neg h, if_neg h, List.map_append]; rfl
theorem mergeK_kvI : ∀ (more kvs : List (Int × Int)), mergeK (kvs.map kvI) (more.map kvI) = (mergeI kvs more).map kvI
  | [], _ => rfl
  | p :: more, kvs => by
    show mergeK (putK (kvs.map kvI) (.inl p.1) (.int p.2)) (more.map kvI) = (mergeI (putI kvs p.1 p.2) more).map kvI
    rw [putK_kvI, mergeK_kvI more]
theorem mergeK_nil (xs : List (Int × Int)) : mergeK [] (xs.map kvI) = (mergeI [] xs).map kvI := mergeK_kvI xs []
def dictII (xs : List (Int × Int)) : PyData := .dict ((mergeI [] xs).map fun p => (.int p.1, .int p.2))
theorem RKs_kvI {F : Hp} : ∀ kvs : List (Int × Int), RKs F (kvs.map kvI) (kvs.map fun p => (PyData.int p.1, PyData.int p.2))
  | [] => .nil
  | p :: kvs => .int (.int _) (RKs_kvI kvs)
theorem pairs_of {K : PySem.W.Frag} {F H : Hp} (s : Sub F H) : ∀ {us : List V} {xs : List (Int × Int)}, Rs F us xs → ∃ ps : List Addr, us = ps.map V.ref ∧ Paired (fun p kv => SqT K H p [kV kv.1, kv.2]) ps (xs.map kvI)
  | _, [], r => by cases r; exact ⟨[], rfl, .nil⟩
  | _, x :: xs, r => by
    cases r with
    | cons h r =>
      obtain ⟨ps, rfl, hp⟩ := pairs_of (K := K) s (xs := xs) r
      obtain ⟨a, v1, v2, rfl, fa, d1, d2⟩ := tup2_of (α := Int) (β := Int) h
      obtain rfl := int_of d1
      obtain rfl := int_of d2
      exact ⟨a :: ps, rfl, .cons (.inl (.inl (s _ _ fa))) hp⟩
theorem dictII_of {K : PySem.W.Frag} {F H : Hp} {a : Addr} {us : List V} {xs : List (Int × Int)} {Q : VK} (h : H a = some (.lst us)) (s : Sub F H) (r : Rs F us xs) (q : ∀ p, H p = none → Q (.ref p) (upd H p (.dK ((mergeI [] xs).map kvI)))) :
    ∃ (a' : Addr) (ps : List Addr) (kvs : List (Key × V)), [V.ref a] = [.ref a'] ∧ SqL K H a' (ps.map V.ref) ∧ Paired (fun p kv => SqT K H p [kV kv.1, kv.2]) ps kvs ∧ ∀ p, H p = none → Q (.ref p) (upd H p (.dK (mergeK [] kvs))) := by
  obtain ⟨ps, rfl, hp⟩ := pairs_of (K := K) s r
  exact ⟨a, ps, xs.map kvI, rfl, .inl (.inl h), hp, fun p hn => by
    have e : mergeK [] (xs.map kvI) = (mergeI [] xs).map kvI := mergeK_kvI xs []
    rw [e]; exact q p hn⟩
end My

/-! ## texts -/
namespace My
open PySem PySem.Spec PyProof.Rows L2
/-- a constant of the module, a text -/
structure CAtS (mg : Str → Option Value) (nm : Str) (x : Str) where
  t : Tok
  g : mg nm = some (.str x t)
theorem strs_of {F : Hp} : ∀ {us : List V} {xs : List Str}, Rs F us xs → us = xs.map V.str
  | _, [], r => by cases r; rfl
  | _, x :: xs, r => by cases r with | cons h r => cases h; rw [strs_of r]; rfl
theorem x_m1 {to te : TE} {σ : L2.St} {H : Hp} {Q : VK} {r : V → List V → Hp → VK → Prop} (h : to σ H fun x H1 => (∃ a, x = .str a) ∧ te σ H1 fun y H2 => r x [y] H2 Q) : tM1 r to te σ H Q := h
theorem join_of {K : PySem.W.Frag} {H F : Hp} {a : Str} {p : Addr} {us : List V} {ys : List Str} {Q : VK} (h : H p = some (.lst us)) (r : Rs F us ys) (c : (ys.map (·.length)).sum + ys.length * a.length ≤ 16777216) (q : Q (.str (Txt.join a ys)) H) :
    ∃ a' p', ∃ ys : List Str, V.str a = .str a' ∧ [V.ref p] = [.ref p'] ∧ (SqL K H p' (ys.map V.str) ∨ SqT K H p' (ys.map V.str)) ∧ (ys.map (·.length)).sum + ys.length * a'.length ≤ 16777216 ∧ Q (.str (Txt.join a' ys)) H :=
  ⟨a, p, ys, rfl, rfl, .inl (.inl (.inl (by rw [← strs_of r]; exact h))), c, q⟩
theorem join_at {H F : Hp} {p : Addr} {us : List V} {ys : List Str} (h : H p = some (.lst us)) (r : Rs F us ys) : H p = some (.lst (ys.map V.str)) := by rw [← strs_of r]; exact h
theorem ixS_of {z : Str} {i : Int} {c : Nat} {H : Hp} {Q : VK} (hz : z.length ≤ 16777216) (h : atI z.cps.toList i = some c) (q : Q (.str ⟨#[c]⟩) H) : rIxS (.str z) (.int i) H Q :=
  ⟨z, i, c, rfl, rfl, by rw [sizeLine_eq]; exact hz, h, q⟩

/-! #### a text, sign by sign -/
theorem x_iterS {te : TE} {σ : L2.St} {H : Hp} {R : It → Hp → Prop} (h : te σ H fun v H1 => ∃ x, v = .str x ∧ R (Its x) H1) : iStr te σ H R := h
section
variable {g : TG} {tt : TT} {te : TE} {vs : List Nat} {σ : L2.St} {H1 : Hp} {Dl : Addr} {Qd : Hp → Prop}
theorem lc_str {z : Str} (W : List Nat → Hp → Prop) (h0 : W z.cps.toList (upd H1 Dl (.lst [])))
    (hs : ∀ c ts H, W (c :: ts) H → g (.str ⟨#[c]⟩) (wipe σ vs) H fun σ2 H2 => wipe σ2 vs = wipe σ vs ∧ tt σ2 H2 fun b H3 =>
        if b = true then te σ2 H3 fun y H4 => ∃ acc, H4 Dl = some (HO.lst acc) ∧ acc.length < sizeLine ∧ W ts (upd H4 Dl (HO.lst (acc ++ [y]))) else W ts H3) (hd : ∀ H, W [] H → Qd H) :
    ∃ W : Nat → Nat → Hp → Prop, (∃ m, W 0 m (upd H1 Dl (HO.lst []))) ∧ ∀ (i m : Nat) (H : Hp), W i m H → (Its z).stop i H ∧ Qd H ∨
      (Its z).go i H ∧ ∃ Nx : Hp → Prop, (∀ (H' : Hp), Nx H' → ∃ m', m' < m ∧ W (i + 1) m' H') ∧ ∀ (x : V) (H' : Hp), (Its z).yld i H x H' →
        g x (wipe σ vs) H' fun σ2 H2 => wipe σ2 vs = wipe σ vs ∧ tt σ2 H2 fun b H3 => if b = true then te σ2 H3 fun y H4 => ∃ acc, H4 Dl = some (HO.lst acc) ∧ acc.length < sizeLine ∧ Nx (upd H4 Dl (HO.lst (acc ++ [y]))) else Nx H3 := by
  refine lc_it walk_str (fun i H => W (z.cps.toList.drop i) H) (by rw [List.drop_zero]; exact h0) (fun _ _ _ _ => trivial) (fun i x H H' hi h y => ?_) fun H h => ?_
  · obtain ⟨rfl, c, hc, rfl⟩ := y
    have e3 : z.cps.toList[i]? = some c := by rw [Array.getElem?_toList]; exact hc
    have h' : W (z.cps.toList.drop i) H' := h
    rw [drop_cons e3] at h'
    exact hs _ _ _ h'
  · have h' : W (z.cps.toList.drop z.cps.size) H := h
    rw [← Array.length_toList, List.drop_length] at h'
    exact hd H h'
end
theorem strs_Rs {F : Hp} : ∀ ys : List Str, Rs F (ys.map V.str) ys
  | [] => .nil
  | y :: ys => .cons (.str y) (strs_Rs ys)
/-- where a text stands in another one, first -/
def sIdx (a b : Str) : Option Nat := (Builtin.Str.occurrences a b 0 a.length 1).head?
theorem sidx_ex {a b : Str} {i : Nat} (h : sIdx a b = some i) : ∃ rest, Builtin.Str.occurrences a b 0 a.length 1 = i :: rest := by
  unfold sIdx at h
  cases e : Builtin.Str.occurrences a b 0 a.length 1 with
  | nil => rw [e] at h; cases h
  | cons j rest => rw [e] at h; cases h; exact ⟨rest, rfl⟩
theorem split_of {a b : Str} {H : Hp} {Q : VK} (h : (b.length == 0) = false) (c : a.length + 2 ≤ 16777216) (q : rNewStrs (Txt.split a b) H Q) :
    ∃ a' b', V.str a = .str a' ∧ [V.str b] = [.str b'] ∧ (b'.length == 0) = false ∧ a'.length + 2 ≤ sizeLine ∧ rNewStrs (Txt.split a' b') H Q := ⟨a, b, rfl, rfl, h, szle c, q⟩

/-! #### the script, read where it stands -/
def ScR (K : PySem.W.Frag) (H : Hp) (v : V) (ns : List Int) : Prop := ∃ a, v = .ref a ∧ SqL K H a (ns.map V.int)
theorem SqL_gr {K : PySem.W.Frag} {F H N H' : Hp} {a : Addr} {us : List V} (s : SqL K H a us) (g : Gr NA F H N H') : SqL K H' a us := by
  rcases s with (h | ⟨o, h⟩) | h
  · exact .inl (.inl (g.keep _ _ id h))
  · exact .inl (.inr ⟨o, g.keep _ _ id h⟩)
  · exact .inr h
theorem atI_map {α β : Type} {f : α → β} {xs : List α} {i : Int} {x : α} (h : atI xs i = some x) : atI (xs.map f) i = some (f x) := by
  unfold atI at h ⊢
  rw [List.length_map]
  cases e : ixN xs.length i with
  | none => rw [e] at h; cases h
  | some j =>
    rw [e] at h
    have h' : xs[j]? = some x := h
    show (xs.map f)[j]? = _
    rw [List.getElem?_map, h']; rfl

/-! #### dicts that are ours to change -/
structure OwO (H0 F H : Hp) (p : Addr) (o : HO) : Prop where
  at_ : H p = some o
  nf : F p = none
  n0 : H0 p = none
section
variable {A : Addr → Prop} {F0 H0 F F' H N H' : Hp} {p q : Addr} {o o' : HO} {us ws : List V} {as : List Addr} {xs : List (List Int)}
theorem OwO.new (G : Gr A F0 H0 F H) (hp : H p = none) : OwO H0 F (upd H p o) p o := ⟨upd_same, G.sub.none hp, G.fresh hp⟩
theorem OwO.step (w : OwO H0 F H p o) (g : Gr NA F H N H') : OwO H0 N H' p o := ⟨g.keep p _ id w.at_, g.own p (by rw [w.at_]; exact (fun z => nomatch z)) w.nf, w.n0⟩
theorem OwO.stepA (w : OwO H0 F H p o) (g : Gr A F H N H') (h : ¬ A p) : OwO H0 N H' p o := ⟨g.keep p _ h w.at_, g.own p (by rw [w.at_]; exact (fun z => nomatch z)) w.nf, w.n0⟩
theorem OwO.mut (w : OwO H0 F H p o) : OwO H0 F (upd H p o') p o' := ⟨upd_same, w.nf, w.n0⟩
theorem OwO.other (w : OwO H0 F H p o) (h : q ≠ p) : OwO H0 F (upd H q (.lst ws)) p o := ⟨by rw [upd_ne h.symm]; exact w.at_, w.nf, w.n0⟩
theorem OwO.otherO (w : OwO H0 F H p o) (h : q ≠ p) : OwO H0 F (upd H q o') p o := ⟨by rw [upd_ne h.symm]; exact w.at_, w.nf, w.n0⟩
theorem OwO.ne_new (w : OwO H0 F H p o) (hq : H q = none) : p ≠ q := ne_of_none w.at_ hq
theorem OwO.mutG (w : OwO H0 F H p o) (G : Gr A F0 H0 F H) : Gr A F0 H0 F (upd H p o') := G.mut w.n0 w.nf
theorem OwO.frzN (w : OwO H0 F H q o) (h : q ≠ p) (nf : ∀ q, q ≠ p → F q = none → F' q = none) : OwO H0 F' H q o := ⟨w.at_, nf _ h w.nf, w.n0⟩
theorem OwO.ne_fz {l : List Addr} (w : OwO H0 F H q o) (fz : ∀ a ∈ l, H a = none) : q ∉ l := fun h => by have := fz q h; rw [w.at_] at this; cases this
theorem Ow.otherO (w : Ow H0 F H p us) (h : q ≠ p) : Ow H0 F (upd H q o) p us := ⟨by rw [upd_ne h.symm]; exact w.at_, w.nf, w.n0⟩
theorem OwL.otherO (w : OwL H0 F H p as xs) (h : q ∉ p :: as) : OwL H0 F (upd H q o) p as xs := w.keep (fun a o' ha e => by rw [upd_ne (show a ≠ q from fun z => h (by rw [← z]; exact ha))]; exact e) w.nf
end
def RsK {κ α β : Type} [TD β] (key : α → κ) (F : Hp) (kvs : List (κ × V)) (xs : List (α × β)) : Prop := Paired (fun (kv : κ × V) (x : α × β) => kv.1 = key x.1 ∧ R F kv.2 x.2) kvs xs
def getT {α β : Type} [DecidableEq α] (xs : List (α × β)) (k : α) : Option β := (xs.find? fun x => decide (x.1 = k)).map (·.2)
def putT {α β : Type} [DecidableEq α] (xs : List (α × β)) (k : α) (v : β) : List (α × β) :=
  if (xs.any fun x => decide (x.1 = k)) = true then xs.map (fun x => if x.1 = k then (x.1, v) else x) else xs ++ [(k, v)]
section
variable {κ α β : Type} [DecidableEq κ] [DecidableEq α] [TD β] {key : α → κ} {F F' : Hp} {kvs : List (κ × V)} {xs : List (α × β)}
theorem RsK_mono (s : Sub F F') (r : RsK key F kvs xs) : RsK key F' kvs xs := paired_mono r fun _ _ _ h => ⟨h.1, RD.mono s h.2⟩
theorem RsK_len (r : RsK key F kvs xs) : kvs.length = xs.length := prd_len r
theorem RsK_nil : RsK (β := β) key F [] [] := .nil
theorem RsK_get (inj : ∀ a b, key a = key b → a = b) {k : α} : ∀ {kvs : List (κ × V)} {xs : List (α × β)}, RsK key F kvs xs →
    (valV kvs (key k) = none ∧ getT xs k = none) ∨ ∃ v y, valV kvs (key k) = some v ∧ getT xs k = some y ∧ R F v y
  | _, _, .nil => .inl ⟨rfl, rfl⟩
  | _, _, .cons (a := kv) (b := x) h t => by
    obtain ⟨h1, h2⟩ := h
    by_cases e : x.1 = k
    · exact .inr ⟨kv.2, x.2, by simp [valV, h1, e], by simp [getT, e], h2⟩
    · have e1 : ¬ kv.1 = key k := fun z => e (inj _ _ (h1.symm.trans z))
      have a1 : ∀ l, valV (kv :: l) (key k) = valV l (key k) := fun l => by simp [valV, e1]
      have a2 : ∀ l, getT (x :: l) k = getT l k := fun l => by simp [getT, e]
      rw [a1, a2]; exact RsK_get inj t
theorem RsK_any (inj : ∀ a b, key a = key b → a = b) {k : α} (r : RsK key F kvs xs) : (kvs.any fun kv => decide (kv.1 = key k)) = xs.any fun x => decide (x.1 = k) := by
  induction r with
  | nil => rfl
  | cons h _ ih =>
    rw [List.any_cons, List.any_cons, ih, h.1]
    congr 1
    exact decide_eq_decide.mpr ⟨fun z => inj _ _ z, fun z => by rw [z]⟩
theorem RsK_map (inj : ∀ a b, key a = key b → a = b) {k : α} {v : V} {y : β} (hv : R F v y) (r : RsK key F kvs xs) :
    RsK key F (kvs.map fun kv => if kv.1 = key k then (kv.1, v) else kv) (xs.map fun x => if x.1 = k then (x.1, y) else x) := by
  induction r with
  | nil => exact .nil
  | @cons kv x _ _ h t ih =>
    refine .cons ?_ ih
    dsimp only
    by_cases e : x.1 = k
    · rw [if_pos e, if_pos (by rw [h.1, e])]; exact ⟨h.1, hv⟩
    · rw [if_neg e, if_neg fun z => e (inj _ _ (h.1.symm.trans z))]; exact h
theorem RsK_put (inj : ∀ a b, key a = key b → a = b) {k : α} {v : V} {y : β} (hv : R F v y) (r : RsK key F kvs xs) : RsK key F (putK kvs (key k) v) (putT xs k y) := by
  unfold putK putT
  rw [RsK_any inj r]
  by_cases e : (xs.any fun x => decide (x.1 = k)) = true
  · rw [if_pos e, if_pos e]; exact RsK_map inj hv r
  · rw [if_neg e, if_neg e]; exact prd_snoc r ⟨rfl, hv⟩
theorem RsK_getD (inj : ∀ a b, key a = key b → a = b) {k : α} {z : V} {d : β} (hz : R F z d) (r : RsK key F kvs xs) : R F ((valV kvs (key k)).getD z) ((getT xs k).getD d) := by
  rcases RsK_get inj (k := k) r with ⟨a, b⟩ | ⟨v, y, a, b, h⟩
  · rw [a, b]; exact hz
  · rw [a, b]; exact h
end
abbrev keyS : Str → Key := Sum.inr
theorem keyS_inj (a b : Str) (h : keyS a = keyS b) : a = b := Sum.inr.inj h
theorem x_dget2 {td ty tx : TE} {σ : L2.St} {H : Hp} {Q : VK} (h : td σ H fun x H1 => ∃ a, x = .ref a ∧ IsD H1 a ∧ ty σ H1 fun y H2 => tx σ H2 fun z H3 => ∃ o, DGet H3 a y o ∧ Q (o.getD z) H3) : tDGet2 td ty tx σ H Q := h
theorem x_dput {td ty tv : TE} {σ : L2.St} {H : Hp} {D : Ends} (h : tv σ H fun v H1 => td σ H1 fun x H2 => ty σ H2 fun y H3 => ∃ a H4, x = .ref a ∧ DPut H3 a y v H4 ∧ D.nx σ H4) : sDPut td ty tv D σ H := h
theorem isD_k {H : Hp} {a : Addr} {kvs : List (Key × V)} (h : H a = some (.dK kvs)) : IsD H a := .inl ⟨kvs, .inl h⟩
theorem dgetS_of {β : Type} [TD β] {F H : Hp} {a : Addr} {kvs : List (Key × V)} {xs : List (Str × β)} {k : Str} {z : V} {d : β} {Q : VK} (h : H a = some (.dK kvs)) (r : RsK keyS F kvs xs) (hz : R F z d)
    (q : ∀ v, R F v ((getT xs k).getD d) → Q v H) : ∃ o, DGet H a (.str k) o ∧ Q (o.getD z) H := ⟨_, DGet.k (k := keyS k) h, q _ (RsK_getD keyS_inj hz r)⟩
theorem dputS_of {β : Type} [TD β] {F H : Hp} {a : Addr} {kvs : List (Key × V)} {xs : List (Str × β)} {k : Str} {v : V} {Q : Hp → Prop} (h : H a = some (.dK kvs)) (r : RsK keyS F kvs xs) (c : xs.length < 16777216)
    (q : Q (upd H a (.dK (putK kvs (keyS k) v)))) : ∃ a' H4, V.ref a = .ref a' ∧ DPut H a' (.str k) v H4 ∧ Q H4 := ⟨a, _, rfl, DPut.k (k := keyS k) h (szl (by rw [RsK_len r]; exact c)), q⟩

/-! #### a new pair whose list of lists is ours -/
def eraseL (N : Hp) (l : List Addr) : Hp := fun a => if a ∈ l then none else N a
theorem eraseL_ne {N : Hp} {l : List Addr} {a : Addr} (h : a ∉ l) : eraseL N l a = N a := if_neg h
theorem eraseL_mem {N : Hp} {l : List Addr} {a : Addr} (h : a ∈ l) : eraseL N l a = none := if_pos h
section
variable {A B : Addr → Prop} {F0 H0 F H N H' H2 : Hp} {p t : Addr} {as l : List Addr} {us ws : List V} {xs : List (List Int)}
theorem Gr.eraseL (g : Gr A F H N H2) (s : Sub F H) (z : ∀ a ∈ l, H a = none) : Gr A F H (eraseL N l) H2 :=
  ⟨g.keep, g.there, fun a o e => by
    have : a ∉ l := fun q => by have h := s _ _ e; rw [z a q] at h; exact nomatch h
    rw [eraseL_ne this]; exact g.ex a o e, fun a o e => by
    by_cases q : a ∈ l
    · rw [eraseL_mem q] at e; exact nomatch e
    · rw [eraseL_ne q] at e; exact g.sub a o e, fun a h f => by
    by_cases q : a ∈ l
    · exact eraseL_mem q
    · rw [eraseL_ne q]; exact g.own a h f⟩
theorem OwL.ofP (G : Gr A F0 H0 F H) (g : Gr B F H N H') (r : NR H N (.ref p) xs) (nd : xs.Nodup) : ∃ as, OwL H0 (My.eraseL N (p :: as)) H' p as xs ∧ (∀ a ∈ p :: as, H a = none) ∧ ∀ t us, N t = some (.tup us) → My.eraseL N (p :: as) t = some (.tup us) := by
  obtain ⟨p', us, e, fa, fr, np⟩ := NR_lst_of r
  cases e
  obtain ⟨as, w, fz⟩ := OwL.of G g r nd
  refine ⟨as, w.keep (fun _ _ _ e => e) (fun a ha => eraseL_mem ha), fz, fun t us ht => ?_⟩
  rw [eraseL_ne]; exact ht
  intro hm
  have := g.sub _ _ ht
  rcases List.mem_cons.mp hm with e | e
  · subst e; rw [w.at_] at this; cases this
  · obtain ⟨x, e2⟩ := w.mem e
    rw [e2] at this; cases this
end
end My

namespace My
open PySem PySem.Spec PyProof.Rows L2
def topS (i : Nat) : Stmt := PySem.Challenge.pw_lackstretch_k37_rules_and_numbers_writte.main.body.getD i (.Pass ⟨0, 0, 0, 0⟩)
abbrev s__law_cell : Stmt := topS 33
abbrev s__law_figures : Stmt := topS 36
abbrev s__law_mixed : Stmt := topS 34
abbrev s__law_number : Stmt := topS 38
abbrev s__law_rule : Stmt := topS 35
abbrev s__law_text : Stmt := topS 37
abbrev s_is_whole : Stmt := topS 12
abbrev s_is_base : Stmt := topS 13
abbrev s_is_figure : Stmt := topS 16
abbrev s_are_figures : Stmt := topS 17
abbrev s_need_base : Stmt := topS 14
abbrev s_worth : Stmt := topS 19
abbrev s_number_by : Stmt := topS 21
abbrev s_read_figures : Stmt := topS 28
abbrev s_read_number : Stmt := topS 31
abbrev s_is_stretch : Stmt := topS 22
abbrev s_is_rule : Stmt := topS 23
abbrev s_read_rule : Stmt := topS 29
abbrev s_need_from : Stmt := topS 15
abbrev s_written : Stmt := topS 18
abbrev s_figures_of : Stmt := topS 20
abbrev s_figures_text : Stmt := topS 26
abbrev s_show_number : Stmt := topS 30
abbrev s_show_rule : Stmt := topS 27
abbrev s_law : Stmt := topS 39
structure Txt (K : PySem.W.Frag) (mg : Str → Option Value) where
  f__law_cell : FnAt K mg "_law_cell" s__law_cell ["script", "k"]
  f__law_figures : FnAt K mg "_law_figures" s__law_figures ["base", "n"]
  f__law_mixed : FnAt K mg "_law_mixed" s__law_mixed ["cell", "k"]
  f__law_number : FnAt K mg "_law_number" s__law_number ["cell", "k"]
  f__law_rule : FnAt K mg "_law_rule" s__law_rule ["cell"]
  f__law_text : FnAt K mg "_law_text" s__law_text ["figures"]
  f_is_whole : FnAt K mg "is_whole" s_is_whole ["thing"]
  f_is_base : FnAt K mg "is_base" s_is_base ["thing"]
  f_is_figure : FnAt K mg "is_figure" s_is_figure ["base", "thing"]
  f_are_figures : FnAt K mg "are_figures" s_are_figures ["base", "thing"]
  f_need_base : FnAt K mg "need_base" s_need_base ["thing"]
  f_worth : FnAt K mg "worth" s_worth ["base", "figures"]
  f_number_by : FnAt K mg "number_by" s_number_by ["base", "figures"]
  f_read_figures : FnAt K mg "read_figures" s_read_figures ["base", "word"]
  f_read_number : FnAt K mg "read_number" s_read_number ["base", "text"]
  f_is_stretch : FnAt K mg "is_stretch" s_is_stretch ["base", "thing"]
  f_is_rule : FnAt K mg "is_rule" s_is_rule ["thing"]
  f_read_rule : FnAt K mg "read_rule" s_read_rule ["text"]
  f_need_from : FnAt K mg "need_from" s_need_from ["thing", "least"]
  f_written : FnAt K mg "written" s_written ["base", "n"]
  f_figures_of : FnAt K mg "figures_of" s_figures_of ["base", "n"]
  f_figures_text : FnAt K mg "figures_text" s_figures_text ["figures"]
  f_show_number : FnAt K mg "show_number" s_show_number ["base", "n"]
  f_show_rule : FnAt K mg "show_rule" s_show_rule ["rule"]
  f_law : FnAt K mg "law" s_law ["script"]
  c_LEAST_BASE : CAt mg "LEAST_BASE" 2
  c_MOST_BASE : CAt mg "MOST_BASE" 16
  c_MOST_FIGURES : CAt mg "MOST_FIGURES" 4
  c_MOST_STRETCHES : CAt mg "MOST_STRETCHES" 4
  c_SIGNS : CAtS mg "SIGNS" ("0123456789abcdef" : Str)
  z_abs : mg "abs" = none
  z_bool : mg "bool" = none
  z_int : mg "int" = none
  z_isinstance : mg "isinstance" = none
  z_len : mg "len" = none
  z_list : mg "list" = none
  z_max : mg "max" = none
  z_min : mg "min" = none
  z_range : mg "range" = none
  z_sorted : mg "sorted" = none
  z_str : mg "str" = none
  z_tuple : mg "tuple" = none

def _law_cell (script : (List Int)) (k : Int) : Option Int :=
  (if (decide (k < (script.length : Int))) = true then ((atI script k).bind fun x1 => (some x1)) else (if Mv ((109 : Int) * k) k then (some (((((109 : Int) * k) * k) + ((97 : Int) * k)) + (23 : Int))) else none))
abbrev N__law_cell : List Str := ["script", "k"]
theorem sc__law_cell : FnScope N__law_cell ["script", "k"] (defScope s__law_cell) := ⟨rfl, rfl, rfl, by decide +kernel, rfl, by decide +kernel, by decide +kernel⟩
def sp__law_cell (K : PySem.W.Frag) : Sp := fun vs H Q _ => ∃ (F : Hp) (v_script : V) (v_k : V) (script : (List Int)) (k : Int) (r : Int), vs = [v_script, v_k] ∧ Sub F H ∧ ScR K H v_script script ∧ R F v_k k ∧ _law_cell script k = some r ∧ ∀ N H2 v, Gr NA F H N H2 → R N v r → Q v H2
theorem ok__law_cell {P : Program} {w : World} {K : PySem.W.Frag} {mg : Str → Option Value} {base : Heap} (T : Txt K mg) : FnOk P w K mg base CX0 1 T.f__law_cell.f T.f__law_cell.fd ["script", "k"] (sp__law_cell K) := by
  have nd := (sc__law_cell).nd
  refine T.f__law_cell.F.ok sc__law_cell (fun vs H Q E h => ?_) (fun cdv A0 outer s H vs Q E hr h => ?_)
  · obtain ⟨_, _, _, _, _, _, rfl, _⟩ := h
    rfl
  obtain ⟨F0, v_script, v_k, script, k, r, rfl, s0, f_script, f_k, hm, q⟩ := h
  have G0 : Gr NA F0 H F0 H := Gr.refl s0
  obtain ⟨a1, rfl, sq1⟩ := f_script
  obtain rfl := int_of f_k
  refine ⟨_, (pss_cons (ps_if (pt_cmp (pc_lt (pv 1) (pe_callB (r := rLenT K) call_lenT (by rfl) T.z_len PySem.boot_len (pa_cons (pv 0) pa_nil)))) (pss_one (ps_ret (pe_ix (r := rIxL K) ix_list (pv 0) (pv 1) (fun _ _ => rfl)))) pss_nil) (pss_one (ps_ret (pe_op op_add (pe_op op_add (pe_op op_mulW (pe_op op_mul pe_int (pv 1)) (pv 1)) (pe_op op_mul pe_int (pv 1))) pe_int)))), ?_⟩
  refine x_start (σ' := ([some (.ref a1), some (.int k)] : L2.St)) (by with_unfolding_all rfl) ?_
  rw [_law_cell] at hm
  with_reducible refine x_seq ?_
  with_reducible refine x_if ?_
  with_reducible refine x_B ?_
  with_reducible refine x_cmp ?_
  refine ⟨_, rfl, ?_⟩
  with_reducible refine x_cb ?_
  with_reducible refine x_cons ?_
  refine ⟨_, rfl, ?_⟩
  refine ⟨_, _, rfl, .inl (SqL_gr sq1 G0), ?_⟩
  rw [List.length_map]
  refine ⟨_, _, rfl, rfl, ?_⟩
  refine ⟨_, rfl, ?_⟩
  refine ifD (fun hc => ?_) (fun hc => ?_)
  · replace hm := itep hm hc
    with_reducible refine x_ret ?_
    with_reducible refine x_op ?_
    refine ⟨_, rfl, ?_⟩
    refine ⟨_, rfl, ?_⟩
    obtain ⟨x1, hx1, hm⟩ := bindp hm
    refine ⟨_, _, _, _, rfl, rfl, SqL_gr sq1 G0, atI_map hx1, ?_⟩
    obtain rfl : _ = r := Option.some.inj hm
    exact q _ _ _ G0 (.int _)
  · replace hm := iten hm (bF hc)
    with_reducible refine x_next ?_
    with_reducible refine x_ret ?_
    with_reducible refine x_op ?_
    with_reducible refine x_op ?_
    with_reducible refine x_op ?_
    with_reducible refine x_op ?_
    with_reducible refine x_c ?_
    refine ⟨_, rfl, ?_⟩
    refine ⟨_, _, rfl, rfl, .inl ⟨by decide, by decide⟩, ?_⟩
    refine ⟨_, rfl, ?_⟩
    obtain ⟨c1, hm⟩ := guardp hm
    refine ⟨_, _, rfl, rfl, c1.w, ?_⟩
    with_reducible refine x_op ?_
    with_reducible refine x_c ?_
    refine ⟨_, rfl, ?_⟩
    refine ⟨_, _, rfl, rfl, .inl ⟨by decide, by decide⟩, ?_⟩
    refine ⟨_, _, rfl, rfl, ?_⟩
    with_reducible refine x_c ?_
    refine ⟨_, _, rfl, rfl, ?_⟩
    obtain rfl : _ = r := Option.some.inj hm
    exact q _ _ _ G0 (.int _)

def _law_figures_w1 (base : Int) : (Int × (List Int)) → ((Int × (List Int)) → Option (List Int)) → Option (List Int)
  | (x1, x2), next1 => (if (decide (base ≤ x1)) = true then (if Dv base then (if Dv base then (if ([((x1 / base) % base)] : (List Int)).length + x2.length ≤ 16777216 then (next1 ((x1 / base), (([((x1 / base) % base)] : (List Int)) ++ x2))) else none) else none) else none) else (some x2))
def _law_figures (base : Int) (n : Int) : Option (List Int) :=
  (if Dv base then (whileK (_law_figures_w1 base) fuel (n, ([(n % base)] : (List Int)))) else none)
abbrev N__law_figures : List Str := ["base", "n", "found"]
theorem sc__law_figures : FnScope N__law_figures ["base", "n"] (defScope s__law_figures) := ⟨rfl, rfl, rfl, by decide +kernel, rfl, by decide +kernel, by decide +kernel⟩
def sp__law_figures : Sp := fun vs H Q _ => ∃ (F : Hp) (v_base : V) (v_n : V) (base : Int) (n : Int) (r : (List Int)), vs = [v_base, v_n] ∧ Sub F H ∧ R F v_base base ∧ R F v_n n ∧ _law_figures base n = some r ∧ ∀ N H2 v, Gr NA F H N H2 → R N v r → Q v H2
theorem ok__law_figures {P : Program} {w : World} {K : PySem.W.Frag} {mg : Str → Option Value} {base : Heap} (T : Txt K mg) : FnOk P w K mg base CX0 1 T.f__law_figures.f T.f__law_figures.fd ["base", "n"] sp__law_figures := by
  have nd := (sc__law_figures).nd
  refine T.f__law_figures.F.ok sc__law_figures (fun vs H Q E h => ?_) (fun cdv A0 outer s H vs Q E hr h => ?_)
  · obtain ⟨_, _, _, _, _, _, rfl, _⟩ := h
    rfl
  obtain ⟨F0, v_base, v_n, base, n, r, rfl, s0, f_base, f_n, hm, q⟩ := h
  have G0 : Gr NA F0 H F0 H := Gr.refl s0
  obtain rfl := int_of f_base
  obtain rfl := int_of f_n
  refine ⟨_, (pss_cons (ps_set (i := 2) nd rfl (by first | exact Or.inl rfl | exact Or.inr rfl) (pe_lst (pa_cons (pe_op op_mod (pv 1) (pv 0)) pa_nil))) (pss_cons (ps_while PassesOwn.never (pt_cmp (pc_ge (pv 1) (pv 0))) (pss_cons (ps_set (i := 1) nd rfl (by first | exact Or.inl rfl | exact Or.inr rfl) (pe_op op_fdivW (pv 1) (pv 0))) (pss_one (ps_set (i := 2) nd rfl (by first | exact Or.inl rfl | exact Or.inr rfl) (pe_op op_cat (pe_lst (pa_cons (pe_op op_mod (pv 1) (pv 0)) pa_nil)) (pv 2)))))) (pss_one (ps_ret (pv 2))))), ?_⟩
  refine x_start (σ' := ([some (.int base), some (.int n), none] : L2.St)) (by with_unfolding_all rfl) ?_
  rw [_law_figures] at hm
  with_reducible refine x_seq ?_
  with_reducible refine x_asg ?_
  with_reducible refine x_lst ?_
  with_reducible refine x_cons ?_
  with_reducible refine x_op ?_
  refine ⟨_, rfl, ?_⟩
  refine ⟨_, rfl, ?_⟩
  obtain ⟨c1, hm⟩ := guardp hm
  refine ⟨_, _, rfl, rfl, c1.p, ?_⟩
  refine ⟨szle (show 1 ≤ 16777216 from by decide), fun p1 np1 => ?_⟩
  have fr1 : Rs (α := Int) (F0) [(.int (n % base))] ([(n % base)] : (List Int)) := (Rs_cons (.int _) Rs_nil)
  have g1 := Gr.newO (o := .lst [(.int (n % base))]) G0.sub np1
  have o1 := Ow.new (us := [(.int (n % base))]) G0 np1
  have G1 := G0.step g1
  obtain ⟨F1, G2, ex1, fa1, nf1⟩ := o1.frzE G1
  have fr2 := Rs_mono ex1 fr1
  with_reducible refine x_gnE (σ' := ([some (.int base), some (.int n), some (.ref p1)] : L2.St)) (by with_unfolding_all rfl) ?_
  with_reducible refine x_seq ?_
  refine while_n (fun m σ H1 => ∃ (F2 : Hp) (x1 : Int) (x2 : (List Int)) (v1 : V), whileK (_law_figures_w1 base) m (x1, x2) = some r ∧ Sub (F1) F2 ∧ Gr NA F0 H F2 H1 ∧ R F2 v1 x2 ∧ σ = [some (.int base), some (.int x1), some v1]) fuel ⟨F1, n, ([(n % base)] : (List Int)), _, hm, (Sub.refl _), G2, (mk_lst ((Sub.refl _) _ _ fa1) (Rs_mono (Sub.refl _) fr2)), rfl⟩ (fun σ H1 hW => ?_) (fun m1 σ H1 hW => ?_)
  · obtain ⟨F2, x1, x2, v1, h9, _⟩ := hW
    exact no_none h9
  obtain ⟨F2, x1, x2, v1, hm, s1, G3, d1, rfl⟩ := hW
  obtain ⟨a1, us1, rfl, fa2, fr3⟩ := lst_of d1
  obtain ⟨next1, hnx1⟩ : ∃ nx, nx = whileK (_law_figures_w1 base) m1 := ⟨_, rfl⟩
  have hm : (_law_figures_w1 base) (x1, x2) next1 = some r := by rw [hnx1]; exact whileK_s hm
  rw [_law_figures_w1] at hm
  with_reducible refine x_B ?_
  refine useEv (.bl (decide (base ≤ x1))) (by exact (ev_cmp (Evl.ev_var rfl) (Evl.ev_var rfl))) (fun H2 e1 => ?_)
  have g2 := gr_ex G3.sub e1
  have G4 := G3.step g2
  refine ⟨_, rfl, ?_⟩
  refine ifD (fun hc => ?_) (fun hc => ?_)
  · replace hm := itep hm hc
    refine ⟨_, fun σ9 H9 h9 => ⟨m1, Nat.lt_succ_self _, h9⟩, ?_⟩
    with_reducible refine x_seq ?_
    with_reducible refine x_asg ?_
    with_reducible refine x_op ?_
    refine ⟨_, rfl, ?_⟩
    refine ⟨_, rfl, ?_⟩
    obtain ⟨c2, hm⟩ := guardp hm
    refine ⟨_, _, rfl, rfl, c2.w, ?_⟩
    with_reducible refine x_gnE (σ' := ([some (.int base), some (.int (x1 / base)), some (.ref a1)] : L2.St)) (by with_unfolding_all rfl) ?_
    with_reducible refine x_asg ?_
    with_reducible refine x_op ?_
    with_reducible refine x_lst ?_
    with_reducible refine x_cons ?_
    with_reducible refine x_op ?_
    refine ⟨_, rfl, ?_⟩
    refine ⟨_, rfl, ?_⟩
    obtain ⟨c3, hm⟩ := guardp hm
    refine ⟨_, _, rfl, rfl, c3.p, ?_⟩
    refine ⟨szle (show 1 ≤ 16777216 from by decide), fun p2 np2 => ?_⟩
    have fr4 : Rs (α := Int) (F2) [(.int ((x1 / base) % base))] ([((x1 / base) % base)] : (List Int)) := (Rs_cons (.int _) Rs_nil)
    have g3 := Gr.newO (o := .lst [(.int ((x1 / base) % base))]) G4.sub np2
    have o2 := Ow.new (us := [(.int ((x1 / base) % base))]) G4 np2
    have G5 := G4.step g3
    refine ⟨_, rfl, ?_⟩
    obtain ⟨c4, hm⟩ := guardp hm
    refine ⟨_, _, _, _, rfl, rfl, o2.at_, (G5.sub _ _ fa2), szle (by rw [Rs_len fr4, Rs_len (Rs_mono (Sub.refl _) fr3)]; exact c4), fun p3 np3 => ?_⟩
    have fr5 : Rs (α := Int) (F2) ([(.int ((x1 / base) % base))] ++ us1) (([((x1 / base) % base)] : (List Int)) ++ x2) := Rs_app fr4 (Rs_mono (Sub.refl _) fr3)
    have g4 := Gr.newO (o := .lst ([(.int ((x1 / base) % base))] ++ us1)) G5.sub np3
    have o3 := Ow.new (us := ([(.int ((x1 / base) % base))] ++ us1)) G5 np3
    have G6 := G5.step g4
    obtain ⟨F3, G7, ex2, fa3, nf2⟩ := o3.frzE G6
    have fr6 := Rs_mono ex2 fr5
    with_reducible refine x_gnE (σ' := ([some (.int base), some (.int (x1 / base)), some (.ref p3)] : L2.St)) (by with_unfolding_all rfl) ?_
    rw [hnx1] at hm
    exact ⟨F3, (x1 / base), (([((x1 / base) % base)] : (List Int)) ++ x2), _, hm, (s1.trans ex2), G7, (mk_lst ((Sub.refl _) _ _ fa3) (Rs_mono (Sub.refl _) fr6)), rfl⟩
  · replace hm := iten hm (bF hc)
    with_reducible refine x_ret ?_
    refine ⟨_, rfl, ?_⟩
    obtain rfl : _ = r := Option.some.inj hm
    exact q _ _ _ G4 (mk_lst ((Sub.refl _) _ _ fa2) (Rs_mono (Sub.refl _) fr3))


def _law_mixed (cell : Int) (k : Int) : Option Int :=
  (if Mv ((7919 : Int) * k) k then (if Mv (((((cell * (48271 : Int)) + (((7919 : Int) * k) * k)) + ((104729 : Int) * k)) + (11 : Int)) % (2147483647 : Int)) (((((cell * (48271 : Int)) + (((7919 : Int) * k) * k)) + ((104729 : Int) * k)) + (11 : Int)) % (2147483647 : Int)) then ((atI ([(2147483629 : Int), (2147483587 : Int), (2147483579 : Int), (2147483563 : Int), (2147483549 : Int), (2147483543 : Int), (2147483497 : Int)] : (List Int)) (k % (7 : Int))).bind fun x1 => (if Dv x1 then (some ((((((((((cell * (48271 : Int)) + (((7919 : Int) * k) * k)) + ((104729 : Int) * k)) + (11 : Int)) % (2147483647 : Int)) * (((((cell * (48271 : Int)) + (((7919 : Int) * k) * k)) + ((104729 : Int) * k)) + (11 : Int)) % (2147483647 : Int))) % x1) * (16811 : Int)) + (cell % (5 : Int))) / (8 : Int))) else none)) else none) else none)
abbrev N__law_mixed : List Str := ["cell", "k", "number", "some"]
theorem sc__law_mixed : FnScope N__law_mixed ["cell", "k"] (defScope s__law_mixed) := ⟨rfl, rfl, rfl, by decide +kernel, rfl, by decide +kernel, by decide +kernel⟩
def sp__law_mixed : Sp := fun vs H Q _ => ∃ (F : Hp) (v_cell : V) (v_k : V) (cell : Int) (k : Int) (r : Int), vs = [v_cell, v_k] ∧ Sub F H ∧ R F v_cell cell ∧ R F v_k k ∧ _law_mixed cell k = some r ∧ ∀ N H2 v, Gr NA F H N H2 → R N v r → Q v H2
theorem ok__law_mixed {P : Program} {w : World} {K : PySem.W.Frag} {mg : Str → Option Value} {base : Heap} (T : Txt K mg) : FnOk P w K mg base CX0 1 T.f__law_mixed.f T.f__law_mixed.fd ["cell", "k"] sp__law_mixed := by
  have nd := (sc__law_mixed).nd
  refine T.f__law_mixed.F.ok sc__law_mixed (fun vs H Q E h => ?_) (fun cdv A0 outer s H vs Q E hr h => ?_)
  · obtain ⟨_, _, _, _, _, _, rfl, _⟩ := h
    rfl
  obtain ⟨F0, v_cell, v_k, cell, k, r, rfl, s0, f_cell, f_k, hm, q⟩ := h
  have G0 : Gr NA F0 H F0 H := Gr.refl s0
  obtain rfl := int_of f_cell
  obtain rfl := int_of f_k
  refine ⟨_, (pss_cons (ps_set (i := 2) nd rfl (by first | exact Or.inl rfl | exact Or.inr rfl) (pe_op op_mod (pe_op op_add (pe_op op_add (pe_op op_add (pe_op op_mul (pv 0) pe_int) (pe_op op_mulW (pe_op op_mul pe_int (pv 1)) (pv 1))) (pe_op op_mul pe_int (pv 1))) pe_int) pe_int)) (pss_cons (ps_set (i := 3) nd rfl (by first | exact Or.inl rfl | exact Or.inr rfl) (pe_lst (pa_cons pe_int (pa_cons pe_int (pa_cons pe_int (pa_cons pe_int (pa_cons pe_int (pa_cons pe_int (pa_cons pe_int pa_nil))))))))) (pss_cons (ps_set (i := 2) nd rfl (by first | exact Or.inl rfl | exact Or.inr rfl) (pe_op op_mod (pe_op op_mulW (pv 2) (pv 2)) (pe_ix (r := rIxL K) ix_list (pv 3) (pe_op op_mod (pv 1) pe_int) (fun _ _ => rfl)))) (pss_one (ps_ret (pe_op op_fdivW (pe_op op_add (pe_op op_mul (pv 2) pe_int) (pe_op op_mod (pv 0) pe_int)) pe_int)))))), ?_⟩
  refine x_start (σ' := ([some (.int cell), some (.int k), none, none] : L2.St)) (by with_unfolding_all rfl) ?_
  rw [_law_mixed] at hm
  with_reducible refine x_seq ?_
  with_reducible refine x_asg ?_
  with_reducible refine x_op ?_
  with_reducible refine x_op ?_
  with_reducible refine x_op ?_
  with_reducible refine x_op ?_
  with_reducible refine x_op ?_
  refine ⟨_, rfl, ?_⟩
  with_reducible refine x_c ?_
  refine ⟨_, _, rfl, rfl, .inr ⟨by decide, by decide⟩, ?_⟩
  with_reducible refine x_op ?_
  with_reducible refine x_op ?_
  with_reducible refine x_c ?_
  refine ⟨_, rfl, ?_⟩
  refine ⟨_, _, rfl, rfl, .inl ⟨by decide, by decide⟩, ?_⟩
  refine ⟨_, rfl, ?_⟩
  obtain ⟨c1, hm⟩ := guardp hm
  refine ⟨_, _, rfl, rfl, c1.w, ?_⟩
  refine ⟨_, _, rfl, rfl, ?_⟩
  with_reducible refine x_op ?_
  with_reducible refine x_c ?_
  refine ⟨_, rfl, ?_⟩
  refine ⟨_, _, rfl, rfl, .inl ⟨by decide, by decide⟩, ?_⟩
  refine ⟨_, _, rfl, rfl, ?_⟩
  with_reducible refine x_c ?_
  refine ⟨_, _, rfl, rfl, ?_⟩
  with_reducible refine x_c ?_
  refine ⟨_, _, rfl, rfl, (show (0 : Int) < (2147483647 : Int) from by decide), ?_⟩
  with_reducible refine x_gnE (σ' := ([some (.int cell), some (.int k), some (.int (((((cell * (48271 : Int)) + (((7919 : Int) * k) * k)) + ((104729 : Int) * k)) + (11 : Int)) % (2147483647 : Int))), none] : L2.St)) (by with_unfolding_all rfl) ?_
  with_reducible refine x_seq ?_
  with_reducible refine x_asg ?_
  with_reducible refine x_lst ?_
  with_reducible refine x_cons ?_
  with_reducible refine x_c ?_
  with_reducible refine x_cons ?_
  with_reducible refine x_c ?_
  with_reducible refine x_cons ?_
  with_reducible refine x_c ?_
  with_reducible refine x_cons ?_
  with_reducible refine x_c ?_
  with_reducible refine x_cons ?_
  with_reducible refine x_c ?_
  with_reducible refine x_cons ?_
  with_reducible refine x_c ?_
  with_reducible refine x_cons ?_
  with_reducible refine x_c ?_
  refine ⟨szle (show 7 ≤ 16777216 from by decide), fun p1 np1 => ?_⟩
  have fr1 : Rs (α := Int) (F0) [(.int 2147483629), (.int 2147483587), (.int 2147483579), (.int 2147483563), (.int 2147483549), (.int 2147483543), (.int 2147483497)] ([(2147483629 : Int), (2147483587 : Int), (2147483579 : Int), (2147483563 : Int), (2147483549 : Int), (2147483543 : Int), (2147483497 : Int)] : (List Int)) := (Rs_cons (.int _) (Rs_cons (.int _) (Rs_cons (.int _) (Rs_cons (.int _) (Rs_cons (.int _) (Rs_cons (.int _) (Rs_cons (.int _) Rs_nil)))))))
  have g1 := Gr.newO (o := .lst [(.int 2147483629), (.int 2147483587), (.int 2147483579), (.int 2147483563), (.int 2147483549), (.int 2147483543), (.int 2147483497)]) G0.sub np1
  have o1 := Ow.new (us := [(.int 2147483629), (.int 2147483587), (.int 2147483579), (.int 2147483563), (.int 2147483549), (.int 2147483543), (.int 2147483497)]) G0 np1
  have G1 := G0.step g1
  obtain ⟨F1, G2, ex1, fa1, nf1⟩ := o1.frzE G1
  have fr2 := Rs_mono ex1 fr1
  with_reducible refine x_gnE (σ' := ([some (.int cell), some (.int k), some (.int (((((cell * (48271 : Int)) + (((7919 : Int) * k) * k)) + ((104729 : Int) * k)) + (11 : Int)) % (2147483647 : Int))), some (.ref p1)] : L2.St)) (by with_unfolding_all rfl) ?_
  with_reducible refine x_seq ?_
  with_reducible refine x_asg ?_
  with_reducible refine x_op ?_
  with_reducible refine x_op ?_
  refine ⟨_, rfl, ?_⟩
  refine ⟨_, rfl, ?_⟩
  obtain ⟨c2, hm⟩ := guardp hm
  refine ⟨_, _, rfl, rfl, c2.w, ?_⟩
  with_reducible refine x_op ?_
  refine ⟨_, rfl, ?_⟩
  with_reducible refine x_op ?_
  refine ⟨_, rfl, ?_⟩
  with_reducible refine x_c ?_
  refine ⟨_, _, rfl, rfl, (show (0 : Int) < (7 : Int) from by decide), ?_⟩
  obtain ⟨x1, hx1, hm⟩ := bindp hm
  obtain ⟨v1, hu1, d1⟩ := Rs_at (Rs_mono (Sub.refl _) fr2) hx1
  refine ⟨_, _, _, _, rfl, rfl, .inl (.inl (G2.sub _ _ fa1)), hu1, ?_⟩
  obtain rfl := int_of d1
  obtain ⟨c3, hm⟩ := guardp hm
  refine ⟨_, _, rfl, rfl, c3.p, ?_⟩
  with_reducible refine x_gnE (σ' := ([some (.int cell), some (.int k), some (.int (((((((cell * (48271 : Int)) + (((7919 : Int) * k) * k)) + ((104729 : Int) * k)) + (11 : Int)) % (2147483647 : Int)) * (((((cell * (48271 : Int)) + (((7919 : Int) * k) * k)) + ((104729 : Int) * k)) + (11 : Int)) % (2147483647 : Int))) % x1)), some (.ref p1)] : L2.St)) (by with_unfolding_all rfl) ?_
  with_reducible refine x_ret ?_
  with_reducible refine x_op ?_
  with_reducible refine x_op ?_
  with_reducible refine x_op ?_
  refine ⟨_, rfl, ?_⟩
  with_reducible refine x_c ?_
  refine ⟨_, _, rfl, rfl, .inr ⟨by decide, by decide⟩, ?_⟩
  with_reducible refine x_op ?_
  refine ⟨_, rfl, ?_⟩
  with_reducible refine x_c ?_
  refine ⟨_, _, rfl, rfl, (show (0 : Int) < (5 : Int) from by decide), ?_⟩
  refine ⟨_, _, rfl, rfl, ?_⟩
  with_reducible refine x_c ?_
  refine ⟨_, _, rfl, rfl, (show Dv ((8 : Int)) from by decide +kernel).w, ?_⟩
  obtain rfl : _ = r := Option.some.inj hm
  exact q _ _ _ G2 (.int _)


def _law_number (cell : Int) (k : Int) : Option Int :=
  ((_law_mixed cell k).bind fun r1 => (if Mv r1 (((46337 : Int) * ((10 : Int) ^ (9 : Int).toNat)) + (461 : Int)) then ((_law_mixed cell (k + (1 : Int))).bind fun r2 => ((atI ([(30 : Int), (1000 : Int), ((10 : Int) ^ (12 : Int).toNat), ((10 : Int) ^ (26 : Int).toNat)] : (List Int)) (r2 % (4 : Int))).bind fun x1 => (if Dv x1 then (some ((r1 * (((46337 : Int) * ((10 : Int) ^ (9 : Int).toNat)) + (461 : Int))) % x1)) else none))) else none))
abbrev N__law_number : List Str := ["cell", "k", "one"]
theorem sc__law_number : FnScope N__law_number ["cell", "k"] (defScope s__law_number) := ⟨rfl, rfl, rfl, by decide +kernel, rfl, by decide +kernel, by decide +kernel⟩
def sp__law_number : Sp := fun vs H Q _ => ∃ (F : Hp) (v_cell : V) (v_k : V) (cell : Int) (k : Int) (r : Int), vs = [v_cell, v_k] ∧ Sub F H ∧ R F v_cell cell ∧ R F v_k k ∧ _law_number cell k = some r ∧ ∀ N H2 v, Gr NA F H N H2 → R N v r → Q v H2
theorem ok__law_number {P : Program} {w : World} {K : PySem.W.Frag} {mg : Str → Option Value} {base : Heap} (T : Txt K mg) : FnOk P w K mg base CX0 2 T.f__law_number.f T.f__law_number.fd ["cell", "k"] sp__law_number := by
  have nd := (sc__law_number).nd
  refine T.f__law_number.F.ok sc__law_number (fun vs H Q E h => ?_) (fun cdv A0 outer s H vs Q E hr h => ?_)
  · obtain ⟨_, _, _, _, _, _, rfl, _⟩ := h
    rfl
  obtain ⟨F0, v_cell, v_k, cell, k, r, rfl, s0, f_cell, f_k, hm, q⟩ := h
  have G0 : Gr NA F0 H F0 H := Gr.refl s0
  obtain rfl := int_of f_cell
  obtain rfl := int_of f_k
  refine ⟨_, (pss_cons (ps_set (i := 2) nd rfl (by first | exact Or.inl rfl | exact Or.inr rfl) (pe_op op_mulW (pe_call (ok__law_mixed T) (hr.mono (by decide)) (by rfl) T.f__law_mixed.g T.f__law_mixed.F.kp T.f__law_mixed.b .nil pass0 (pa_cons (pv 0) (pa_cons (pv 1) pa_nil))) (pe_op op_add (pe_op op_mul pe_int (pe_op op_pow pe_int pe_int)) pe_int))) (pss_one (ps_ret (pe_op op_mod (pv 2) (pe_ix (r := rIxL K) ix_list (pe_lst (pa_cons pe_int (pa_cons pe_int (pa_cons (pe_op op_pow pe_int pe_int) (pa_cons (pe_op op_pow pe_int pe_int) pa_nil))))) (pe_op op_mod (pe_call (ok__law_mixed T) (hr.mono (by decide)) (by rfl) T.f__law_mixed.g T.f__law_mixed.F.kp T.f__law_mixed.b .nil pass0 (pa_cons (pv 0) (pa_cons (pe_op op_add (pv 1) pe_int) pa_nil))) pe_int) (fun _ _ => rfl)))))), ?_⟩
  refine x_start (σ' := ([some (.int cell), some (.int k), none] : L2.St)) (by with_unfolding_all rfl) ?_
  rw [_law_number] at hm
  with_reducible refine x_seq ?_
  with_reducible refine x_asg ?_
  with_reducible refine x_op ?_
  with_reducible refine x_call ?_
  with_reducible refine x_cons ?_
  refine ⟨_, rfl, ?_⟩
  with_reducible refine x_cons ?_
  refine ⟨_, rfl, ?_⟩
  obtain ⟨r1, hr1, hm⟩ := bindp hm
  refine ⟨_, _, _, cell, k, r1, rfl, G0.sub, (.int _), (.int _), hr1, fun N1 H1 v1 g1 d1  => ?_⟩
  have G1 := G0.step g1
  obtain rfl := int_of d1
  with_reducible refine x_op ?_
  with_reducible refine x_op ?_
  with_reducible refine x_c ?_
  with_reducible refine x_op ?_
  refine ⟨_, _, rfl, rfl, ⟨by decide, by decide, by decide⟩, ?_⟩
  refine ⟨_, _, rfl, rfl, .inl ⟨by decide, by decide⟩, ?_⟩
  with_reducible refine x_c ?_
  refine ⟨_, _, rfl, rfl, ?_⟩
  obtain ⟨c1, hm⟩ := guardp hm
  refine ⟨_, _, rfl, rfl, c1.w, ?_⟩
  with_reducible refine x_gnE (σ' := ([some (.int cell), some (.int k), some (.int (r1 * (((46337 : Int) * ((10 : Int) ^ (9 : Int).toNat)) + (461 : Int))))] : L2.St)) (by with_unfolding_all rfl) ?_
  with_reducible refine x_ret ?_
  with_reducible refine x_op ?_
  refine ⟨_, rfl, ?_⟩
  with_reducible refine x_op ?_
  with_reducible refine x_lst ?_
  with_reducible refine x_cons ?_
  with_reducible refine x_c ?_
  with_reducible refine x_cons ?_
  with_reducible refine x_c ?_
  with_reducible refine x_cons ?_
  with_reducible refine x_op ?_
  refine ⟨_, _, rfl, rfl, ⟨by decide, by decide, by decide⟩, ?_⟩
  with_reducible refine x_cons ?_
  with_reducible refine x_op ?_
  refine ⟨_, _, rfl, rfl, ⟨by decide, by decide, by decide⟩, ?_⟩
  refine ⟨szle (show 4 ≤ 16777216 from by decide), fun p1 np1 => ?_⟩
  have fr1 : Rs (α := Int) (N1) [(.int 30), (.int 1000), (.int ((10 : Int) ^ (12 : Int).toNat)), (.int ((10 : Int) ^ (26 : Int).toNat))] ([(30 : Int), (1000 : Int), ((10 : Int) ^ (12 : Int).toNat), ((10 : Int) ^ (26 : Int).toNat)] : (List Int)) := (Rs_cons (.int _) (Rs_cons (.int _) (Rs_cons (.int _) (Rs_cons (.int _) Rs_nil))))
  have g2 := Gr.newO (o := .lst [(.int 30), (.int 1000), (.int ((10 : Int) ^ (12 : Int).toNat)), (.int ((10 : Int) ^ (26 : Int).toNat))]) G1.sub np1
  have o1 := Ow.new (us := [(.int 30), (.int 1000), (.int ((10 : Int) ^ (12 : Int).toNat)), (.int ((10 : Int) ^ (26 : Int).toNat))]) G1 np1
  have G2 := G1.step g2
  with_reducible refine x_op ?_
  with_reducible refine x_call ?_
  with_reducible refine x_cons ?_
  refine ⟨_, rfl, ?_⟩
  with_reducible refine x_cons ?_
  refine useEv (.int (k + (1 : Int))) (by exact (Evl.ev_op (Evl.ev_var rfl) Evl.ev_c Evl.rv_I0)) (fun H2 e1 => ?_)
  have g3 := gr_ex G2.sub e1
  have G3 := G2.step g3
  have o2 := o1.step g3
  obtain ⟨r2, hr2, hm⟩ := bindp hm
  refine ⟨_, _, _, cell, (k + (1 : Int)), r2, rfl, G3.sub, (.int _), (.int _), hr2, fun N2 H3 v2 g4 d2  => ?_⟩
  have G4 := G3.step g4
  have o3 := o2.step g4
  obtain rfl := int_of d2
  with_reducible refine x_c ?_
  refine ⟨_, _, rfl, rfl, (show (0 : Int) < (4 : Int) from by decide), ?_⟩
  obtain ⟨x1, hx1, hm⟩ := bindp hm
  obtain ⟨v3, hu1, d3⟩ := Rs_at (Rs_mono g4.ex fr1) hx1
  refine ⟨_, _, _, _, rfl, rfl, .inl (.inl o3.at_), hu1, ?_⟩
  obtain rfl := int_of d3
  obtain ⟨c2, hm⟩ := guardp hm
  refine ⟨_, _, rfl, rfl, c2.p, ?_⟩
  obtain rfl : _ = r := Option.some.inj hm
  exact q _ _ _ G4 (.int _)

def _law_rule_c3 (cell : Int) (t1 : Int) (x2 : Int) : (List Int) → Int → ((List Int) → Option (Int × (List (List Int)))) → Option (Int × (List (List Int)))
  | x4, t2, next2 => ((_law_mixed cell (((20 : Int) + ((4 : Int) * t1)) + t2)).bind fun r3 => (if Dv x2 then (if x4.length < 16777216 then (next2 (x4 ++ [(r3 % x2)])) else none) else none))
def _law_rule_k4 (x1 : (List (List Int))) (next1 : ((List (List Int)) → Option (Int × (List (List Int))))) : (List Int) → Option (Int × (List (List Int)))
  | x4 => (if (!memT x4 x1) = true then (if x1.length < 16777216 then (next1 (x1 ++ [x4])) else none) else (next1 x1))
def _law_rule_b1 (cell : Int) : (List (List Int)) → Int → ((List (List Int)) → Option (Int × (List (List Int)))) → Option (Int × (List (List Int)))
  | x1, t1, next1 => ((_law_mixed cell t1).bind fun r1 => ((atI ([((2 : Int) + (cell % (15 : Int))), (if (3 : Int) < ((2 : Int) + (cell % (15 : Int))) then (3 : Int) else ((2 : Int) + (cell % (15 : Int)))), (2 : Int)] : (List Int)) (r1 % (3 : Int))).bind fun x2 => ((_law_mixed cell ((10 : Int) + t1)).bind fun r2 => (if Rg1 ((1 : Int) + (r2 % (4 : Int))) then (forK (_law_rule_c3 cell t1 x2) (irange 0 ((1 : Int) + (r2 % (4 : Int)))) [] (_law_rule_k4 x1 next1)) else none))))
def _law_rule_e2 (cell : Int) : (List (List Int)) → Option (Int × (List (List Int)))
  | x1 => (if x1.length ≤ 16777216 then (some (((2 : Int) + (cell % (15 : Int))), (sortT x1))) else none)
def _law_rule (cell : Int) : Option (Int × (List (List Int))) :=
  (if Rg1 ((cell / (15 : Int)) % (5 : Int)) then (forK (_law_rule_b1 cell) (irange 0 ((cell / (15 : Int)) % (5 : Int))) ([] : (List (List Int))) (_law_rule_e2 cell)) else none)
abbrev N__law_rule : List Str := ["cell", "base", "bad", "k", "wide", "long", "one", "j"]
theorem sc__law_rule : FnScope N__law_rule ["cell"] (defScope s__law_rule) := ⟨rfl, rfl, rfl, by decide +kernel, rfl, by decide +kernel, by decide +kernel⟩
def sp__law_rule : Sp := fun vs H Q _ => ∃ (F : Hp) (v_cell : V) (cell : Int) (r : (Int × (List (List Int)))), vs = [v_cell] ∧ Sub F H ∧ R F v_cell cell ∧ _law_rule cell = some r ∧ ∀ N H2 v, Gr NA F H N H2 → R N v r → Q v H2
theorem ok__law_rule {P : Program} {w : World} {K : PySem.W.Frag} {mg : Str → Option Value} {base : Heap} (T : Txt K mg) : FnOk P w K mg base CX0 2 T.f__law_rule.f T.f__law_rule.fd ["cell"] sp__law_rule := by
  have nd := (sc__law_rule).nd
  refine T.f__law_rule.F.ok sc__law_rule (fun vs H Q E h => ?_) (fun cdv A0 outer s H vs Q E hr h => ?_)
  · obtain ⟨_, _, _, _, rfl, _⟩ := h
    rfl
  obtain ⟨F0, v_cell, cell, r, rfl, s0, f_cell, hm, q⟩ := h
  have G0 : Gr NA F0 H F0 H := Gr.refl s0
  obtain rfl := int_of f_cell
  refine ⟨_, (pss_cons (ps_set (i := 1) nd rfl (by first | exact Or.inl rfl | exact Or.inr rfl) (pe_op op_add pe_int (pe_op op_mod (pv 0) pe_int))) (pss_cons (ps_set (i := 2) nd rfl (by first | exact Or.inl rfl | exact Or.inr rfl) (pe_lst pa_nil)) (pss_cons (ps_for PassesOwn.never rfl (pi_range1 (by rfl) T.z_range (pa_cons (pe_op op_mod (pe_op op_fdivW (pv 0) pe_int) pe_int) pa_nil)) (pg_name (i := 3) nd rfl (by first | exact Or.inl rfl | exact Or.inr rfl)) (pss_cons (ps_set (i := 4) nd rfl (by first | exact Or.inl rfl | exact Or.inr rfl) (pe_ix (r := rIxL K) ix_list (pe_lst (pa_cons (pv 1) (pa_cons (pe_callB (call_min2 rfl) (by rfl) T.z_min (by decide +kernel) (pa_cons (pv 1) (pa_cons pe_int pa_nil))) (pa_cons pe_int pa_nil)))) (pe_op op_mod (pe_call (ok__law_mixed T) (hr.mono (by decide)) (by rfl) T.f__law_mixed.g T.f__law_mixed.F.kp T.f__law_mixed.b .nil pass0 (pa_cons (pv 0) (pa_cons (pv 3) pa_nil))) pe_int) (fun _ _ => rfl))) (pss_cons (ps_set (i := 5) nd rfl (by first | exact Or.inl rfl | exact Or.inr rfl) (pe_op op_add pe_int (pe_op op_mod (pe_call (ok__law_mixed T) (hr.mono (by decide)) (by rfl) T.f__law_mixed.g T.f__law_mixed.F.kp T.f__law_mixed.b .nil pass0 (pa_cons (pv 0) (pa_cons (pe_op op_add pe_int (pv 3)) pa_nil))) pe_int))) (pss_cons (ps_setLc (i := 6) (own := [("j", 7)]) (g := (gName 7)) rfl nd rfl rfl (sw_true rfl rfl rfl (by decide +kernel)) (pi_range1 (by rfl) T.z_range (pa_cons (pv 5) pa_nil)) (blkOk_by (own := [("j", 7)]) (N := N__law_rule) (sc := defScope s__law_rule) (by decide +kernel)) (fun _ _ _ _ _ => pg_name (i := 7) nd rfl (Or.inl rfl)) (fun _ _ _ _ _ => pts_nil) (fun _ _ _ _ _ => (pe_op op_mod (pe_call (ok__law_mixed T) (hr.mono (by decide)) (by rfl) T.f__law_mixed.g T.f__law_mixed.F.kp T.f__law_mixed.b .nil pass0 (pa_cons (pv 0) (pa_cons (pe_op op_add (pe_op op_add pe_int (pe_op op_mul pe_int (pv 3))) (pv 7)) pa_nil))) (pv 4)))) (pss_one (ps_if (pt_cmpR (op_niT (α := (List Int)) (by decide) (hu65 hr)) (pv 6) (pv 2) (by rfl)) (pss_one (ps_expr (pe_bm PySem.F.plainAttrs_list PySem.F.slot_list_append PySem.F.type_list_append mt_append (pv 2) (pa_cons (pv 6) pa_nil)))) pss_nil)))))) (pss_one (ps_ret (pe_tup (pa_cons (pv 1) (pa_cons (pe_callB (r := rSortedT (List Int)) (call_sortedT (by decide) (hu200' hr)) (by rfl) T.z_sorted (by decide +kernel) (pa_cons (pv 2) pa_nil)) pa_nil)))))))), ?_⟩
  refine x_start (σ' := ([some (.int cell), none, none, none, none, none, none, none] : L2.St)) (by with_unfolding_all rfl) ?_
  rw [_law_rule] at hm
  with_reducible refine x_seq ?_
  with_reducible refine x_asg ?_
  with_reducible refine x_op ?_
  with_reducible refine x_c ?_
  with_reducible refine x_op ?_
  refine ⟨_, rfl, ?_⟩
  with_reducible refine x_c ?_
  refine ⟨_, _, rfl, rfl, (show (0 : Int) < (15 : Int) from by decide), ?_⟩
  refine ⟨_, _, rfl, rfl, ?_⟩
  with_reducible refine x_gnE (σ' := ([some (.int cell), some (.int ((2 : Int) + (cell % (15 : Int)))), none, none, none, none, none, none] : L2.St)) (by with_unfolding_all rfl) ?_
  with_reducible refine x_seq ?_
  with_reducible refine x_asg ?_
  with_reducible refine x_lst ?_
  refine ⟨szle (show 0 ≤ 16777216 from by decide), fun p1 np1 => ?_⟩
  have fr1 : Rs (α := (List Int)) (F0) [] ([] : (List (List Int))) := Rs_nil
  have g1 := Gr.newO (o := .lst []) G0.sub np1
  have o1 := Ow.new (us := []) G0 np1
  have G1 := G0.step g1
  with_reducible refine x_gnE (σ' := ([some (.int cell), some (.int ((2 : Int) + (cell % (15 : Int)))), some (.ref p1), none, none, none, none, none] : L2.St)) (by with_unfolding_all rfl) ?_
  with_reducible refine x_seq ?_
  with_reducible refine x_for ?_
  with_reducible refine x_rng1 ?_
  with_reducible refine x_cons ?_
  with_reducible refine x_op ?_
  with_reducible refine x_op ?_
  refine ⟨_, rfl, ?_⟩
  with_reducible refine x_c ?_
  refine ⟨_, _, rfl, rfl, (show Dv ((15 : Int)) from by decide +kernel).w, ?_⟩
  with_reducible refine x_c ?_
  refine ⟨_, _, rfl, rfl, (show (0 : Int) < (5 : Int) from by decide), ?_⟩
  obtain ⟨c1, hm⟩ := guardp hm
  refine ⟨_, rfl, c1.lo, c1.hi, ?_⟩
  refine for_rng (lo := 0) (hi := ((cell / (15 : Int)) % (5 : Int))) (by rw [Int.sub_zero]) (fun (ts1 : List Int) σ H1 => ∃ (F1 : Hp) (x1 : (List (List Int))) (p2 : Addr) (us1 : List V) (y1 : Option V) (y2 : Option V) (y3 : Option V) (y4 : Option V), forK (_law_rule_b1 cell) ts1 x1 (_law_rule_e2 cell) = some r ∧ Sub (F0) F1 ∧ Gr NA F0 H F1 H1 ∧ Ow H F1 H1 p2 us1 ∧ Rs F1 us1 x1 ∧ σ = [some (.int cell), some (.int ((2 : Int) + (cell % (15 : Int)))), some (.ref p2), y1, y4, y2, y3, none]) ⟨F0, ([] : (List (List Int))), _, _, _, _, _, _, hm, (Sub.refl _), G1, o1, fr1, rfl⟩ (fun t1 ts2 σ H1 hW => ?_) (fun σ H1 hW => ?_)
  · skip
    obtain ⟨F1, x1, p2, us1, y1, y2, y3, y4, hm, s1, G2, o2, fr2, rfl⟩ := hW
    obtain ⟨next1, hnx1⟩ : ∃ nx, nx = fun s => forK (_law_rule_b1 cell) ts2 s (_law_rule_e2 cell) := ⟨_, rfl⟩
    have hm : (_law_rule_b1 cell) x1 t1 next1 = some r := by rw [hnx1]; exact forK_c hm
    rw [_law_rule_b1] at hm
    with_reducible refine x_gnE (σ' := ([some (.int cell), some (.int ((2 : Int) + (cell % (15 : Int)))), some (.ref p2), some (.int t1), y4, y2, y3, none] : L2.St)) (by with_unfolding_all rfl) ?_
    with_reducible refine x_seq ?_
    with_reducible refine x_asg ?_
    with_reducible refine x_op ?_
    with_reducible refine x_lst ?_
    with_reducible refine x_cons ?_
    refine ⟨_, rfl, ?_⟩
    with_reducible refine x_cons ?_
    with_reducible refine x_cb ?_
    with_reducible refine x_cons ?_
    refine ⟨_, rfl, ?_⟩
    with_reducible refine x_cons ?_
    with_reducible refine x_c ?_
    refine ⟨_, _, rfl, ?_⟩
    with_reducible refine x_cons ?_
    with_reducible refine x_c ?_
    refine ⟨szle (show 3 ≤ 16777216 from by decide), fun p3 np2 => ?_⟩
    have fr3 : Rs (α := Int) (F1) [(.int ((2 : Int) + (cell % (15 : Int)))), (.int (if (3 : Int) < ((2 : Int) + (cell % (15 : Int))) then (3 : Int) else ((2 : Int) + (cell % (15 : Int))))), (.int 2)] ([((2 : Int) + (cell % (15 : Int))), (if (3 : Int) < ((2 : Int) + (cell % (15 : Int))) then (3 : Int) else ((2 : Int) + (cell % (15 : Int)))), (2 : Int)] : (List Int)) := (Rs_cons (.int _) (Rs_cons (.int _) (Rs_cons (.int _) Rs_nil)))
    have g2 := Gr.newO (o := .lst [(.int ((2 : Int) + (cell % (15 : Int)))), (.int (if (3 : Int) < ((2 : Int) + (cell % (15 : Int))) then (3 : Int) else ((2 : Int) + (cell % (15 : Int))))), (.int 2)]) G2.sub np2
    have o3 := Ow.new (us := [(.int ((2 : Int) + (cell % (15 : Int)))), (.int (if (3 : Int) < ((2 : Int) + (cell % (15 : Int))) then (3 : Int) else ((2 : Int) + (cell % (15 : Int))))), (.int 2)]) G2 np2
    have ne1 := o2.ne_new np2
    have G3 := G2.step g2
    have o4 := o2.step g2
    with_reducible refine x_op ?_
    with_reducible refine x_call ?_
    with_reducible refine x_cons ?_
    refine ⟨_, rfl, ?_⟩
    with_reducible refine x_cons ?_
    refine ⟨_, rfl, ?_⟩
    obtain ⟨r1, hr1, hm⟩ := bindp hm
    refine ⟨_, _, _, cell, t1, r1, rfl, G3.sub, (.int _), (.int _), hr1, fun N1 H2 v2 g3 d1  => ?_⟩
    have G4 := G3.step g3
    have o5 := o4.step g3
    have o6 := o3.step g3
    obtain rfl := int_of d1
    with_reducible refine x_c ?_
    refine ⟨_, _, rfl, rfl, (show (0 : Int) < (3 : Int) from by decide), ?_⟩
    obtain ⟨x2, hx1, hm⟩ := bindp hm
    obtain ⟨v3, hu1, d2⟩ := Rs_at (Rs_mono g3.ex fr3) hx1
    refine ⟨_, _, _, _, rfl, rfl, .inl (.inl o6.at_), hu1, ?_⟩
    obtain rfl := int_of d2
    with_reducible refine x_gnE (σ' := ([some (.int cell), some (.int ((2 : Int) + (cell % (15 : Int)))), some (.ref p2), some (.int t1), some (.int x2), y2, y3, none] : L2.St)) (by with_unfolding_all rfl) ?_
    with_reducible refine x_seq ?_
    with_reducible refine x_asg ?_
    with_reducible refine x_op ?_
    with_reducible refine x_c ?_
    with_reducible refine x_op ?_
    with_reducible refine x_call ?_
    with_reducible refine x_cons ?_
    refine ⟨_, rfl, ?_⟩
    with_reducible refine x_cons ?_
    refine useEv (.int ((10 : Int) + t1)) (by exact (Evl.ev_op Evl.ev_c (Evl.ev_var rfl) Evl.rv_I0)) (fun H3 e1 => ?_)
    have g4 := gr_ex G4.sub e1
    have G5 := G4.step g4
    have o7 := o5.step g4
    obtain ⟨r2, hr2, hm⟩ := bindp hm
    refine ⟨_, _, _, cell, ((10 : Int) + t1), r2, rfl, G5.sub, (.int _), (.int _), hr2, fun N2 H4 v4 g5 d3  => ?_⟩
    have G6 := G5.step g5
    have o8 := o7.step g5
    obtain rfl := int_of d3
    with_reducible refine x_c ?_
    refine ⟨_, _, rfl, rfl, (show (0 : Int) < (4 : Int) from by decide), ?_⟩
    refine ⟨_, _, rfl, rfl, ?_⟩
    with_reducible refine x_gnE (σ' := ([some (.int cell), some (.int ((2 : Int) + (cell % (15 : Int)))), some (.ref p2), some (.int t1), some (.int x2), some (.int ((1 : Int) + (r2 % (4 : Int)))), y3, none] : L2.St)) (by with_unfolding_all rfl) ?_
    with_reducible refine x_seq ?_
    with_reducible refine x_asg ?_
    with_reducible refine x_lc ?_
    with_reducible refine x_rng1 ?_
    with_reducible refine x_cons ?_
    refine ⟨_, rfl, ?_⟩
    obtain ⟨c2, hm⟩ := guardp hm
    refine ⟨_, rfl, c2.lo, c2.hi, fun p4 np3 => ?_⟩
    have g6 := Gr.newO (o := .lst []) G6.sub np3
    have o9 := Ow.new (us := []) G6 np3
    have ne2 := o8.ne_new np3
    have G7 := G6.step g6
    have o10 := o8.step g6
    refine lc_rng (lo := 0) (hi := ((1 : Int) + (r2 % (4 : Int)))) (by rw [Int.sub_zero]) (fun (ts3 : List Int) H5 => ∃ (F2 : Hp) (x4 : List Int) (us3 : List V), forK (_law_rule_c3 cell t1 x2) ts3 x4 (_law_rule_k4 x1 next1) = some r ∧ Sub (N2) F2 ∧ Gr NA F0 H F2 H5 ∧ Ow H F2 H5 p4 us3 ∧ Rs F2 us3 x4 ∧ Ow H F2 H5 p2 us1) ⟨N2, ([] : List Int), _, hm, (Sub.refl _), G7, o9, Rs_nil, o10⟩ (fun t2 ts4 H1 hW => ?_) (fun H1 hW => ?_)
    · skip
      obtain ⟨F2, x4, us3, hm, s2, G8, o11, fr4, o12⟩ := hW
      obtain ⟨next2, hnx2⟩ : ∃ nx, nx = fun s => forK (_law_rule_c3 cell t1 x2) ts4 s (_law_rule_k4 x1 next1) := ⟨_, rfl⟩
      have hm : (_law_rule_c3 cell t1 x2) x4 t2 next2 = some r := by rw [hnx2]; exact forK_c hm
      rw [_law_rule_c3] at hm
      with_reducible refine x_gnE (σ' := ([some (.int cell), some (.int ((2 : Int) + (cell % (15 : Int)))), some (.ref p2), some (.int t1), some (.int x2), some (.int ((1 : Int) + (r2 % (4 : Int)))), y3, some (.int t2)] : L2.St)) (by with_unfolding_all rfl) ?_
      refine ⟨rfl, ?_⟩
      with_reducible refine x_yes ?_
      refine iteT ?_
      with_reducible refine x_op ?_
      with_reducible refine x_call ?_
      with_reducible refine x_cons ?_
      refine ⟨_, rfl, ?_⟩
      with_reducible refine x_cons ?_
      with_reducible refine x_op ?_
      with_reducible refine x_op ?_
      with_reducible refine x_c ?_
      with_reducible refine x_op ?_
      with_reducible refine x_c ?_
      refine ⟨_, rfl, ?_⟩
      refine ⟨_, _, rfl, rfl, .inl ⟨by decide, by decide⟩, ?_⟩
      refine ⟨_, _, rfl, rfl, ?_⟩
      refine ⟨_, rfl, ?_⟩
      refine ⟨_, _, rfl, rfl, ?_⟩
      obtain ⟨r3, hr3, hm⟩ := bindp hm
      refine ⟨_, _, _, cell, (((20 : Int) + ((4 : Int) * t1)) + t2), r3, rfl, G8.sub, (.int _), (.int _), hr3, fun N3 H6 v6 g7 d4  => ?_⟩
      have G9 := G8.step g7
      have o13 := o11.step g7
      have o14 := o12.step g7
      obtain rfl := int_of d4
      refine ⟨_, rfl, ?_⟩
      obtain ⟨c3, hm⟩ := guardp hm
      refine ⟨_, _, rfl, rfl, c3.p, ?_⟩
      obtain ⟨c4, hm⟩ := guardp hm
      have G10 := o13.mutG (o := .lst (us3 ++ [(.int (r3 % x2))])) G9
      have o15 := o13.mut (ws := us3 ++ [(.int (r3 % x2))])
      have fr5 : Rs (α := Int) (N3) (us3 ++ [(.int (r3 % x2))]) (x4 ++ [(r3 % x2)]) := Rs_snoc (Rs_mono g7.ex fr4) (.int _)
      have o16 := o14.other (ws := us3 ++ [(.int (r3 % x2))]) (Ne.symm ne2)
      rw [hnx2] at hm
      exact ⟨_, o13.at_, szl (by rw [Rs_len (Rs_mono g7.ex fr4)]; exact c4), ⟨N3, (x4 ++ [(r3 % x2)]), _, hm, (s2.trans g7.ex), G10, o15, fr5, o16⟩⟩
    · skip
      obtain ⟨F2, x4, us3, hm, s3, G11, o17, fr6, o18⟩ := hW
      have hm : (_law_rule_k4 x1 next1) x4 = some r := forK_n hm
      rw [_law_rule_k4] at hm
      obtain ⟨F3, G12, ex1, fa1, nf1⟩ := o17.frzE G11
      have o19 := o18.frzN (Ne.symm (Ne.symm ne2)) nf1
      have fr7 := Rs_mono ex1 fr6
      with_reducible refine x_gnE (σ' := ([some (.int cell), some (.int ((2 : Int) + (cell % (15 : Int)))), some (.ref p2), some (.int t1), some (.int x2), some (.int ((1 : Int) + (r2 % (4 : Int)))), some (.ref p4), none] : L2.St)) (by with_unfolding_all rfl) ?_
      with_reducible refine x_if ?_
      with_reducible refine x_test ?_
      with_reducible refine x_op ?_
      refine ⟨_, rfl, ?_⟩
      refine ⟨_, rfl, ?_⟩
      refine ⟨_, x4, x1, Sub.refl _, (RD.mono G12.sub (mk_lst ((Sub.refl _) _ _ fa1) (Rs_mono (Sub.refl _) fr7))), (mk_lst o19.at_ (Rs_mono G12.sub (Rs_mono ex1 (Rs_mono s3 (Rs_mono g5.ex (Rs_mono g3.ex fr2)))))), ?_⟩
      refine ⟨_, rfl, ?_⟩
      refine ifD (fun hc => ?_) (fun hc => ?_)
      · replace hm := itep hm hc
        with_reducible refine x_drop ?_
        with_reducible refine x_bm ?_
        refine ⟨_, rfl, ?_⟩
        refine ⟨.inl ⟨rfl, _, .inl (.inl o19.at_)⟩, ?_⟩
        with_reducible refine x_cons ?_
        refine ⟨_, rfl, ?_⟩
        obtain ⟨c5, hm⟩ := guardp hm
        refine ⟨_, _, _, rfl, rfl, o19.at_, szl (by rw [Rs_len (Rs_mono ex1 (Rs_mono s3 (Rs_mono g5.ex (Rs_mono g3.ex fr2))))]; exact c5), ?_⟩
        have G13 := o19.mutG (o := .lst (us1 ++ [(.ref p4)])) G12
        have o20 := o19.mut (ws := us1 ++ [(.ref p4)])
        have fr8 : Rs (α := (List Int)) (F3) (us1 ++ [(.ref p4)]) (x1 ++ [x4]) := Rs_snoc (Rs_mono ex1 (Rs_mono s3 (Rs_mono g5.ex (Rs_mono g3.ex fr2)))) (mk_lst ((Sub.refl _) _ _ fa1) (Rs_mono (Sub.refl _) fr7))
        rw [hnx1] at hm
        exact ⟨F3, (x1 ++ [x4]), _, _, _, _, _, _, hm, ((((s1.trans g3.ex).trans g5.ex).trans s3).trans ex1), G13, o20, fr8, rfl⟩
      · replace hm := iten hm (bF hc)
        with_reducible refine x_next ?_
        rw [hnx1] at hm
        exact ⟨F3, x1, _, _, _, _, _, _, hm, ((((s1.trans g3.ex).trans g5.ex).trans s3).trans ex1), G12, o19, (Rs_mono ex1 (Rs_mono s3 (Rs_mono g5.ex (Rs_mono g3.ex fr2)))), rfl⟩
  · skip
    obtain ⟨F1, x1, p2, us1, y1, y2, y3, y4, hm, s4, G14, o21, fr9, rfl⟩ := hW
    have hm : (_law_rule_e2 cell) x1 = some r := forK_n hm
    rw [_law_rule_e2] at hm
    with_reducible refine x_ret ?_
    with_reducible refine x_tup ?_
    with_reducible refine x_cons ?_
    refine ⟨_, rfl, ?_⟩
    with_reducible refine x_cons ?_
    with_reducible refine x_cb ?_
    with_reducible refine x_cons ?_
    refine ⟨_, rfl, ?_⟩
    obtain ⟨c6, hm⟩ := guardp hm
    refine ⟨_, _, _, x1, rfl, o21.at_, G14.sub, fr9, c6, fun p5 us4 np4 fr10 => ?_⟩
    have g8 := Gr.newO (o := .lst us4) G14.sub np4
    have o22 := Ow.new (us := us4) G14 np4
    have ne3 := o21.ne_new np4
    have G15 := G14.step g8
    have o23 := o21.step g8
    obtain ⟨F4, G16, ex2, fa2, nf2⟩ := o22.frzE G15
    have o24 := o23.frzN (Ne.symm (Ne.symm ne3)) nf2
    have fr11 := Rs_mono ex2 fr10
    refine ⟨szle (show 2 ≤ 16777216 from by decide), fun p6 np5 => ?_⟩
    obtain ⟨F5, g9, fa3⟩ := Gr.newE (o := .tup [(.int ((2 : Int) + (cell % (15 : Int)))), (.ref p5)]) G16.sub np5
    have G17 := G16.step g9
    have o25 := o24.step g9
    obtain rfl : _ = r := Option.some.inj hm
    exact q _ _ _ G17 (mk_tup2 ((Sub.refl _) _ _ fa3) (.int _) (mk_lst (g9.ex _ _ fa2) (Rs_mono g9.ex fr11)))

def _law_text_c1 : (List Str) → Int → ((List Str) → Option Str) → Option Str
  | x2, t1, next1 => (if ("0123456789abcdef" : Str).length ≤ 16777216 then ((atI ("0123456789abcdef" : Str).cps.toList t1).bind fun x3 => (if x2.length < 16777216 then (next1 (x2 ++ [(⟨#[x3]⟩ : Str)])) else none)) else none)
def _law_text_k2 : (List Str) → Option Str
  | x2 => (if (x2.map (·.length)).sum + x2.length * ("" : Str).length ≤ 16777216 then (some (Txt.join ("" : Str) x2)) else none)
def _law_text (figures : (List Int)) : Option Str :=
  (forK (_law_text_c1) (figures) [] (_law_text_k2))
abbrev N__law_text : List Str := ["figures", "one"]
theorem sc__law_text : FnScope N__law_text ["figures"] (defScope s__law_text) := ⟨rfl, rfl, rfl, by decide +kernel, rfl, by decide +kernel, by decide +kernel⟩
def sp__law_text : Sp := fun vs H Q _ => ∃ (F : Hp) (v_figures : V) (figures : (List Int)) (r : Str), vs = [v_figures] ∧ Sub F H ∧ R F v_figures figures ∧ _law_text figures = some r ∧ ∀ N H2 v, Gr NA F H N H2 → R N v r → Q v H2
theorem ok__law_text {P : Program} {w : World} {K : PySem.W.Frag} {mg : Str → Option Value} {base : Heap} (T : Txt K mg) : FnOk P w K mg base CX0 1 T.f__law_text.f T.f__law_text.fd ["figures"] sp__law_text := by
  have nd := (sc__law_text).nd
  refine T.f__law_text.F.ok sc__law_text (fun vs H Q E h => ?_) (fun cdv A0 outer s H vs Q E hr h => ?_)
  · obtain ⟨_, _, _, _, rfl, _⟩ := h
    rfl
  obtain ⟨F0, v_figures, figures, r, rfl, s0, f_figures, hm, q⟩ := h
  have G0 : Gr NA F0 H F0 H := Gr.refl s0
  obtain ⟨a1, us1, rfl, fa1, fr1⟩ := lst_of f_figures
  refine ⟨_, (pss_one (ps_ret (pe_join pe_str (pe_lc (own := [("one", 1)]) (g := (gName 1)) rfl nd (pi_list (pv 0)) (blkOk_by (own := [("one", 1)]) (N := N__law_text) (sc := defScope s__law_text) (by decide +kernel)) (fun _ _ _ _ _ => pg_name (i := 1) nd rfl (Or.inl rfl)) (fun _ _ _ _ _ => pts_nil) (fun _ _ _ _ _ => (pe_ix (r := rIxS) ix_str pe_str (pv 1) (fun _ _ => rfl))))))), ?_⟩
  refine x_start (σ' := ([some (.ref a1), none] : L2.St)) (by with_unfolding_all rfl) ?_
  rw [_law_text] at hm
  with_reducible refine x_ret ?_
  with_reducible refine x_m1 ?_
  with_reducible refine x_c ?_
  refine ⟨⟨_, rfl⟩, ?_⟩
  with_reducible refine x_lc ?_
  with_reducible refine x_iter ?_
  refine ⟨_, rfl, ?_⟩
  refine ⟨_, rfl, ⟨_, .inl (.inl (G0.sub _ _ fa1))⟩, fun p1 np1 => ?_⟩
  have g1 := Gr.newO (o := .lst []) G0.sub np1
  have o1 := Ow.new (us := []) G0 np1
  have G1 := G0.step g1
  refine lc_lst (α := Int) (fun (ts1 : List Int) H1 => ∃ (F1 : Hp) (x2 : List Str) (us3 : List V), forK (_law_text_c1) ts1 x2 (_law_text_k2) = some r ∧ Sub (F0) F1 ∧ Gr NA F0 H F1 H1 ∧ Ow H F1 H1 p1 us3 ∧ Rs F1 us3 x2) (Rs_mono (Sub.refl _) fr1) ⟨F0, ([] : List Str), _, hm, (Sub.refl _), G1, o1, Rs_nil⟩ (fun _ _ h => ?_) (fun t1 ts2 v1 H1 hv1 hW => ?_) (fun H1 hW => ?_)
  · obtain ⟨F9, _, _, _, s9, G9, _⟩ := h
    exact G9.sub _ _ (s9 _ _ ((Sub.refl _) _ _ fa1))
  · skip
    obtain ⟨F1, x2, us3, hm, s1, G2, o2, fr2⟩ := hW
    obtain ⟨next1, hnx1⟩ : ∃ nx, nx = fun s => forK (_law_text_c1) ts2 s (_law_text_k2) := ⟨_, rfl⟩
    have hm : (_law_text_c1) x2 t1 next1 = some r := by rw [hnx1]; exact forK_c hm
    rw [_law_text_c1] at hm
    obtain rfl := int_of hv1
    with_reducible refine x_gnE (σ' := ([some (.ref a1), some (.int t1)] : L2.St)) (by with_unfolding_all rfl) ?_
    refine ⟨rfl, ?_⟩
    with_reducible refine x_yes ?_
    refine iteT ?_
    with_reducible refine x_op ?_
    with_reducible refine x_c ?_
    refine ⟨_, rfl, ?_⟩
    obtain ⟨c1, hm⟩ := guardp hm
    obtain ⟨x3, hx1, hm⟩ := bindp hm
    refine ixS_of c1 hx1 ?_
    obtain ⟨c2, hm⟩ := guardp hm
    have G3 := o2.mutG (o := .lst (us3 ++ [(.str (⟨#[x3]⟩ : Str))])) G2
    have o3 := o2.mut (ws := us3 ++ [(.str (⟨#[x3]⟩ : Str))])
    have fr3 : Rs (α := Str) (F1) (us3 ++ [(.str (⟨#[x3]⟩ : Str))]) (x2 ++ [(⟨#[x3]⟩ : Str)]) := Rs_snoc fr2 (.str _)
    rw [hnx1] at hm
    exact ⟨_, o2.at_, szl (by rw [Rs_len fr2]; exact c2), ⟨F1, (x2 ++ [(⟨#[x3]⟩ : Str)]), _, hm, s1, G3, o3, fr3⟩⟩
  · skip
    obtain ⟨F1, x2, us3, hm, s2, G4, o4, fr4⟩ := hW
    have hm : (_law_text_k2) x2 = some r := forK_n hm
    rw [_law_text_k2] at hm
    obtain ⟨c3, hm⟩ := guardp hm
    refine ⟨_, _, _, rfl, rfl, .inl (.inl (.inl (join_at o4.at_ fr4))), c3, ?_⟩
    obtain rfl : _ = r := Option.some.inj hm
    exact q _ _ _ G4 (.str _)


def is_whole (thing : Int) : Option Bool :=
  (some (!false))
abbrev N_is_whole : List Str := ["thing"]
theorem sc_is_whole : FnScope N_is_whole ["thing"] (defScope s_is_whole) := ⟨rfl, rfl, rfl, by decide +kernel, rfl, by decide +kernel, by decide +kernel⟩
def sp_is_whole : Sp := fun vs H Q _ => ∃ (F : Hp) (v_thing : V) (thing : Int) (r : Bool), vs = [v_thing] ∧ Sub F H ∧ R F v_thing thing ∧ is_whole thing = some r ∧ ∀ N H2 v, Gr NA F H N H2 → R N v r → Q v H2
theorem ok_is_whole {P : Program} {w : World} {K : PySem.W.Frag} {mg : Str → Option Value} {base : Heap} (T : Txt K mg) : FnOk P w K mg base CX0 1 T.f_is_whole.f T.f_is_whole.fd ["thing"] sp_is_whole := by
  have nd := (sc_is_whole).nd
  refine T.f_is_whole.F.ok sc_is_whole (fun vs H Q E h => ?_) (fun cdv A0 outer s H vs Q E hr h => ?_)
  · obtain ⟨_, _, _, _, rfl, _⟩ := h
    rfl
  obtain ⟨F0, v_thing, thing, r, rfl, s0, f_thing, hm, q⟩ := h
  have G0 : Gr NA F0 H F0 H := Gr.refl s0
  obtain rfl := int_of f_thing
  refine ⟨_, (pss_one (ps_ret (pe_and (pe_callB (r := rIsi K) call_isi (by rfl) T.z_isinstance (by decide +kernel) (pa_cons (pv 0) (pa_cons (pe_bltn (v := .ty "int") (by rfl) T.z_int (by decide +kernel) rfl) pa_nil))) (pe_one (pe_not (pe_callB (r := rIsi K) call_isi (by rfl) T.z_isinstance (by decide +kernel) (pa_cons (pv 0) (pa_cons (pe_bltn (v := .ty "bool") (by rfl) T.z_bool (by decide +kernel) rfl) pa_nil)))))))), ?_⟩
  refine x_start (σ' := ([some (.int thing)] : L2.St)) (by with_unfolding_all rfl) ?_
  rw [is_whole] at hm
  with_reducible refine x_ret ?_
  with_reducible refine x_andV ?_
  with_reducible refine x_cb ?_
  with_reducible refine x_cons ?_
  refine ⟨_, rfl, ?_⟩
  refine ⟨_, _, _, _, true, rfl, ClsV.ty _, TyX.base (TyOf.int _), kit_ty (by decide +kernel), ?_⟩
  refine ⟨_, rfl, ?_⟩
  refine iteT ?_
  with_reducible refine x_notV ?_
  with_reducible refine x_cb ?_
  with_reducible refine x_cons ?_
  refine ⟨_, rfl, ?_⟩
  refine ⟨_, _, _, _, false, rfl, ClsV.ty _, TyX.base (TyOf.int _), kit_ty (by decide +kernel), ?_⟩
  refine ⟨_, rfl, ?_⟩
  obtain rfl : _ = r := Option.some.inj hm
  exact q _ _ _ G0 (.bl _)


def is_base (thing : Int) : Option Bool :=
  ((is_whole thing).bind fun r1 => (if r1 = true then (if (decide ((2 : Int) ≤ thing)) = true then (some (decide (thing ≤ (16 : Int)))) else (some false)) else (some false)))
abbrev N_is_base : List Str := ["thing"]
theorem sc_is_base : FnScope N_is_base ["thing"] (defScope s_is_base) := ⟨rfl, rfl, rfl, by decide +kernel, rfl, by decide +kernel, by decide +kernel⟩
def sp_is_base : Sp := fun vs H Q _ => ∃ (F : Hp) (v_thing : V) (thing : Int) (r : Bool), vs = [v_thing] ∧ Sub F H ∧ R F v_thing thing ∧ is_base thing = some r ∧ ∀ N H2 v, Gr NA F H N H2 → R N v r → Q v H2
theorem ok_is_base {P : Program} {w : World} {K : PySem.W.Frag} {mg : Str → Option Value} {base : Heap} (T : Txt K mg) : FnOk P w K mg base CX0 2 T.f_is_base.f T.f_is_base.fd ["thing"] sp_is_base := by
  have nd := (sc_is_base).nd
  refine T.f_is_base.F.ok sc_is_base (fun vs H Q E h => ?_) (fun cdv A0 outer s H vs Q E hr h => ?_)
  · obtain ⟨_, _, _, _, rfl, _⟩ := h
    rfl
  obtain ⟨F0, v_thing, thing, r, rfl, s0, f_thing, hm, q⟩ := h
  have G0 : Gr NA F0 H F0 H := Gr.refl s0
  obtain rfl := int_of f_thing
  refine ⟨_, (pss_one (ps_ret (pe_and (pe_call (ok_is_whole T) (hr.mono (by decide)) (by rfl) T.f_is_whole.g T.f_is_whole.F.kp T.f_is_whole.b .nil pass0 (pa_cons (pv 0) pa_nil)) (pe_one (pe_chain op_le op_le (pe_glob (v := .int 2) rfl T.c_LEAST_BASE.g ⟨_, rfl⟩) (pv 0) (pe_glob (v := .int 16) rfl T.c_MOST_BASE.g ⟨_, rfl⟩)))))), ?_⟩
  refine x_start (σ' := ([some (.int thing)] : L2.St)) (by with_unfolding_all rfl) ?_
  rw [is_base] at hm
  with_reducible refine x_ret ?_
  with_reducible refine x_andV ?_
  with_reducible refine x_call ?_
  with_reducible refine x_cons ?_
  refine ⟨_, rfl, ?_⟩
  obtain ⟨r1, hr1, hm⟩ := bindp hm
  refine ⟨_, _, thing, r1, rfl, G0.sub, (.int _), hr1, fun N1 H1 v1 g1 d1  => ?_⟩
  have G1 := G0.step g1
  obtain rfl := bl_of d1
  refine ⟨_, rfl, ?_⟩
  refine ifD (fun hc => ?_) (fun hc => ?_)
  · replace hm := itep hm hc
    with_reducible refine x_chain ?_
    with_reducible refine x_c ?_
    refine ⟨_, rfl, ?_⟩
    refine ⟨_, _, rfl, rfl, _, rfl, ?_⟩
    refine ifD (fun hc => ?_) (fun hc => ?_)
    · replace hm := itep hm hc
      with_reducible refine x_c ?_
      refine ⟨_, _, rfl, rfl, ?_⟩
      obtain rfl : _ = r := Option.some.inj hm
      exact q _ _ _ G1 (.bl _)
    · replace hm := iten hm (bF hc)
      obtain rfl : _ = r := Option.some.inj hm
      exact q _ _ _ G1 (.bl _)
  · replace hm := iten hm (bF hc)
    obtain rfl : _ = r := Option.some.inj hm
    exact q _ _ _ G1 (.bl _)


def is_figure (base : Int) (thing : Int) : Option Bool :=
  ((is_whole thing).bind fun r1 => (if r1 = true then (if (decide ((0 : Int) ≤ thing)) = true then (some (decide (thing < base))) else (some false)) else (some false)))
abbrev N_is_figure : List Str := ["base", "thing"]
theorem sc_is_figure : FnScope N_is_figure ["base", "thing"] (defScope s_is_figure) := ⟨rfl, rfl, rfl, by decide +kernel, rfl, by decide +kernel, by decide +kernel⟩
def sp_is_figure : Sp := fun vs H Q _ => ∃ (F : Hp) (v_base : V) (v_thing : V) (base : Int) (thing : Int) (r : Bool), vs = [v_base, v_thing] ∧ Sub F H ∧ R F v_base base ∧ R F v_thing thing ∧ is_figure base thing = some r ∧ ∀ N H2 v, Gr NA F H N H2 → R N v r → Q v H2
theorem ok_is_figure {P : Program} {w : World} {K : PySem.W.Frag} {mg : Str → Option Value} {base : Heap} (T : Txt K mg) : FnOk P w K mg base CX0 2 T.f_is_figure.f T.f_is_figure.fd ["base", "thing"] sp_is_figure := by
  have nd := (sc_is_figure).nd
  refine T.f_is_figure.F.ok sc_is_figure (fun vs H Q E h => ?_) (fun cdv A0 outer s H vs Q E hr h => ?_)
  · obtain ⟨_, _, _, _, _, _, rfl, _⟩ := h
    rfl
  obtain ⟨F0, v_base, v_thing, base, thing, r, rfl, s0, f_base, f_thing, hm, q⟩ := h
  have G0 : Gr NA F0 H F0 H := Gr.refl s0
  obtain rfl := int_of f_base
  obtain rfl := int_of f_thing
  refine ⟨_, (pss_one (ps_ret (pe_and (pe_call (ok_is_whole T) (hr.mono (by decide)) (by rfl) T.f_is_whole.g T.f_is_whole.F.kp T.f_is_whole.b .nil pass0 (pa_cons (pv 1) pa_nil)) (pe_one (pe_chain op_le op_lt pe_int (pv 1) (pv 0)))))), ?_⟩
  refine x_start (σ' := ([some (.int base), some (.int thing)] : L2.St)) (by with_unfolding_all rfl) ?_
  rw [is_figure] at hm
  with_reducible refine x_ret ?_
  with_reducible refine x_andV ?_
  with_reducible refine x_call ?_
  with_reducible refine x_cons ?_
  refine ⟨_, rfl, ?_⟩
  obtain ⟨r1, hr1, hm⟩ := bindp hm
  refine ⟨_, _, thing, r1, rfl, G0.sub, (.int _), hr1, fun N1 H1 v1 g1 d1  => ?_⟩
  have G1 := G0.step g1
  obtain rfl := bl_of d1
  refine ⟨_, rfl, ?_⟩
  refine ifD (fun hc => ?_) (fun hc => ?_)
  · replace hm := itep hm hc
    with_reducible refine x_chain ?_
    with_reducible refine x_c ?_
    refine ⟨_, rfl, ?_⟩
    refine ⟨_, _, rfl, rfl, _, rfl, ?_⟩
    refine ifD (fun hc => ?_) (fun hc => ?_)
    · replace hm := itep hm hc
      refine ⟨_, rfl, ?_⟩
      refine ⟨_, _, rfl, rfl, ?_⟩
      obtain rfl : _ = r := Option.some.inj hm
      exact q _ _ _ G1 (.bl _)
    · replace hm := iten hm (bF hc)
      obtain rfl : _ = r := Option.some.inj hm
      exact q _ _ _ G1 (.bl _)
  · replace hm := iten hm (bF hc)
    obtain rfl : _ = r := Option.some.inj hm
    exact q _ _ _ G1 (.bl _)

def are_figures_c1 (base : Int) : (List Int) → Int → ((List Int) → Option Bool) → Option Bool
  | x2, t1, next1 => ((is_figure base t1).bind fun r1 => (if (!r1) = true then (if x2.length < 16777216 then (next1 (x2 ++ [t1])) else none) else (next1 x2)))
def are_figures_k2 : (List Int) → Option Bool
  | x2 => (some (eqT x2 ([] : (List Int))))
def are_figures (base : Int) (thing : (List Int)) : Option Bool :=
  (forK (are_figures_c1 base) (thing) [] (are_figures_k2))
abbrev N_are_figures : List Str := ["base", "thing", "one"]
theorem sc_are_figures : FnScope N_are_figures ["base", "thing"] (defScope s_are_figures) := ⟨rfl, rfl, rfl, by decide +kernel, rfl, by decide +kernel, by decide +kernel⟩
def sp_are_figures : Sp := fun vs H Q _ => ∃ (F : Hp) (v_base : V) (v_thing : V) (base : Int) (thing : (List Int)) (r : Bool), vs = [v_base, v_thing] ∧ Sub F H ∧ R F v_base base ∧ R F v_thing thing ∧ are_figures base thing = some r ∧ ∀ N H2 v, Gr NA F H N H2 → R N v r → Q v H2
theorem ok_are_figures {P : Program} {w : World} {K : PySem.W.Frag} {mg : Str → Option Value} {base : Heap} (T : Txt K mg) : FnOk P w K mg base CX0 3 T.f_are_figures.f T.f_are_figures.fd ["base", "thing"] sp_are_figures := by
  have nd := (sc_are_figures).nd
  refine T.f_are_figures.F.ok sc_are_figures (fun vs H Q E h => ?_) (fun cdv A0 outer s H vs Q E hr h => ?_)
  · obtain ⟨_, _, _, _, _, _, rfl, _⟩ := h
    rfl
  obtain ⟨F0, v_base, v_thing, base, thing, r, rfl, s0, f_base, f_thing, hm, q⟩ := h
  have G0 : Gr NA F0 H F0 H := Gr.refl s0
  obtain rfl := int_of f_base
  obtain ⟨a1, us1, rfl, fa1, fr1⟩ := lst_of f_thing
  refine ⟨_, (pss_one (ps_ret (pe_and (pe_callB (r := rIsi K) call_isi (by rfl) T.z_isinstance (by decide +kernel) (pa_cons (pv 1) (pa_cons (pe_bltn (v := .ty "list") (by rfl) T.z_list (by decide +kernel) rfl) pa_nil))) (pe_one (pe_cmpR (op_eqT (α := (List Int)) (by decide) (hu64 hr)) (pe_lc (own := [("one", 2)]) (g := (gName 2)) rfl nd (pi_list (pv 1)) (blkOk_by (own := [("one", 2)]) (N := N_are_figures) (sc := defScope s_are_figures) (by decide +kernel)) (fun _ _ _ _ _ => pg_name (i := 2) nd rfl (Or.inl rfl)) (fun _ _ _ _ _ => pts_one (pt_not (pt_val (pe_call (ok_is_figure T) (hr.mono (by decide)) (by rfl) T.f_is_figure.g T.f_is_figure.F.kp T.f_is_figure.b .nil pass0 (pa_cons (pv 0) (pa_cons (pv 2) pa_nil)))))) (fun _ _ _ _ _ => (pv 2))) (pe_lst pa_nil) (nomark _)))))), ?_⟩
  refine x_start (σ' := ([some (.int base), some (.ref a1), none] : L2.St)) (by with_unfolding_all rfl) ?_
  rw [are_figures] at hm
  with_reducible refine x_ret ?_
  with_reducible refine x_andV ?_
  with_reducible refine x_cb ?_
  with_reducible refine x_cons ?_
  refine ⟨_, rfl, ?_⟩
  refine ⟨_, _, _, _, true, rfl, ClsV.ty _, TyX.base (TyOf.lst (G0.sub _ _ fa1)), kit_ty (by decide +kernel), ?_⟩
  refine ⟨_, rfl, ?_⟩
  refine iteT ?_
  with_reducible refine x_op ?_
  with_reducible refine x_lc ?_
  with_reducible refine x_iter ?_
  refine ⟨_, rfl, ?_⟩
  refine ⟨_, rfl, ⟨_, .inl (.inl (G0.sub _ _ fa1))⟩, fun p1 np1 => ?_⟩
  have g1 := Gr.newO (o := .lst []) G0.sub np1
  have o1 := Ow.new (us := []) G0 np1
  have G1 := G0.step g1
  refine lc_lst (α := Int) (fun (ts1 : List Int) H1 => ∃ (F1 : Hp) (x2 : List Int) (us3 : List V), forK (are_figures_c1 base) ts1 x2 (are_figures_k2) = some r ∧ Sub (F0) F1 ∧ Gr NA F0 H F1 H1 ∧ Ow H F1 H1 p1 us3 ∧ Rs F1 us3 x2) (Rs_mono (Sub.refl _) fr1) ⟨F0, ([] : List Int), _, hm, (Sub.refl _), G1, o1, Rs_nil⟩ (fun _ _ h => ?_) (fun t1 ts2 v1 H1 hv1 hW => ?_) (fun H1 hW => ?_)
  · obtain ⟨F9, _, _, _, s9, G9, _⟩ := h
    exact G9.sub _ _ (s9 _ _ ((Sub.refl _) _ _ fa1))
  · skip
    obtain ⟨F1, x2, us3, hm, s1, G2, o2, fr2⟩ := hW
    obtain ⟨next1, hnx1⟩ : ∃ nx, nx = fun s => forK (are_figures_c1 base) ts2 s (are_figures_k2) := ⟨_, rfl⟩
    have hm : (are_figures_c1 base) x2 t1 next1 = some r := by rw [hnx1]; exact forK_c hm
    rw [are_figures_c1] at hm
    obtain rfl := int_of hv1
    with_reducible refine x_gnE (σ' := ([some (.int base), some (.ref a1), some (.int t1)] : L2.St)) (by with_unfolding_all rfl) ?_
    refine ⟨rfl, ?_⟩
    with_reducible refine x_not ?_
    with_reducible refine x_B ?_
    with_reducible refine x_call ?_
    with_reducible refine x_cons ?_
    refine ⟨_, rfl, ?_⟩
    with_reducible refine x_cons ?_
    refine ⟨_, rfl, ?_⟩
    obtain ⟨r1, hr1, hm⟩ := bindp hm
    refine ⟨_, _, _, base, t1, r1, rfl, G2.sub, (.int _), (.int _), hr1, fun N1 H2 v2 g2 d1  => ?_⟩
    have G3 := G2.step g2
    have o3 := o2.step g2
    obtain rfl := bl_of d1
    refine ⟨_, rfl, ?_⟩
    refine ifD (fun hc => ?_) (fun hc => ?_)
    · replace hm := itep hm hc
      refine ⟨_, rfl, ?_⟩
      obtain ⟨c1, hm⟩ := guardp hm
      have G4 := o3.mutG (o := .lst (us3 ++ [(.int t1)])) G3
      have o4 := o3.mut (ws := us3 ++ [(.int t1)])
      have fr3 : Rs (α := Int) (N1) (us3 ++ [(.int t1)]) (x2 ++ [t1]) := Rs_snoc (Rs_mono g2.ex fr2) (.int _)
      rw [hnx1] at hm
      exact ⟨_, o3.at_, szl (by rw [Rs_len (Rs_mono g2.ex fr2)]; exact c1), ⟨N1, (x2 ++ [t1]), _, hm, (s1.trans g2.ex), G4, o4, fr3⟩⟩
    · replace hm := iten hm (bF hc)
      rw [hnx1] at hm
      exact ⟨N1, x2, _, hm, (s1.trans g2.ex), G3, o3, (Rs_mono g2.ex fr2)⟩
  · skip
    obtain ⟨F1, x2, us3, hm, s2, G5, o5, fr4⟩ := hW
    have hm : (are_figures_k2) x2 = some r := forK_n hm
    rw [are_figures_k2] at hm
    with_reducible refine x_lst ?_
    refine ⟨szle (show 0 ≤ 16777216 from by decide), fun p2 np2 => ?_⟩
    have fr5 : Rs (α := Int) (F1) [] ([] : (List Int)) := Rs_nil
    have g3 := Gr.newO (o := .lst []) G5.sub np2
    have o6 := Ow.new (us := []) G5 np2
    have ne1 := o5.ne_new np2
    have G6 := G5.step g3
    have o7 := o5.step g3
    refine ⟨_, x2, ([] : (List Int)), Sub.refl _, (mk_lst o7.at_ (Rs_mono G6.sub fr4)), (mk_lst o6.at_ (Rs_mono G6.sub fr5)), ?_⟩
    obtain rfl : _ = r := Option.some.inj hm
    exact q _ _ _ G6 (.bl _)


def need_base (thing : Int) : Option Unit :=
  ((is_base thing).bind fun r1 => (if (!r1) = true then none else (some ())))
abbrev N_need_base : List Str := ["thing"]
theorem sc_need_base : FnScope N_need_base ["thing"] (defScope s_need_base) := ⟨rfl, rfl, rfl, by decide +kernel, rfl, by decide +kernel, by decide +kernel⟩
def sp_need_base : Sp := fun vs H Q _ => ∃ (F : Hp) (v_thing : V) (thing : Int) (r : Unit), vs = [v_thing] ∧ Sub F H ∧ R F v_thing thing ∧ need_base thing = some r ∧ ∀ N H2 v, Gr NA F H N H2 → R N v r → Q v H2
theorem ok_need_base {P : Program} {w : World} {K : PySem.W.Frag} {mg : Str → Option Value} {base : Heap} (T : Txt K mg) : FnOk P w K mg base CX0 3 T.f_need_base.f T.f_need_base.fd ["thing"] sp_need_base := by
  have nd := (sc_need_base).nd
  refine T.f_need_base.F.ok sc_need_base (fun vs H Q E h => ?_) (fun cdv A0 outer s H vs Q E hr h => ?_)
  · obtain ⟨_, _, _, _, rfl, _⟩ := h
    rfl
  obtain ⟨F0, v_thing, thing, r, rfl, s0, f_thing, hm, q⟩ := h
  have G0 : Gr NA F0 H F0 H := Gr.refl s0
  obtain rfl := int_of f_thing
  refine ⟨_, (pss_one (ps_if (pt_not (pt_val (pe_call (ok_is_base T) (hr.mono (by decide)) (by rfl) T.f_is_base.g T.f_is_base.F.kp T.f_is_base.b .nil pass0 (pa_cons (pv 0) pa_nil)))) (pss_one ps_never) pss_nil)), ?_⟩
  refine x_start (σ' := ([some (.int thing)] : L2.St)) (by with_unfolding_all rfl) ?_
  rw [need_base] at hm
  with_reducible refine x_if ?_
  with_reducible refine x_not ?_
  with_reducible refine x_B ?_
  with_reducible refine x_call ?_
  with_reducible refine x_cons ?_
  refine ⟨_, rfl, ?_⟩
  obtain ⟨r1, hr1, hm⟩ := bindp hm
  refine ⟨_, _, thing, r1, rfl, G0.sub, (.int _), hr1, fun N1 H1 v1 g1 d1  => ?_⟩
  have G1 := G0.step g1
  obtain rfl := bl_of d1
  refine ⟨_, rfl, ?_⟩
  refine ifD (fun hc => ?_) (fun hc => ?_)
  · replace hm := itep hm hc
    exact no_none hm
  · replace hm := iten hm (bF hc)
    with_reducible refine x_next ?_
    obtain rfl : _ = r := Option.some.inj hm
    exact q _ _ _ G1 .non

def worth_b1 (base : Int) : Int → Int → (Int → Option Int) → Option Int
  | x1, t1, next1 => (if Mv x1 base then (next1 ((x1 * base) + t1)) else none)
def worth_e2 : Int → Option Int
  | x1 => (some x1)
def worth (base : Int) (figures : (List Int)) : Option Int :=
  (forK (worth_b1 base) (figures) (0 : Int) (worth_e2))
abbrev N_worth : List Str := ["base", "figures", "found", "figure"]
theorem sc_worth : FnScope N_worth ["base", "figures"] (defScope s_worth) := ⟨rfl, rfl, rfl, by decide +kernel, rfl, by decide +kernel, by decide +kernel⟩
def sp_worth : Sp := fun vs H Q _ => ∃ (F : Hp) (v_base : V) (v_figures : V) (base : Int) (figures : (List Int)) (r : Int), vs = [v_base, v_figures] ∧ Sub F H ∧ R F v_base base ∧ R F v_figures figures ∧ worth base figures = some r ∧ ∀ N H2 v, Gr NA F H N H2 → R N v r → Q v H2
theorem ok_worth {P : Program} {w : World} {K : PySem.W.Frag} {mg : Str → Option Value} {base : Heap} (T : Txt K mg) : FnOk P w K mg base CX0 1 T.f_worth.f T.f_worth.fd ["base", "figures"] sp_worth := by
  have nd := (sc_worth).nd
  refine T.f_worth.F.ok sc_worth (fun vs H Q E h => ?_) (fun cdv A0 outer s H vs Q E hr h => ?_)
  · obtain ⟨_, _, _, _, _, _, rfl, _⟩ := h
    rfl
  obtain ⟨F0, v_base, v_figures, base, figures, r, rfl, s0, f_base, f_figures, hm, q⟩ := h
  have G0 : Gr NA F0 H F0 H := Gr.refl s0
  obtain rfl := int_of f_base
  obtain ⟨a1, us1, rfl, fa1, fr1⟩ := lst_of f_figures
  refine ⟨_, (pss_cons (ps_set (i := 2) nd rfl (by first | exact Or.inl rfl | exact Or.inr rfl) pe_int) (pss_cons (ps_for PassesOwn.never rfl (pi_list (pv 1)) (pg_name (i := 3) nd rfl (by first | exact Or.inl rfl | exact Or.inr rfl)) (pss_one (ps_set (i := 2) nd rfl (by first | exact Or.inl rfl | exact Or.inr rfl) (pe_op op_add (pe_op op_mulW (pv 2) (pv 0)) (pv 3))))) (pss_one (ps_ret (pv 2))))), ?_⟩
  refine x_start (σ' := ([some (.int base), some (.ref a1), none, none] : L2.St)) (by with_unfolding_all rfl) ?_
  rw [worth] at hm
  with_reducible refine x_seq ?_
  with_reducible refine x_asg ?_
  with_reducible refine x_c ?_
  with_reducible refine x_gnE (σ' := ([some (.int base), some (.ref a1), some (.int 0), none] : L2.St)) (by with_unfolding_all rfl) ?_
  with_reducible refine x_seq ?_
  with_reducible refine x_for ?_
  with_reducible refine x_iter ?_
  refine ⟨_, rfl, ?_⟩
  refine ⟨_, rfl, ⟨_, .inl (.inl (G0.sub _ _ fa1))⟩, ?_⟩
  refine for_lst (α := Int) (fun (ts1 : List Int) σ H1 => ∃ (F1 : Hp) (x1 : Int) (y1 : Option V), forK (worth_b1 base) ts1 x1 (worth_e2) = some r ∧ Sub (F0) F1 ∧ Gr NA F0 H F1 H1 ∧ σ = [some (.int base), some (.ref a1), some (.int x1), y1]) (Rs_mono (Sub.refl _) fr1) ⟨F0, (0 : Int), _, hm, (Sub.refl _), G0, rfl⟩ (fun _ _ _ h => ?_) (fun t1 ts2 v1 σ H1 hv1 hW => ?_) (fun σ H1 hW => ?_)
  · obtain ⟨F1, x1, y1, _, s9, G9, _⟩ := h
    exact G9.sub _ _ (s9 _ _ ((Sub.refl _) _ _ fa1))
  · skip
    obtain ⟨F1, x1, y1, hm, s1, G1, rfl⟩ := hW
    obtain ⟨next1, hnx1⟩ : ∃ nx, nx = fun s => forK (worth_b1 base) ts2 s (worth_e2) := ⟨_, rfl⟩
    have hm : (worth_b1 base) x1 t1 next1 = some r := by rw [hnx1]; exact forK_c hm
    rw [worth_b1] at hm
    obtain rfl := int_of hv1
    with_reducible refine x_gnE (σ' := ([some (.int base), some (.ref a1), some (.int x1), some (.int t1)] : L2.St)) (by with_unfolding_all rfl) ?_
    with_reducible refine x_asg ?_
    with_reducible refine x_op ?_
    with_reducible refine x_op ?_
    refine ⟨_, rfl, ?_⟩
    refine ⟨_, rfl, ?_⟩
    obtain ⟨c1, hm⟩ := guardp hm
    refine ⟨_, _, rfl, rfl, c1.w, ?_⟩
    refine ⟨_, rfl, ?_⟩
    refine ⟨_, _, rfl, rfl, ?_⟩
    with_reducible refine x_gnE (σ' := ([some (.int base), some (.ref a1), some (.int ((x1 * base) + t1)), some (.int t1)] : L2.St)) (by with_unfolding_all rfl) ?_
    rw [hnx1] at hm
    exact ⟨F1, ((x1 * base) + t1), _, hm, s1, G1, rfl⟩
  · skip
    obtain ⟨F1, x1, y1, hm, s2, G2, rfl⟩ := hW
    have hm : (worth_e2) x1 = some r := forK_n hm
    rw [worth_e2] at hm
    with_reducible refine x_ret ?_
    refine ⟨_, rfl, ?_⟩
    obtain rfl : _ = r := Option.some.inj hm
    exact q _ _ _ G2 (.int _)


def number_by (base : Int) (figures : (List Int)) : Option Int :=
  ((need_base base).bind fun r1 => ((are_figures base figures).bind fun r2 => (if (!r2) = true then none else (if (eqT figures []) = true then none else (if (decide ((1 : Int) < (figures.length : Int))) = true then ((atI figures (0 : Int)).bind fun x1 => (if (decide (x1 = (0 : Int))) = true then none else ((worth base figures).bind fun r3 => (some r3)))) else ((worth base figures).bind fun r4 => (some r4)))))))
abbrev N_number_by : List Str := ["base", "figures"]
theorem sc_number_by : FnScope N_number_by ["base", "figures"] (defScope s_number_by) := ⟨rfl, rfl, rfl, by decide +kernel, rfl, by decide +kernel, by decide +kernel⟩
def sp_number_by : Sp := fun vs H Q _ => ∃ (F : Hp) (v_base : V) (v_figures : V) (base : Int) (figures : (List Int)) (r : Int), vs = [v_base, v_figures] ∧ Sub F H ∧ R F v_base base ∧ R F v_figures figures ∧ number_by base figures = some r ∧ ∀ N H2 v, Gr NA F H N H2 → R N v r → Q v H2
theorem ok_number_by {P : Program} {w : World} {K : PySem.W.Frag} {mg : Str → Option Value} {base : Heap} (T : Txt K mg) : FnOk P w K mg base CX0 4 T.f_number_by.f T.f_number_by.fd ["base", "figures"] sp_number_by := by
  have nd := (sc_number_by).nd
  refine T.f_number_by.F.ok sc_number_by (fun vs H Q E h => ?_) (fun cdv A0 outer s H vs Q E hr h => ?_)
  · obtain ⟨_, _, _, _, _, _, rfl, _⟩ := h
    rfl
  obtain ⟨F0, v_base, v_figures, base, figures, r, rfl, s0, f_base, f_figures, hm, q⟩ := h
  have G0 : Gr NA F0 H F0 H := Gr.refl s0
  obtain rfl := int_of f_base
  obtain ⟨a1, us1, rfl, fa1, fr1⟩ := lst_of f_figures
  refine ⟨_, (pss_cons (ps_expr (pe_call (ok_need_base T) (hr.mono (by decide)) (by rfl) T.f_need_base.g T.f_need_base.F.kp T.f_need_base.b .nil pass0 (pa_cons (pv 0) pa_nil))) (pss_cons (ps_if (PW.pt (pw_or (pt_not (pt_val (pe_call (ok_are_figures T) (hr.mono (by decide)) (by rfl) T.f_are_figures.g T.f_are_figures.F.kp T.f_are_figures.b .nil pass0 (pa_cons (pv 0) (pa_cons (pv 1) pa_nil))))) (pw_or (pt_cmpR (op_eqT (α := (List Int)) (by decide) (hu64 hr)) (pv 1) (pe_lst pa_nil) (nomark _)) (pw_or1 (PW.pt (pw_and (pt_cmp (pc_gt (pe_callB (r := rLenT K) call_lenT (by rfl) T.z_len PySem.boot_len (pa_cons (pv 1) pa_nil)) pe_int)) (pw_and1 (pt_cmp (pc_eqI (pe_ix (r := rIxL K) ix_list (pv 1) pe_int (fun _ _ => rfl)) pe_int))))))))) (pss_one ps_never) pss_nil) (pss_one (ps_ret (pe_call (ok_worth T) (hr.mono (by decide)) (by rfl) T.f_worth.g T.f_worth.F.kp T.f_worth.b .nil pass0 (pa_cons (pv 0) (pa_cons (pv 1) pa_nil))))))), ?_⟩
  refine x_start (σ' := ([some (.int base), some (.ref a1)] : L2.St)) (by with_unfolding_all rfl) ?_
  rw [number_by] at hm
  with_reducible refine x_seq ?_
  with_reducible refine x_drop ?_
  with_reducible refine x_call ?_
  with_reducible refine x_cons ?_
  refine ⟨_, rfl, ?_⟩
  obtain ⟨r1, hr1, hm⟩ := bindp hm
  refine ⟨_, _, base, r1, rfl, G0.sub, (.int _), hr1, fun N1 H1 v1 g1 d1  => ?_⟩
  have G1 := G0.step g1
  obtain rfl := non_of d1
  with_reducible refine x_seq ?_
  with_reducible refine x_if ?_
  with_reducible refine x_or ?_
  with_reducible refine x_not ?_
  with_reducible refine x_B ?_
  with_reducible refine x_call ?_
  with_reducible refine x_cons ?_
  refine ⟨_, rfl, ?_⟩
  with_reducible refine x_cons ?_
  refine ⟨_, rfl, ?_⟩
  obtain ⟨r2, hr2, hm⟩ := bindp hm
  refine ⟨_, _, _, base, figures, r2, rfl, G1.sub, (.int _), (mk_lst (g1.ex _ _ fa1) (Rs_mono g1.ex fr1)), hr2, fun N2 H2 v2 g2 d2  => ?_⟩
  have G2 := G1.step g2
  obtain rfl := bl_of d2
  refine ⟨_, rfl, ?_⟩
  refine ifD (fun hc => ?_) (fun hc => ?_)
  · replace hm := itep hm hc
    refine iteT ?_
    exact no_none hm
  · replace hm := iten hm (bF hc)
    with_reducible refine x_or ?_
    with_reducible refine x_test ?_
    refine useEv (.bl (eqT figures [])) (by exact (ev_eqNil (α := Int) (Evl.ev_var rfl) (RD.mono G2.sub (mk_lst ((g1.ex.trans g2.ex) _ _ fa1) (Rs_mono (g1.ex.trans g2.ex) fr1))))) (fun H3 e1 => ?_)
    have g3 := gr_ex G2.sub e1
    have G3 := G2.step g3
    refine ⟨_, rfl, ?_⟩
    refine ifD (fun hc => ?_) (fun hc => ?_)
    · replace hm := itep hm hc
      refine iteT ?_
      exact no_none hm
    · replace hm := iten hm (bF hc)
      with_reducible refine x_and ?_
      with_reducible refine x_B ?_
      refine useEv (.bl (decide ((1 : Int) < (figures.length : Int)))) (by exact (ev_cmp (ev_lenT (Evl.ev_var rfl) (((g1.ex.trans g2.ex).trans G3.sub) _ _ fa1) (Rs_mono (g1.ex.trans g2.ex) fr1)) Evl.ev_c)) (fun H4 e2 => ?_)
      have g4 := gr_ex G3.sub e2
      have G4 := G3.step g4
      refine ⟨_, rfl, ?_⟩
      refine ifD (fun hc => ?_) (fun hc => ?_)
      · replace hm := itep hm hc
        with_reducible refine x_B ?_
        with_reducible refine x_cmp ?_
        with_reducible refine x_op ?_
        refine ⟨_, rfl, ?_⟩
        with_reducible refine x_c ?_
        obtain ⟨x1, hx1, hm⟩ := bindp hm
        obtain ⟨v3, hu1, d3⟩ := Rs_at (Rs_mono (g1.ex.trans g2.ex) fr1) hx1
        refine ⟨_, _, _, _, rfl, rfl, .inl (.inl (((g1.ex.trans g2.ex).trans G4.sub) _ _ fa1)), hu1, ?_⟩
        obtain rfl := int_of d3
        with_reducible refine x_c ?_
        refine ⟨_, _, rfl, rfl, ?_⟩
        refine ⟨_, rfl, ?_⟩
        refine ifD (fun hc => ?_) (fun hc => ?_)
        · replace hm := itep hm hc
          exact no_none hm
        · replace hm := iten hm (bF hc)
          with_reducible refine x_next ?_
          with_reducible refine x_ret ?_
          with_reducible refine x_call ?_
          with_reducible refine x_cons ?_
          refine ⟨_, rfl, ?_⟩
          with_reducible refine x_cons ?_
          refine ⟨_, rfl, ?_⟩
          obtain ⟨r3, hr3, hm⟩ := bindp hm
          refine ⟨_, _, _, base, figures, r3, rfl, G4.sub, (.int _), (mk_lst ((g1.ex.trans g2.ex) _ _ fa1) (Rs_mono (g1.ex.trans g2.ex) fr1)), hr3, fun N3 H5 v4 g5 d4  => ?_⟩
          have G5 := G4.step g5
          obtain rfl := int_of d4
          obtain rfl : _ = r := Option.some.inj hm
          exact q _ _ _ G5 (.int _)
      · replace hm := iten hm (bF hc)
        refine iteF ?_
        with_reducible refine x_next ?_
        with_reducible refine x_ret ?_
        with_reducible refine x_call ?_
        with_reducible refine x_cons ?_
        refine ⟨_, rfl, ?_⟩
        with_reducible refine x_cons ?_
        refine ⟨_, rfl, ?_⟩
        obtain ⟨r4, hr4, hm⟩ := bindp hm
        refine ⟨_, _, _, base, figures, r4, rfl, G4.sub, (.int _), (mk_lst ((g1.ex.trans g2.ex) _ _ fa1) (Rs_mono (g1.ex.trans g2.ex) fr1)), hr4, fun N4 H6 v5 g6 d5  => ?_⟩
        have G6 := G4.step g6
        obtain rfl := int_of d5
        obtain rfl : _ = r := Option.some.inj hm
        exact q _ _ _ G6 (.int _)

def read_figures_c1 (base : Int) : (List Str) → Nat → ((List Str) → Option (List Int)) → Option (List Int)
  | x2, t1, next1 => (if ("0123456789abcdef" : Str).length ≤ 16777216 then (if (!decide (t1 ∈ (cutS ("0123456789abcdef" : Str) none (some base)).cps.toList)) = true then (if x2.length < 16777216 then (next1 (x2 ++ [(⟨#[t1]⟩ : Str)])) else none) else (next1 x2)) else none)
def read_figures_c3 : (List Int) → Nat → ((List Int) → Option (List Int)) → Option (List Int)
  | x4, t2, next2 => ((sIdx ("0123456789abcdef" : Str) (⟨#[t2]⟩ : Str)).bind fun x5 => (if x4.length < 16777216 then (next2 (x4 ++ [(x5 : Int)])) else none))
def read_figures_k4 : (List Int) → Option (List Int)
  | x4 => (some x4)
def read_figures_k2 (word : Str) : (List Str) → Option (List Int)
  | x2 => (if (!(x2).isEmpty) = true then none else (forK (read_figures_c3) (word.cps.toList) [] (read_figures_k4)))
def read_figures (base : Int) (word : Str) : Option (List Int) :=
  (if (decide (word = ("" : Str))) = true then none else (forK (read_figures_c1 base) (word.cps.toList) [] (read_figures_k2 word)))
abbrev N_read_figures : List Str := ["base", "word", "sign"]
theorem sc_read_figures : FnScope N_read_figures ["base", "word"] (defScope s_read_figures) := ⟨rfl, rfl, rfl, by decide +kernel, rfl, by decide +kernel, by decide +kernel⟩
def sp_read_figures : Sp := fun vs H Q _ => ∃ (F : Hp) (v_base : V) (v_word : V) (base : Int) (word : Str) (r : (List Int)), vs = [v_base, v_word] ∧ Sub F H ∧ R F v_base base ∧ R F v_word word ∧ read_figures base word = some r ∧ ∀ N H2 v, Gr NA F H N H2 → R N v r → Fz H v → Q v H2
theorem ok_read_figures {P : Program} {w : World} {K : PySem.W.Frag} {mg : Str → Option Value} {base : Heap} (T : Txt K mg) : FnOk P w K mg base CX0 1 T.f_read_figures.f T.f_read_figures.fd ["base", "word"] sp_read_figures := by
  have nd := (sc_read_figures).nd
  refine T.f_read_figures.F.ok sc_read_figures (fun vs H Q E h => ?_) (fun cdv A0 outer s H vs Q E hr h => ?_)
  · obtain ⟨_, _, _, _, _, _, rfl, _⟩ := h
    rfl
  obtain ⟨F0, v_base, v_word, base, word, r, rfl, s0, f_base, f_word, hm, q⟩ := h
  have G0 : Gr NA F0 H F0 H := Gr.refl s0
  obtain rfl := int_of f_base
  obtain rfl := str_of f_word
  refine ⟨_, (pss_cons (ps_if (PW.pt (pw_or (pt_cmpR op_eqS (pv 1) pe_str (nomark _)) (pw_or1 (pt_cmpR (op_neNil (hu64 hr)) (pe_lc (own := [("sign", 2)]) (g := (gName 2)) rfl nd (pi_str (pv 1)) (blkOk_by (own := [("sign", 2)]) (N := N_read_figures) (sc := defScope s_read_figures) (by decide +kernel)) (fun _ _ _ _ _ => pg_name (i := 2) nd rfl (Or.inl rfl)) (fun _ _ _ _ _ => pts_one (pt_cmpR op_notIn_sign (pv 2) (pe_slice (r := rSlS) sl_str (pe_glob (v := .str ("0123456789abcdef" : Str)) rfl T.c_SIGNS.g ⟨_, rfl⟩) po_none (po_some (pv 0))) (by rfl))) (fun _ _ _ _ _ => (pv 2))) (pe_lst pa_nil) (nomark _))))) (pss_one ps_never) pss_nil) (pss_one (ps_ret (pe_lc (own := [("sign", 2)]) (g := (gName 2)) rfl nd (pi_str (pv 1)) (blkOk_by (own := [("sign", 2)]) (N := N_read_figures) (sc := defScope s_read_figures) (by decide +kernel)) (fun _ _ _ _ _ => pg_name (i := 2) nd rfl (Or.inl rfl)) (fun _ _ _ _ _ => pts_nil) (fun _ _ _ _ _ => (pe_m1 PySem.F.slot_str_index PySem.F.type_str_index mt_sindex (pe_glob (v := .str ("0123456789abcdef" : Str)) rfl T.c_SIGNS.g ⟨_, rfl⟩) (pv 2))))))), ?_⟩
  refine x_start (σ' := ([some (.int base), some (.str word), none] : L2.St)) (by with_unfolding_all rfl) ?_
  rw [read_figures] at hm
  with_reducible refine x_seq ?_
  with_reducible refine x_if ?_
  with_reducible refine x_or ?_
  with_reducible refine x_test ?_
  with_reducible refine x_op ?_
  refine ⟨_, rfl, ?_⟩
  with_reducible refine x_c ?_
  refine eqS_use ?_
  refine ⟨_, rfl, ?_⟩
  refine ifD (fun hc => ?_) (fun hc => ?_)
  · replace hm := itep hm hc
    refine iteT ?_
    exact no_none hm
  · replace hm := iten hm (bF hc)
    with_reducible refine x_test ?_
    with_reducible refine x_op ?_
    with_reducible refine x_lc ?_
    with_reducible refine x_iterS ?_
    refine ⟨_, rfl, ?_⟩
    refine ⟨_, rfl, fun p1 np1 => ?_⟩
    have g1 := Gr.newO (o := .lst []) G0.sub np1
    have o1 := Ow.new (us := []) G0 np1
    have G1 := G0.step g1
    refine lc_str (z := word) (fun (ts1 : List Nat) H1 => ∃ (F1 : Hp) (x2 : List Str) (us2 : List V), forK (read_figures_c1 base) ts1 x2 (read_figures_k2 word) = some r ∧ Sub (F0) F1 ∧ Gr NA F0 H F1 H1 ∧ Ow H F1 H1 p1 us2 ∧ Rs F1 us2 x2) ⟨F0, ([] : List Str), _, hm, (Sub.refl _), G1, o1, Rs_nil⟩ (fun t1 ts2 H1 hW => ?_) (fun H1 hW => ?_)
    · skip
      obtain ⟨F1, x2, us2, hm, s1, G2, o2, fr1⟩ := hW
      obtain ⟨next1, hnx1⟩ : ∃ nx, nx = fun s => forK (read_figures_c1 base) ts2 s (read_figures_k2 word) := ⟨_, rfl⟩
      have hm : (read_figures_c1 base) x2 t1 next1 = some r := by rw [hnx1]; exact forK_c hm
      rw [read_figures_c1] at hm
      with_reducible refine x_gnE (σ' := ([some (.int base), some (.str word), some (.str ⟨#[t1]⟩)] : L2.St)) (by with_unfolding_all rfl) ?_
      refine ⟨rfl, ?_⟩
      with_reducible refine x_test ?_
      with_reducible refine x_op ?_
      refine ⟨_, rfl, ?_⟩
      with_reducible refine x_sl ?_
      with_reducible refine x_c ?_
      with_reducible refine x_nopart ?_
      with_reducible refine x_part ?_
      refine ⟨_, rfl, ?_⟩
      refine ⟨_, rfl, ?_⟩
      obtain ⟨c1, hm⟩ := guardp hm
      refine ⟨_, rfl, szle c1, ?_⟩
      refine ⟨_, _, rfl, rfl, ?_⟩
      refine ⟨_, rfl, ?_⟩
      refine ifD (fun hc => ?_) (fun hc => ?_)
      · replace hm := itep hm hc
        refine ⟨_, rfl, ?_⟩
        obtain ⟨c2, hm⟩ := guardp hm
        have G3 := o2.mutG (o := .lst (us2 ++ [(.str ⟨#[t1]⟩)])) G2
        have o3 := o2.mut (ws := us2 ++ [(.str ⟨#[t1]⟩)])
        have fr2 : Rs (α := Str) (F1) (us2 ++ [(.str ⟨#[t1]⟩)]) (x2 ++ [(⟨#[t1]⟩ : Str)]) := Rs_snoc fr1 (.str _)
        rw [hnx1] at hm
        exact ⟨_, o2.at_, szl (by rw [Rs_len fr1]; exact c2), ⟨F1, (x2 ++ [(⟨#[t1]⟩ : Str)]), _, hm, s1, G3, o3, fr2⟩⟩
      · replace hm := iten hm (bF hc)
        rw [hnx1] at hm
        exact ⟨F1, x2, _, hm, s1, G2, o2, fr1⟩
    · skip
      obtain ⟨F1, x2, us2, hm, s2, G4, o4, fr3⟩ := hW
      have hm : (read_figures_k2 word) x2 = some r := forK_n hm
      rw [read_figures_k2] at hm
      with_reducible refine x_lst ?_
      refine ⟨szle (show 0 ≤ 16777216 from by decide), fun p2 np2 => ?_⟩
      have fr4 : Rs (α := Str) (F1) [] ([] : (List Str)) := Rs_nil
      have g2 := Gr.newO (o := .lst []) G4.sub np2
      have o5 := Ow.new (us := []) G4 np2
      have ne1 := o4.ne_new np2
      have G5 := G4.step g2
      have o6 := o4.step g2
      refine neNil_use (.inl (.inl o6.at_)) (.inl (.inl o5.at_)) (emp_len (Rs_len fr3)) ?_
      refine ⟨_, rfl, ?_⟩
      refine ifD (fun hc => ?_) (fun hc => ?_)
      · replace hm := itep hm hc
        exact no_none hm
      · replace hm := iten hm (bF hc)
        with_reducible refine x_next ?_
        with_reducible refine x_ret ?_
        with_reducible refine x_lc ?_
        with_reducible refine x_iterS ?_
        refine ⟨_, rfl, ?_⟩
        refine ⟨_, rfl, fun p3 np3 => ?_⟩
        have g3 := Gr.newO (o := .lst []) G5.sub np3
        have o7 := Ow.new (us := []) G5 np3
        have G6 := G5.step g3
        refine lc_str (z := word) (fun (ts3 : List Nat) H2 => ∃ (F2 : Hp) (x4 : List Int) (us4 : List V), forK (read_figures_c3) ts3 x4 (read_figures_k4) = some r ∧ Sub (F1) F2 ∧ Gr NA F0 H F2 H2 ∧ Ow H F2 H2 p3 us4 ∧ Rs F2 us4 x4) ⟨F1, ([] : List Int), _, hm, (Sub.refl _), G6, o7, Rs_nil⟩ (fun t2 ts4 H1 hW => ?_) (fun H1 hW => ?_)
        · skip
          obtain ⟨F2, x4, us4, hm, s3, G7, o8, fr5⟩ := hW
          obtain ⟨next2, hnx2⟩ : ∃ nx, nx = fun s => forK (read_figures_c3) ts4 s (read_figures_k4) := ⟨_, rfl⟩
          have hm : (read_figures_c3) x4 t2 next2 = some r := by rw [hnx2]; exact forK_c hm
          rw [read_figures_c3] at hm
          with_reducible refine x_gnE (σ' := ([some (.int base), some (.str word), some (.str ⟨#[t2]⟩)] : L2.St)) (by with_unfolding_all rfl) ?_
          refine ⟨rfl, ?_⟩
          with_reducible refine x_yes ?_
          refine iteT ?_
          with_reducible refine x_m1 ?_
          with_reducible refine x_c ?_
          refine ⟨⟨_, rfl⟩, ?_⟩
          refine ⟨_, rfl, ?_⟩
          obtain ⟨x5, hx1, hm⟩ := bindp hm
          obtain ⟨rs1, ho1⟩ := sidx_ex hx1
          refine ⟨_, _, _, rs1, rfl, rfl, ho1, ?_⟩
          obtain ⟨c3, hm⟩ := guardp hm
          have G8 := o8.mutG (o := .lst (us4 ++ [(.int (x5 : Int))])) G7
          have o9 := o8.mut (ws := us4 ++ [(.int (x5 : Int))])
          have fr6 : Rs (α := Int) (F2) (us4 ++ [(.int (x5 : Int))]) (x4 ++ [(x5 : Int)]) := Rs_snoc fr5 (.int _)
          rw [hnx2] at hm
          exact ⟨_, o8.at_, szl (by rw [Rs_len fr5]; exact c3), ⟨F2, (x4 ++ [(x5 : Int)]), _, hm, s3, G8, o9, fr6⟩⟩
        · skip
          obtain ⟨F2, x4, us4, hm, s4, G9, o10, fr7⟩ := hW
          have hm : (read_figures_k4) x4 = some r := forK_n hm
          rw [read_figures_k4] at hm
          obtain ⟨F3, G10, ex1, fa1, nf1⟩ := o10.frzE G9
          have fr8 := Rs_mono ex1 fr7
          obtain rfl : _ = r := Option.some.inj hm
          exact q _ _ _ G10 (mk_lst ((Sub.refl _) _ _ fa1) (Rs_mono (Sub.refl _) fr8)) (fun a9 e9 => by cases e9; exact o10.n0)


def read_number (base : Int) (text : Str) : Option Int :=
  ((is_base base).bind fun r1 => (if (!r1) = true then none else ((read_figures base text).bind fun r2 => (if (decide ((1 : Int) < (r2.length : Int))) = true then ((atI r2 (0 : Int)).bind fun x1 => (if (decide (x1 = (0 : Int))) = true then none else ((number_by base r2).bind fun r3 => (some r3)))) else ((number_by base r2).bind fun r4 => (some r4))))))
abbrev N_read_number : List Str := ["base", "text", "figures"]
theorem sc_read_number : FnScope N_read_number ["base", "text"] (defScope s_read_number) := ⟨rfl, rfl, rfl, by decide +kernel, rfl, by decide +kernel, by decide +kernel⟩
def sp_read_number : Sp := fun vs H Q _ => ∃ (F : Hp) (v_base : V) (v_text : V) (base : Int) (text : Str) (r : Int), vs = [v_base, v_text] ∧ Sub F H ∧ R F v_base base ∧ R F v_text text ∧ read_number base text = some r ∧ ∀ N H2 v, Gr NA F H N H2 → R N v r → Q v H2
theorem ok_read_number {P : Program} {w : World} {K : PySem.W.Frag} {mg : Str → Option Value} {base : Heap} (T : Txt K mg) : FnOk P w K mg base CX0 5 T.f_read_number.f T.f_read_number.fd ["base", "text"] sp_read_number := by
  have nd := (sc_read_number).nd
  refine T.f_read_number.F.ok sc_read_number (fun vs H Q E h => ?_) (fun cdv A0 outer s H vs Q E hr h => ?_)
  · obtain ⟨_, _, _, _, _, _, rfl, _⟩ := h
    rfl
  obtain ⟨F0, v_base, v_text, base, text, r, rfl, s0, f_base, f_text, hm, q⟩ := h
  have G0 : Gr NA F0 H F0 H := Gr.refl s0
  obtain rfl := int_of f_base
  obtain rfl := str_of f_text
  refine ⟨_, (pss_cons (ps_if (pt_not (pt_val (pe_call (ok_is_base T) (hr.mono (by decide)) (by rfl) T.f_is_base.g T.f_is_base.F.kp T.f_is_base.b .nil pass0 (pa_cons (pv 0) pa_nil)))) (pss_one ps_never) pss_nil) (pss_cons (ps_if (pt_not (pt_val (pe_callB (r := rIsi K) call_isi (by rfl) T.z_isinstance (by decide +kernel) (pa_cons (pv 1) (pa_cons (pe_bltn (v := .ty "str") (by rfl) T.z_str (by decide +kernel) rfl) pa_nil))))) (pss_one ps_never) pss_nil) (pss_cons (ps_set (i := 2) nd rfl (by first | exact Or.inl rfl | exact Or.inr rfl) (pe_call (ok_read_figures T) (hr.mono (by decide)) (by rfl) T.f_read_figures.g T.f_read_figures.F.kp T.f_read_figures.b .nil pass0 (pa_cons (pv 0) (pa_cons (pv 1) pa_nil)))) (pss_cons (ps_if (PW.pt (pw_and (pt_cmp (pc_gt (pe_callB (r := rLenT K) call_lenT (by rfl) T.z_len PySem.boot_len (pa_cons (pv 2) pa_nil)) pe_int)) (pw_and1 (pt_cmp (pc_eqI (pe_ix (r := rIxL K) ix_list (pv 2) pe_int (fun _ _ => rfl)) pe_int))))) (pss_one ps_never) pss_nil) (pss_one (ps_ret (pe_call (ok_number_by T) (hr.mono (by decide)) (by rfl) T.f_number_by.g T.f_number_by.F.kp T.f_number_by.b .nil pass0 (pa_cons (pv 0) (pa_cons (pv 2) pa_nil))))))))), ?_⟩
  refine x_start (σ' := ([some (.int base), some (.str text), none] : L2.St)) (by with_unfolding_all rfl) ?_
  rw [read_number] at hm
  with_reducible refine x_seq ?_
  with_reducible refine x_if ?_
  with_reducible refine x_not ?_
  with_reducible refine x_B ?_
  with_reducible refine x_call ?_
  with_reducible refine x_cons ?_
  refine ⟨_, rfl, ?_⟩
  obtain ⟨r1, hr1, hm⟩ := bindp hm
  refine ⟨_, _, base, r1, rfl, G0.sub, (.int _), hr1, fun N1 H1 v1 g1 d1  => ?_⟩
  have G1 := G0.step g1
  obtain rfl := bl_of d1
  refine ⟨_, rfl, ?_⟩
  refine ifD (fun hc => ?_) (fun hc => ?_)
  · replace hm := itep hm hc
    exact no_none hm
  · replace hm := iten hm (bF hc)
    with_reducible refine x_next ?_
    with_reducible refine x_seq ?_
    with_reducible refine x_if ?_
    with_reducible refine x_not ?_
    with_reducible refine x_B ?_
    with_reducible refine x_cb ?_
    with_reducible refine x_cons ?_
    refine ⟨_, rfl, ?_⟩
    refine ⟨_, _, _, _, true, rfl, ClsV.ty _, TyX.base (TyOf.str _), kit_ty (by decide +kernel), ?_⟩
    refine ⟨_, rfl, ?_⟩
    refine iteF ?_
    with_reducible refine x_next ?_
    with_reducible refine x_seq ?_
    with_reducible refine x_asg ?_
    with_reducible refine x_call ?_
    with_reducible refine x_cons ?_
    refine ⟨_, rfl, ?_⟩
    with_reducible refine x_cons ?_
    refine ⟨_, rfl, ?_⟩
    obtain ⟨r2, hr2, hm⟩ := bindp hm
    refine ⟨_, _, _, base, text, r2, rfl, G1.sub, (.int _), (.str _), hr2, fun N2 H2 v2 g2 d2 fz1 => ?_⟩
    obtain ⟨a1, us1, rfl, fa1, fr1⟩ := lst_of d2
    have o1 := own_of (α := Int) (xs := []) G1 g2 (fz1 _ rfl) fa1
    have fr2 := Rs_flatI (F := N1) fr1
    have g3 := g2.flat G1.sub
    have G2 := G1.step g3
    obtain ⟨F1, G3, ex1, fa2, nf1⟩ := o1.frzE G2
    have fr3 := Rs_mono ex1 fr2
    with_reducible refine x_gnE (σ' := ([some (.int base), some (.str text), some (.ref a1)] : L2.St)) (by with_unfolding_all rfl) ?_
    with_reducible refine x_seq ?_
    with_reducible refine x_if ?_
    with_reducible refine x_and ?_
    with_reducible refine x_B ?_
    refine useEv (.bl (decide ((1 : Int) < (r2.length : Int)))) (by exact (ev_cmp (ev_lenT (Evl.ev_var rfl) (G3.sub _ _ fa2) (Rs_mono (Sub.refl _) fr3)) Evl.ev_c)) (fun H3 e1 => ?_)
    have g4 := gr_ex G3.sub e1
    have G4 := G3.step g4
    refine ⟨_, rfl, ?_⟩
    refine ifD (fun hc => ?_) (fun hc => ?_)
    · replace hm := itep hm hc
      with_reducible refine x_B ?_
      with_reducible refine x_cmp ?_
      with_reducible refine x_op ?_
      refine ⟨_, rfl, ?_⟩
      with_reducible refine x_c ?_
      obtain ⟨x1, hx1, hm⟩ := bindp hm
      obtain ⟨v3, hu1, d3⟩ := Rs_at (Rs_mono (Sub.refl _) fr3) hx1
      refine ⟨_, _, _, _, rfl, rfl, .inl (.inl (G4.sub _ _ fa2)), hu1, ?_⟩
      obtain rfl := int_of d3
      with_reducible refine x_c ?_
      refine ⟨_, _, rfl, rfl, ?_⟩
      refine ⟨_, rfl, ?_⟩
      refine ifD (fun hc => ?_) (fun hc => ?_)
      · replace hm := itep hm hc
        exact no_none hm
      · replace hm := iten hm (bF hc)
        with_reducible refine x_next ?_
        with_reducible refine x_ret ?_
        with_reducible refine x_call ?_
        with_reducible refine x_cons ?_
        refine ⟨_, rfl, ?_⟩
        with_reducible refine x_cons ?_
        refine ⟨_, rfl, ?_⟩
        obtain ⟨r3, hr3, hm⟩ := bindp hm
        refine ⟨_, _, _, base, r2, r3, rfl, G4.sub, (.int _), (mk_lst ((Sub.refl _) _ _ fa2) (Rs_mono (Sub.refl _) fr3)), hr3, fun N3 H4 v4 g5 d4  => ?_⟩
        have G5 := G4.step g5
        obtain rfl := int_of d4
        obtain rfl : _ = r := Option.some.inj hm
        exact q _ _ _ G5 (.int _)
    · replace hm := iten hm (bF hc)
      refine iteF ?_
      with_reducible refine x_next ?_
      with_reducible refine x_ret ?_
      with_reducible refine x_call ?_
      with_reducible refine x_cons ?_
      refine ⟨_, rfl, ?_⟩
      with_reducible refine x_cons ?_
      refine ⟨_, rfl, ?_⟩
      obtain ⟨r4, hr4, hm⟩ := bindp hm
      refine ⟨_, _, _, base, r2, r4, rfl, G4.sub, (.int _), (mk_lst ((Sub.refl _) _ _ fa2) (Rs_mono (Sub.refl _) fr3)), hr4, fun N4 H5 v5 g6 d5  => ?_⟩
      have G6 := G4.step g6
      obtain rfl := int_of d5
      obtain rfl : _ = r := Option.some.inj hm
      exact q _ _ _ G6 (.int _)


def is_stretch (base : Int) (thing : (List Int)) : Option Bool :=
  ((are_figures base thing).bind fun r1 => (if r1 = true then (if (decide ((1 : Int) ≤ (thing.length : Int))) = true then (some (decide ((thing.length : Int) ≤ (4 : Int)))) else (some false)) else (some false)))
abbrev N_is_stretch : List Str := ["base", "thing"]
theorem sc_is_stretch : FnScope N_is_stretch ["base", "thing"] (defScope s_is_stretch) := ⟨rfl, rfl, rfl, by decide +kernel, rfl, by decide +kernel, by decide +kernel⟩
def sp_is_stretch : Sp := fun vs H Q _ => ∃ (F : Hp) (v_base : V) (v_thing : V) (base : Int) (thing : (List Int)) (r : Bool), vs = [v_base, v_thing] ∧ Sub F H ∧ R F v_base base ∧ R F v_thing thing ∧ is_stretch base thing = some r ∧ ∀ N H2 v, Gr NA F H N H2 → R N v r → Q v H2
theorem ok_is_stretch {P : Program} {w : World} {K : PySem.W.Frag} {mg : Str → Option Value} {base : Heap} (T : Txt K mg) : FnOk P w K mg base CX0 4 T.f_is_stretch.f T.f_is_stretch.fd ["base", "thing"] sp_is_stretch := by
  have nd := (sc_is_stretch).nd
  refine T.f_is_stretch.F.ok sc_is_stretch (fun vs H Q E h => ?_) (fun cdv A0 outer s H vs Q E hr h => ?_)
  · obtain ⟨_, _, _, _, _, _, rfl, _⟩ := h
    rfl
  obtain ⟨F0, v_base, v_thing, base, thing, r, rfl, s0, f_base, f_thing, hm, q⟩ := h
  have G0 : Gr NA F0 H F0 H := Gr.refl s0
  obtain rfl := int_of f_base
  obtain ⟨a1, us1, rfl, fa1, fr1⟩ := lst_of f_thing
  refine ⟨_, (pss_one (ps_ret (pe_and (pe_call (ok_are_figures T) (hr.mono (by decide)) (by rfl) T.f_are_figures.g T.f_are_figures.F.kp T.f_are_figures.b .nil pass0 (pa_cons (pv 0) (pa_cons (pv 1) pa_nil))) (pe_one (pe_chain op_le op_le pe_int (pe_callB (r := rLenT K) call_lenT (by rfl) T.z_len PySem.boot_len (pa_cons (pv 1) pa_nil)) (pe_glob (v := .int 4) rfl T.c_MOST_FIGURES.g ⟨_, rfl⟩)))))), ?_⟩
  refine x_start (σ' := ([some (.int base), some (.ref a1)] : L2.St)) (by with_unfolding_all rfl) ?_
  rw [is_stretch] at hm
  with_reducible refine x_ret ?_
  with_reducible refine x_andV ?_
  with_reducible refine x_call ?_
  with_reducible refine x_cons ?_
  refine ⟨_, rfl, ?_⟩
  with_reducible refine x_cons ?_
  refine ⟨_, rfl, ?_⟩
  obtain ⟨r1, hr1, hm⟩ := bindp hm
  refine ⟨_, _, _, base, thing, r1, rfl, G0.sub, (.int _), (mk_lst ((Sub.refl _) _ _ fa1) (Rs_mono (Sub.refl _) fr1)), hr1, fun N1 H1 v1 g1 d1  => ?_⟩
  have G1 := G0.step g1
  obtain rfl := bl_of d1
  refine ⟨_, rfl, ?_⟩
  refine ifD (fun hc => ?_) (fun hc => ?_)
  · replace hm := itep hm hc
    with_reducible refine x_chain ?_
    with_reducible refine x_c ?_
    refine useEv (.int (thing.length : Int)) (by exact (ev_lenT (Evl.ev_var rfl) ((g1.ex.trans G1.sub) _ _ fa1) (Rs_mono g1.ex fr1))) (fun H2 e1 => ?_)
    have g2 := gr_ex G1.sub e1
    have G2 := G1.step g2
    refine ⟨_, _, rfl, rfl, _, rfl, ?_⟩
    refine ifD (fun hc => ?_) (fun hc => ?_)
    · replace hm := itep hm hc
      with_reducible refine x_c ?_
      refine ⟨_, _, rfl, rfl, ?_⟩
      obtain rfl : _ = r := Option.some.inj hm
      exact q _ _ _ G2 (.bl _)
    · replace hm := iten hm (bF hc)
      obtain rfl : _ = r := Option.some.inj hm
      exact q _ _ _ G2 (.bl _)
  · replace hm := iten hm (bF hc)
    obtain rfl : _ = r := Option.some.inj hm
    exact q _ _ _ G1 (.bl _)

def is_rule_c1 (thing : (Int × (List (List Int)))) : (List (List Int)) → (List Int) → ((List (List Int)) → Option Bool) → Option Bool
  | x2, t1, next1 => ((is_stretch ((thing).1) t1).bind fun r2 => (if (!r2) = true then (if x2.length < 16777216 then (next1 (x2 ++ [t1])) else none) else (next1 x2)))
def is_rule_c3 (thing : (Int × (List (List Int)))) : (List Int) → Int → ((List Int) → Option Bool) → Option Bool
  | x4, t2, next2 => ((atI (thing).2 (t2 - (1 : Int))).bind fun x5 => ((atI (thing).2 t2).bind fun x6 => (if (!ltT x5 x6) = true then (if x4.length < 16777216 then (next2 (x4 ++ [t2])) else none) else (next2 x4))))
def is_rule_k4 : (List Int) → Option Bool
  | x4 => (some (eqT x4 ([] : (List Int))))
def is_rule_k2 (thing : (Int × (List (List Int)))) : (List (List Int)) → Option Bool
  | x2 => (if (!eqT x2 ([] : (List (List Int)))) = true then (some false) else (if Rg2 (1 : Int) ((thing).2.length : Int) then (forK (is_rule_c3 thing) (irange (1 : Int) ((thing).2.length : Int)) [] (is_rule_k4)) else none))
def is_rule (thing : (Int × (List (List Int)))) : Option Bool :=
  (if ((!decide ((2 : Int) = (2 : Int)))) = true then (some false) else ((is_base ((thing).1)).bind fun r1 => (if (!r1) = true then (some false) else (if (decide ((4 : Int) < ((thing).2.length : Int))) = true then (some false) else (forK (is_rule_c1 thing) ((thing).2) [] (is_rule_k2 thing))))))
abbrev N_is_rule : List Str := ["thing", "base", "bad", "one", "k"]
theorem sc_is_rule : FnScope N_is_rule ["thing"] (defScope s_is_rule) := ⟨rfl, rfl, rfl, by decide +kernel, rfl, by decide +kernel, by decide +kernel⟩
def sp_is_rule : Sp := fun vs H Q _ => ∃ (F : Hp) (v_thing : V) (thing : (Int × (List (List Int)))) (r : Bool), vs = [v_thing] ∧ Sub F H ∧ R F v_thing thing ∧ is_rule thing = some r ∧ ∀ N H2 v, Gr NA F H N H2 → R N v r → Q v H2
theorem ok_is_rule {P : Program} {w : World} {K : PySem.W.Frag} {mg : Str → Option Value} {base : Heap} (T : Txt K mg) : FnOk P w K mg base CX0 5 T.f_is_rule.f T.f_is_rule.fd ["thing"] sp_is_rule := by
  have nd := (sc_is_rule).nd
  refine T.f_is_rule.F.ok sc_is_rule (fun vs H Q E h => ?_) (fun cdv A0 outer s H vs Q E hr h => ?_)
  · obtain ⟨_, _, _, _, rfl, _⟩ := h
    rfl
  obtain ⟨F0, v_thing, thing, r, rfl, s0, f_thing, hm, q⟩ := h
  have G0 : Gr NA F0 H F0 H := Gr.refl s0
  obtain ⟨a1, v1, v2, rfl, fa1, d1, d2⟩ := tup2_of f_thing
  obtain rfl := int_of d1
  obtain ⟨a2, us1, rfl, fa2, fr1⟩ := lst_of d2
  refine ⟨_, (pss_cons (ps_if (PW.pt (pw_or (pt_not (pt_val (pe_callB (r := rIsi K) call_isi (by rfl) T.z_isinstance (by decide +kernel) (pa_cons (pv 0) (pa_cons (pe_bltn (v := .ty "tuple") (by rfl) T.z_tuple (by decide +kernel) rfl) pa_nil))))) (pw_or (pt_cmp (pc_neI (pe_callB (r := rLenT K) call_lenT (by rfl) T.z_len PySem.boot_len (pa_cons (pv 0) pa_nil)) pe_int)) (pw_or1 (pt_not (pt_val (pe_call (ok_is_base T) (hr.mono (by decide)) (by rfl) T.f_is_base.g T.f_is_base.F.kp T.f_is_base.b .nil pass0 (pa_cons (pe_ix (r := rIxT K) ix_tup (pv 0) pe_int (fun _ _ => rfl)) pa_nil)))))))) (pss_one (ps_ret pe_bl)) pss_nil) (pss_cons (ps_asg (pv 0) (pg_tup rfl (pgs_cons (pg_name (i := 1) nd rfl (by first | exact Or.inl rfl | exact Or.inr rfl)) (pgs_cons (pg_name (i := 2) nd rfl (by first | exact Or.inl rfl | exact Or.inr rfl)) pgs_nil)))) (pss_cons (ps_if (PW.pt (pw_or (pt_not (pt_val (pe_callB (r := rIsi K) call_isi (by rfl) T.z_isinstance (by decide +kernel) (pa_cons (pv 2) (pa_cons (pe_bltn (v := .ty "list") (by rfl) T.z_list (by decide +kernel) rfl) pa_nil))))) (pw_or1 (pt_cmp (pc_gt (pe_callB (r := rLenT K) call_lenT (by rfl) T.z_len PySem.boot_len (pa_cons (pv 2) pa_nil)) (pe_glob (v := .int 4) rfl T.c_MOST_STRETCHES.g ⟨_, rfl⟩)))))) (pss_one (ps_ret pe_bl)) pss_nil) (pss_cons (ps_if (pt_cmpR (op_neT (α := (List (List Int))) (by decide) (hu64 hr)) (pe_lc (own := [("one", 3)]) (g := (gName 3)) rfl nd (pi_list (pv 2)) (blkOk_by (own := [("one", 3)]) (N := N_is_rule) (sc := defScope s_is_rule) (by decide +kernel)) (fun _ _ _ _ _ => pg_name (i := 3) nd rfl (Or.inl rfl)) (fun _ _ _ _ _ => pts_one (pt_not (pt_val (pe_call (ok_is_stretch T) (hr.mono (by decide)) (by rfl) T.f_is_stretch.g T.f_is_stretch.F.kp T.f_is_stretch.b .nil pass0 (pa_cons (pv 1) (pa_cons (pv 3) pa_nil)))))) (fun _ _ _ _ _ => (pv 3))) (pe_lst pa_nil) (nomark _)) (pss_one (ps_ret pe_bl)) pss_nil) (pss_one (ps_ret (pe_cmpR (op_eqT (α := (List Int)) (by decide) (hu64 hr)) (pe_lc (own := [("k", 4)]) (g := (gName 4)) rfl nd (pi_range2 (by rfl) T.z_range (pa_cons pe_int (pa_cons (pe_callB (r := rLenT K) call_lenT (by rfl) T.z_len PySem.boot_len (pa_cons (pv 2) pa_nil)) pa_nil))) (blkOk_by (own := [("k", 4)]) (N := N_is_rule) (sc := defScope s_is_rule) (by decide +kernel)) (fun _ _ _ _ _ => pg_name (i := 4) nd rfl (Or.inl rfl)) (fun _ _ _ _ _ => pts_one (pt_cmpR (op_geT' (α := (List Int)) (by decide) (hu64 hr)) (pe_ix (r := rIxL K) ix_list (pv 2) (pe_op op_sub (pv 4) pe_int) (fun _ _ => rfl)) (pe_ix (r := rIxL K) ix_list (pv 2) (pv 4) (fun _ _ => rfl)) (nomark _))) (fun _ _ _ _ _ => (pv 4))) (pe_lst pa_nil) (nomark _)))))))), ?_⟩
  refine x_start (σ' := ([some (.ref a1), none, none, none, none] : L2.St)) (by with_unfolding_all rfl) ?_
  rw [is_rule] at hm
  with_reducible refine x_seq ?_
  with_reducible refine x_if ?_
  with_reducible refine x_or ?_
  with_reducible refine x_not ?_
  with_reducible refine x_B ?_
  with_reducible refine x_cb ?_
  with_reducible refine x_cons ?_
  refine ⟨_, rfl, ?_⟩
  refine ⟨_, _, _, _, true, rfl, ClsV.ty _, TyX.base (TyOf.tup (G0.sub _ _ fa1)), kit_ty (by decide +kernel), ?_⟩
  refine ⟨_, rfl, ?_⟩
  refine iteF ?_
  with_reducible refine x_or ?_
  with_reducible refine x_B ?_
  with_reducible refine x_cmp ?_
  with_reducible refine x_cb ?_
  with_reducible refine x_cons ?_
  refine ⟨_, rfl, ?_⟩
  refine ⟨_, _, rfl, .inr (.inl (.inl (G0.sub _ _ fa1))), ?_⟩
  with_reducible refine x_c ?_
  refine ⟨_, _, rfl, rfl, ?_⟩
  refine ⟨_, rfl, ?_⟩
  refine ifD (fun hc => ?_) (fun hc => ?_)
  · replace hm := itep hm hc
    refine iteT ?_
    with_reducible refine x_ret ?_
    with_reducible refine x_c ?_
    obtain rfl : _ = r := Option.some.inj hm
    exact q _ _ _ G0 (.bl _)
  · replace hm := iten hm (bF hc)
    with_reducible refine x_not ?_
    with_reducible refine x_B ?_
    with_reducible refine x_call ?_
    with_reducible refine x_cons ?_
    with_reducible refine x_op ?_
    refine ⟨_, rfl, ?_⟩
    refine ⟨_, _, _, _, rfl, rfl, .inl (.inl (G0.sub _ _ fa1)), atI_nat (j := 0) rfl, ?_⟩
    obtain ⟨r1, hr1, hm⟩ := bindp hm
    refine ⟨_, _, (thing).1, r1, rfl, G0.sub, (.int _), hr1, fun N1 H1 v3 g1 d3  => ?_⟩
    have G1 := G0.step g1
    obtain rfl := bl_of d3
    refine ⟨_, rfl, ?_⟩
    refine ifD (fun hc => ?_) (fun hc => ?_)
    · replace hm := itep hm hc
      with_reducible refine x_ret ?_
      with_reducible refine x_c ?_
      obtain rfl : _ = r := Option.some.inj hm
      exact q _ _ _ G1 (.bl _)
    · replace hm := iten hm (bF hc)
      with_reducible refine x_next ?_
      with_reducible refine x_seq ?_
      with_reducible refine x_asg ?_
      refine ⟨_, rfl, ?_⟩
      refine ⟨_, _, rfl, .inl (.inl ((g1.ex.trans G1.sub) _ _ fa1)), rfl, ?_⟩
      refine ⟨_, _, rfl, ?_⟩
      with_reducible refine x_gnE (σ' := ([some (.ref a1), some (.int (thing).1), none, none, none] : L2.St)) (by with_unfolding_all rfl) ?_
      refine ⟨_, _, rfl, ?_⟩
      with_reducible refine x_gnE (σ' := ([some (.ref a1), some (.int (thing).1), some (.ref a2), none, none] : L2.St)) (by with_unfolding_all rfl) ?_
      refine ⟨rfl, ?_⟩
      with_reducible refine x_seq ?_
      with_reducible refine x_if ?_
      with_reducible refine x_or ?_
      with_reducible refine x_not ?_
      with_reducible refine x_B ?_
      with_reducible refine x_cb ?_
      with_reducible refine x_cons ?_
      refine ⟨_, rfl, ?_⟩
      refine ⟨_, _, _, _, true, rfl, ClsV.ty _, TyX.base (TyOf.lst ((g1.ex.trans G1.sub) _ _ fa2)), kit_ty (by decide +kernel), ?_⟩
      refine ⟨_, rfl, ?_⟩
      refine iteF ?_
      with_reducible refine x_B ?_
      refine useEv (.bl (decide ((4 : Int) < ((thing).2.length : Int)))) (by exact (ev_cmp (ev_lenT (Evl.ev_var rfl) ((g1.ex.trans G1.sub) _ _ fa2) (Rs_mono g1.ex fr1)) Evl.ev_c)) (fun H2 e1 => ?_)
      have g2 := gr_ex G1.sub e1
      have G2 := G1.step g2
      refine ⟨_, rfl, ?_⟩
      refine ifD (fun hc => ?_) (fun hc => ?_)
      · replace hm := itep hm hc
        with_reducible refine x_ret ?_
        with_reducible refine x_c ?_
        obtain rfl : _ = r := Option.some.inj hm
        exact q _ _ _ G2 (.bl _)
      · replace hm := iten hm (bF hc)
        with_reducible refine x_next ?_
        with_reducible refine x_seq ?_
        with_reducible refine x_if ?_
        with_reducible refine x_test ?_
        with_reducible refine x_op ?_
        with_reducible refine x_lc ?_
        with_reducible refine x_iter ?_
        refine ⟨_, rfl, ?_⟩
        refine ⟨_, rfl, ⟨_, .inl (.inl ((g1.ex.trans G2.sub) _ _ fa2))⟩, fun p1 np1 => ?_⟩
        have g3 := Gr.newO (o := .lst []) G2.sub np1
        have o1 := Ow.new (us := []) G2 np1
        have G3 := G2.step g3
        refine lc_lst (α := (List Int)) (fun (ts1 : List (List Int)) H3 => ∃ (F1 : Hp) (x2 : List (List Int)) (us3 : List V), forK (is_rule_c1 thing) ts1 x2 (is_rule_k2 thing) = some r ∧ Sub (N1) F1 ∧ Gr NA F0 H F1 H3 ∧ Ow H F1 H3 p1 us3 ∧ Rs F1 us3 x2) (Rs_mono g1.ex fr1) ⟨N1, ([] : List (List Int)), _, hm, (Sub.refl _), G3, o1, Rs_nil⟩ (fun _ _ h => ?_) (fun t1 ts2 v4 H1 hv1 hW => ?_) (fun H1 hW => ?_)
        · obtain ⟨F9, _, _, _, s9, G9, _⟩ := h
          exact G9.sub _ _ (s9 _ _ (g1.ex _ _ fa2))
        · skip
          obtain ⟨F1, x2, us3, hm, s1, G4, o2, fr2⟩ := hW
          obtain ⟨next1, hnx1⟩ : ∃ nx, nx = fun s => forK (is_rule_c1 thing) ts2 s (is_rule_k2 thing) := ⟨_, rfl⟩
          have hm : (is_rule_c1 thing) x2 t1 next1 = some r := by rw [hnx1]; exact forK_c hm
          rw [is_rule_c1] at hm
          obtain ⟨a3, us4, rfl, fa3, fr3⟩ := lst_of hv1
          with_reducible refine x_gnE (σ' := ([some (.ref a1), some (.int (thing).1), some (.ref a2), some (.ref a3), none] : L2.St)) (by with_unfolding_all rfl) ?_
          refine ⟨rfl, ?_⟩
          with_reducible refine x_not ?_
          with_reducible refine x_B ?_
          with_reducible refine x_call ?_
          with_reducible refine x_cons ?_
          refine ⟨_, rfl, ?_⟩
          with_reducible refine x_cons ?_
          refine ⟨_, rfl, ?_⟩
          obtain ⟨r2, hr2, hm⟩ := bindp hm
          refine ⟨_, _, _, (thing).1, t1, r2, rfl, G4.sub, (.int _), (mk_lst (s1 _ _ fa3) (Rs_mono s1 fr3)), hr2, fun N2 H4 v5 g4 d4  => ?_⟩
          have G5 := G4.step g4
          have o3 := o2.step g4
          obtain rfl := bl_of d4
          refine ⟨_, rfl, ?_⟩
          refine ifD (fun hc => ?_) (fun hc => ?_)
          · replace hm := itep hm hc
            refine ⟨_, rfl, ?_⟩
            obtain ⟨c1, hm⟩ := guardp hm
            have G6 := o3.mutG (o := .lst (us3 ++ [(.ref a3)])) G5
            have o4 := o3.mut (ws := us3 ++ [(.ref a3)])
            have fr4 : Rs (α := (List Int)) (N2) (us3 ++ [(.ref a3)]) (x2 ++ [t1]) := Rs_snoc (Rs_mono g4.ex fr2) (mk_lst ((s1.trans g4.ex) _ _ fa3) (Rs_mono (s1.trans g4.ex) fr3))
            rw [hnx1] at hm
            exact ⟨_, o3.at_, szl (by rw [Rs_len (Rs_mono g4.ex fr2)]; exact c1), ⟨N2, (x2 ++ [t1]), _, hm, (s1.trans g4.ex), G6, o4, fr4⟩⟩
          · replace hm := iten hm (bF hc)
            rw [hnx1] at hm
            exact ⟨N2, x2, _, hm, (s1.trans g4.ex), G5, o3, (Rs_mono g4.ex fr2)⟩
        · skip
          obtain ⟨F1, x2, us3, hm, s2, G7, o5, fr5⟩ := hW
          have hm : (is_rule_k2 thing) x2 = some r := forK_n hm
          rw [is_rule_k2] at hm
          with_reducible refine x_lst ?_
          refine ⟨szle (show 0 ≤ 16777216 from by decide), fun p2 np2 => ?_⟩
          have fr6 : Rs (α := (List Int)) (F1) [] ([] : (List (List Int))) := Rs_nil
          have g5 := Gr.newO (o := .lst []) G7.sub np2
          have o6 := Ow.new (us := []) G7 np2
          have ne1 := o5.ne_new np2
          have G8 := G7.step g5
          have o7 := o5.step g5
          refine ⟨_, x2, ([] : (List (List Int))), Sub.refl _, (mk_lst o7.at_ (Rs_mono G8.sub fr5)), (mk_lst o6.at_ (Rs_mono G8.sub fr6)), ?_⟩
          refine ⟨_, rfl, ?_⟩
          refine ifD (fun hc => ?_) (fun hc => ?_)
          · replace hm := itep hm hc
            with_reducible refine x_ret ?_
            with_reducible refine x_c ?_
            obtain rfl : _ = r := Option.some.inj hm
            exact q _ _ _ G8 (.bl _)
          · replace hm := iten hm (bF hc)
            with_reducible refine x_next ?_
            with_reducible refine x_ret ?_
            with_reducible refine x_op ?_
            with_reducible refine x_lc ?_
            with_reducible refine x_rng2 ?_
            with_reducible refine x_cons ?_
            with_reducible refine x_c ?_
            with_reducible refine x_cons ?_
            refine useEv (.int ((thing).2.length : Int)) (by exact (ev_lenT (Evl.ev_var rfl) (((g1.ex.trans s2).trans G8.sub) _ _ fa2) (Rs_mono (g1.ex.trans s2) fr1))) (fun H5 e2 => ?_)
            have g6 := gr_ex G8.sub e2
            have G9 := G8.step g6
            obtain ⟨c2, hm⟩ := guardp hm
            refine ⟨_, _, rfl, c2.ok, fun p3 np3 => ?_⟩
            have g7 := Gr.newO (o := .lst []) G9.sub np3
            have o8 := Ow.new (us := []) G9 np3
            have G10 := G9.step g7
            refine lc_rng (lo := (1 : Int)) (hi := ((thing).2.length : Int)) rfl (fun (ts3 : List Int) H6 => ∃ (F2 : Hp) (x4 : List Int) (us6 : List V), forK (is_rule_c3 thing) ts3 x4 (is_rule_k4) = some r ∧ Sub (F1) F2 ∧ Gr NA F0 H F2 H6 ∧ Ow H F2 H6 p3 us6 ∧ Rs F2 us6 x4) ⟨F1, ([] : List Int), _, hm, (Sub.refl _), G10, o8, Rs_nil⟩ (fun t2 ts4 H1 hW => ?_) (fun H1 hW => ?_)
            · skip
              obtain ⟨F2, x4, us6, hm, s3, G11, o9, fr7⟩ := hW
              obtain ⟨next2, hnx2⟩ : ∃ nx, nx = fun s => forK (is_rule_c3 thing) ts4 s (is_rule_k4) := ⟨_, rfl⟩
              have hm : (is_rule_c3 thing) x4 t2 next2 = some r := by rw [hnx2]; exact forK_c hm
              rw [is_rule_c3] at hm
              with_reducible refine x_gnE (σ' := ([some (.ref a1), some (.int (thing).1), some (.ref a2), none, some (.int t2)] : L2.St)) (by with_unfolding_all rfl) ?_
              refine ⟨rfl, ?_⟩
              with_reducible refine x_test ?_
              with_reducible refine x_op ?_
              with_reducible refine x_op ?_
              refine ⟨_, rfl, ?_⟩
              refine useEv (.int (t2 - (1 : Int))) (by exact (Evl.ev_op (Evl.ev_var rfl) Evl.ev_c Evl.rv_I0)) (fun H7 e3 => ?_)
              have g8 := gr_ex G11.sub e3
              have G12 := G11.step g8
              have o10 := o9.step g8
              obtain ⟨x5, hx1, hm⟩ := bindp hm
              obtain ⟨v7, hu1, d5⟩ := Rs_at (Rs_mono ((g1.ex.trans s2).trans s3) fr1) hx1
              refine ⟨_, _, _, _, rfl, rfl, .inl (.inl ((((g1.ex.trans s2).trans s3).trans G12.sub) _ _ fa2)), hu1, ?_⟩
              obtain ⟨a4, us7, rfl, fa4, fr8⟩ := lst_of d5
              with_reducible refine x_op ?_
              refine ⟨_, rfl, ?_⟩
              refine ⟨_, rfl, ?_⟩
              obtain ⟨x6, hx2, hm⟩ := bindp hm
              obtain ⟨v8, hu2, d6⟩ := Rs_at (Rs_mono ((g1.ex.trans s2).trans s3) fr1) hx2
              refine ⟨_, _, _, _, rfl, rfl, .inl (.inl ((((g1.ex.trans s2).trans s3).trans G12.sub) _ _ fa2)), hu2, ?_⟩
              obtain ⟨a5, us8, rfl, fa5, fr9⟩ := lst_of d6
              refine ⟨_, x5, x6, Sub.refl _, (RD.mono G12.sub (mk_lst ((Sub.refl _) _ _ fa4) (Rs_mono (Sub.refl _) fr8))), (RD.mono G12.sub (mk_lst ((Sub.refl _) _ _ fa5) (Rs_mono (Sub.refl _) fr9))), ?_⟩
              refine ⟨_, rfl, ?_⟩
              refine ifD (fun hc => ?_) (fun hc => ?_)
              · replace hm := itep hm hc
                refine ⟨_, rfl, ?_⟩
                obtain ⟨c3, hm⟩ := guardp hm
                have G13 := o10.mutG (o := .lst (us6 ++ [(.int t2)])) G12
                have o11 := o10.mut (ws := us6 ++ [(.int t2)])
                have fr10 : Rs (α := Int) (F2) (us6 ++ [(.int t2)]) (x4 ++ [t2]) := Rs_snoc fr7 (.int _)
                rw [hnx2] at hm
                exact ⟨_, o10.at_, szl (by rw [Rs_len fr7]; exact c3), ⟨F2, (x4 ++ [t2]), _, hm, s3, G13, o11, fr10⟩⟩
              · replace hm := iten hm (bF hc)
                rw [hnx2] at hm
                exact ⟨F2, x4, _, hm, s3, G12, o10, fr7⟩
            · skip
              obtain ⟨F2, x4, us6, hm, s4, G14, o12, fr11⟩ := hW
              have hm : (is_rule_k4) x4 = some r := forK_n hm
              rw [is_rule_k4] at hm
              with_reducible refine x_lst ?_
              refine ⟨szle (show 0 ≤ 16777216 from by decide), fun p4 np4 => ?_⟩
              have fr12 : Rs (α := Int) (F2) [] ([] : (List Int)) := Rs_nil
              have g9 := Gr.newO (o := .lst []) G14.sub np4
              have o13 := Ow.new (us := []) G14 np4
              have ne2 := o12.ne_new np4
              have G15 := G14.step g9
              have o14 := o12.step g9
              refine ⟨_, x4, ([] : (List Int)), Sub.refl _, (mk_lst o14.at_ (Rs_mono G15.sub fr11)), (mk_lst o13.at_ (Rs_mono G15.sub fr12)), ?_⟩
              obtain rfl : _ = r := Option.some.inj hm
              exact q _ _ _ G15 (.bl _)

def read_rule_c1 (text : Str) : (List Int) → Int → ((List Int) → Option (Int × (List (List Int)))) → Option (Int × (List (List Int)))
  | x2, t1, next1 => (if (t1).natAbs.log2 < 1920 then ((atI (Txt.split text (" " : Str)) (0 : Int)).bind fun x3 => (if (decide ((Str.ofString (toString t1)) = x3)) = true then (if x2.length < 16777216 then (next1 (x2 ++ [t1])) else none) else (next1 x2))) else none)
def read_rule_c3 (x2 : (List Int)) : (List (List Int)) → Str → ((List (List Int)) → Option (Int × (List (List Int)))) → Option (Int × (List (List Int)))
  | x6, t2, next2 => ((atI x2 (0 : Int)).bind fun x7 => ((read_figures x7 t2).bind fun r1 => (if x6.length < 16777216 then (next2 (x6 ++ [r1])) else none)))
def read_rule_k4 (x4 : Int) : (List (List Int)) → Option (Int × (List (List Int)))
  | x6 => ((is_rule (x4, x6)).bind fun r2 => (if (!r2) = true then none else (some (x4, x6))))
def read_rule_k2 (text : Str) : (List Int) → Option (Int × (List (List Int)))
  | x2 => (if (eqT x2 []) = true then none else ((atI x2 (0 : Int)).bind fun x4 => (forK (read_rule_c3 x2) ((cutT (Txt.split text (" " : Str)) (some (1 : Int)) none)) [] (read_rule_k4 x4))))
def read_rule (text : Str) : Option (Int × (List (List Int))) :=
  (if text.length + 2 ≤ 16777216 then (forK (read_rule_c1 text) (irange (2 : Int) (17 : Int)) [] (read_rule_k2 text)) else none)
abbrev N_read_rule : List Str := ["text", "words", "bases", "rule", "base", "word"]
theorem sc_read_rule : FnScope N_read_rule ["text"] (defScope s_read_rule) := ⟨rfl, rfl, rfl, by decide +kernel, rfl, by decide +kernel, by decide +kernel⟩
def sp_read_rule : Sp := fun vs H Q _ => ∃ (F : Hp) (v_text : V) (text : Str) (r : (Int × (List (List Int)))), vs = [v_text] ∧ Sub F H ∧ R F v_text text ∧ read_rule text = some r ∧ ∀ N H2 v, Gr NA F H N H2 → NR H N v r → Q v H2
theorem ok_read_rule {P : Program} {w : World} {K : PySem.W.Frag} {mg : Str → Option Value} {base : Heap} (T : Txt K mg) : FnOk P w K mg base CX0 6 T.f_read_rule.f T.f_read_rule.fd ["text"] sp_read_rule := by
  have nd := (sc_read_rule).nd
  refine T.f_read_rule.F.ok sc_read_rule (fun vs H Q E h => ?_) (fun cdv A0 outer s H vs Q E hr h => ?_)
  · obtain ⟨_, _, _, _, rfl, _⟩ := h
    rfl
  obtain ⟨F0, v_text, text, r, rfl, s0, f_text, hm, q⟩ := h
  have G0 : Gr NA F0 H F0 H := Gr.refl s0
  obtain rfl := str_of f_text
  refine ⟨_, (pss_cons (ps_if (pt_not (pt_val (pe_callB (r := rIsi K) call_isi (by rfl) T.z_isinstance (by decide +kernel) (pa_cons (pv 0) (pa_cons (pe_bltn (v := .ty "str") (by rfl) T.z_str (by decide +kernel) rfl) pa_nil))))) (pss_one ps_never) pss_nil) (pss_cons (ps_set (i := 1) nd rfl (by first | exact Or.inl rfl | exact Or.inr rfl) (pe_split (pv 0) pe_str)) (pss_cons (ps_set (i := 2) nd rfl (by first | exact Or.inl rfl | exact Or.inr rfl) (pe_lc (own := [("base", 4)]) (g := (gName 4)) rfl nd (pi_range2 (by rfl) T.z_range (pa_cons pe_int (pa_cons pe_int pa_nil))) (blkOk_by (own := [("base", 4)]) (N := N_read_rule) (sc := defScope s_read_rule) (by decide +kernel)) (fun _ _ _ _ _ => pg_name (i := 4) nd rfl (Or.inl rfl)) (fun _ _ _ _ _ => pts_one (pt_cmpR op_eqS (pe_callTy call_str_int (by rfl) T.z_str (by decide +kernel) (pa_cons (pv 4) pa_nil)) (pe_ix (r := rIxL K) ix_list (pv 1) pe_int (fun _ _ => rfl)) (nomark _))) (fun _ _ _ _ _ => (pv 4)))) (pss_cons (ps_if (pt_cmpR (op_eqT (α := (List Int)) (by decide) (hu64 hr)) (pv 2) (pe_lst pa_nil) (nomark _)) (pss_one ps_never) pss_nil) (pss_cons (ps_set (i := 3) nd rfl (by first | exact Or.inl rfl | exact Or.inr rfl) (pe_tup (pa_cons (pe_ix (r := rIxL K) ix_list (pv 2) pe_int (fun _ _ => rfl)) (pa_cons (pe_lc (own := [("word", 5)]) (g := (gName 5)) rfl nd (pi_list (pe_slice (r := rSlL K) sl_list (pv 1) (po_some pe_int) po_none)) (blkOk_by (own := [("word", 5)]) (N := N_read_rule) (sc := defScope s_read_rule) (by decide +kernel)) (fun _ _ _ _ _ => pg_name (i := 5) nd rfl (Or.inl rfl)) (fun _ _ _ _ _ => pts_nil) (fun _ _ _ _ _ => (pe_call (ok_read_figures T) (hr.mono (by decide)) (by rfl) T.f_read_figures.g T.f_read_figures.F.kp T.f_read_figures.b .nil pass0 (pa_cons (pe_ix (r := rIxL K) ix_list (pv 2) pe_int (fun _ _ => rfl)) (pa_cons (pv 5) pa_nil))))) pa_nil)))) (pss_cons (ps_if (pt_not (pt_val (pe_call (ok_is_rule T) (hr.mono (by decide)) (by rfl) T.f_is_rule.g T.f_is_rule.F.kp T.f_is_rule.b .nil pass0 (pa_cons (pv 3) pa_nil)))) (pss_one ps_never) pss_nil) (pss_one (ps_ret (pv 3))))))))), ?_⟩
  refine x_start (σ' := ([some (.str text), none, none, none, none, none] : L2.St)) (by with_unfolding_all rfl) ?_
  rw [read_rule] at hm
  with_reducible refine x_seq ?_
  with_reducible refine x_if ?_
  with_reducible refine x_not ?_
  with_reducible refine x_B ?_
  with_reducible refine x_cb ?_
  with_reducible refine x_cons ?_
  refine ⟨_, rfl, ?_⟩
  refine ⟨_, _, _, _, true, rfl, ClsV.ty _, TyX.base (TyOf.str _), kit_ty (by decide +kernel), ?_⟩
  refine ⟨_, rfl, ?_⟩
  refine iteF ?_
  with_reducible refine x_next ?_
  with_reducible refine x_seq ?_
  with_reducible refine x_asg ?_
  with_reducible refine x_m1 ?_
  refine ⟨_, rfl, ?_⟩
  refine ⟨⟨_, rfl⟩, ?_⟩
  with_reducible refine x_c ?_
  obtain ⟨c1, hm⟩ := guardp hm
  refine split_of (by rfl) c1 (fun p1 np1 => ?_)
  have g1 := Gr.newO (o := .lst ((Txt.split text (" " : Str)).map V.str)) G0.sub np1
  have o1 := Ow.new (us := ((Txt.split text (" " : Str)).map V.str)) G0 np1
  have G1 := G0.step g1
  with_reducible refine x_gnE (σ' := ([some (.str text), some (.ref p1), none, none, none, none] : L2.St)) (by with_unfolding_all rfl) ?_
  with_reducible refine x_seq ?_
  with_reducible refine x_asg ?_
  with_reducible refine x_lc ?_
  with_reducible refine x_rng2 ?_
  with_reducible refine x_cons ?_
  with_reducible refine x_c ?_
  with_reducible refine x_cons ?_
  with_reducible refine x_c ?_
  refine ⟨_, _, rfl, (show Rg2 (2 : Int) (17 : Int) from by decide).ok, fun p2 np2 => ?_⟩
  have g2 := Gr.newO (o := .lst []) G1.sub np2
  have o2 := Ow.new (us := []) G1 np2
  have ne1 := o1.ne_new np2
  have G2 := G1.step g2
  have o3 := o1.step g2
  refine lc_rng (lo := (2 : Int)) (hi := (17 : Int)) rfl (fun (ts1 : List Int) H1 => ∃ (F1 : Hp) (x2 : List Int) (us2 : List V), forK (read_rule_c1 text) ts1 x2 (read_rule_k2 text) = some r ∧ Sub (F0) F1 ∧ Gr NA F0 H F1 H1 ∧ Ow H F1 H1 p2 us2 ∧ Rs F1 us2 x2 ∧ Ow H F1 H1 p1 ((Txt.split text (" " : Str)).map V.str)) ⟨F0, ([] : List Int), _, hm, (Sub.refl _), G2, o2, Rs_nil, o3⟩ (fun t1 ts2 H1 hW => ?_) (fun H1 hW => ?_)
  · skip
    obtain ⟨F1, x2, us2, hm, s1, G3, o4, fr1, o5⟩ := hW
    obtain ⟨next1, hnx1⟩ : ∃ nx, nx = fun s => forK (read_rule_c1 text) ts2 s (read_rule_k2 text) := ⟨_, rfl⟩
    have hm : (read_rule_c1 text) x2 t1 next1 = some r := by rw [hnx1]; exact forK_c hm
    rw [read_rule_c1] at hm
    with_reducible refine x_gnE (σ' := ([some (.str text), some (.ref p1), none, none, some (.int t1), none] : L2.St)) (by with_unfolding_all rfl) ?_
    refine ⟨rfl, ?_⟩
    with_reducible refine x_test ?_
    with_reducible refine x_op ?_
    with_reducible refine x_cb ?_
    with_reducible refine x_cons ?_
    refine ⟨_, rfl, ?_⟩
    obtain ⟨c2, hm⟩ := guardp hm
    refine ⟨_, rfl, c2, ?_⟩
    with_reducible refine x_op ?_
    refine ⟨_, rfl, ?_⟩
    with_reducible refine x_c ?_
    obtain ⟨x3, hx1, hm⟩ := bindp hm
    obtain ⟨v2, hu1, d1⟩ := Rs_at (Rs_mono s1 (strs_Rs (Txt.split text (" " : Str)))) hx1
    refine ⟨_, _, _, _, rfl, rfl, .inl (.inl o5.at_), hu1, ?_⟩
    obtain rfl := str_of d1
    refine eqS_use ?_
    refine ⟨_, rfl, ?_⟩
    refine ifD (fun hc => ?_) (fun hc => ?_)
    · replace hm := itep hm hc
      refine ⟨_, rfl, ?_⟩
      obtain ⟨c3, hm⟩ := guardp hm
      have G4 := o4.mutG (o := .lst (us2 ++ [(.int t1)])) G3
      have o6 := o4.mut (ws := us2 ++ [(.int t1)])
      have fr2 : Rs (α := Int) (F1) (us2 ++ [(.int t1)]) (x2 ++ [t1]) := Rs_snoc fr1 (.int _)
      have o7 := o5.other (ws := us2 ++ [(.int t1)]) (Ne.symm ne1)
      rw [hnx1] at hm
      exact ⟨_, o4.at_, szl (by rw [Rs_len fr1]; exact c3), ⟨F1, (x2 ++ [t1]), _, hm, s1, G4, o6, fr2, o7⟩⟩
    · replace hm := iten hm (bF hc)
      rw [hnx1] at hm
      exact ⟨F1, x2, _, hm, s1, G3, o4, fr1, o5⟩
  · skip
    obtain ⟨F1, x2, us2, hm, s2, G5, o8, fr3, o9⟩ := hW
    have hm : (read_rule_k2 text) x2 = some r := forK_n hm
    rw [read_rule_k2] at hm
    with_reducible refine x_gnE (σ' := ([some (.str text), some (.ref p1), some (.ref p2), none, none, none] : L2.St)) (by with_unfolding_all rfl) ?_
    with_reducible refine x_seq ?_
    with_reducible refine x_if ?_
    with_reducible refine x_test ?_
    refine useEv (.bl (eqT x2 [])) (by exact (ev_eqNil (α := Int) (Evl.ev_var rfl) (mk_lst o8.at_ (Rs_mono G5.sub fr3)))) (fun H2 e1 => ?_)
    have g3 := gr_ex G5.sub e1
    have G6 := G5.step g3
    have o10 := o8.step g3
    have o11 := o9.step g3
    refine ⟨_, rfl, ?_⟩
    refine ifD (fun hc => ?_) (fun hc => ?_)
    · replace hm := itep hm hc
      exact no_none hm
    · replace hm := iten hm (bF hc)
      with_reducible refine x_next ?_
      with_reducible refine x_seq ?_
      with_reducible refine x_asg ?_
      with_reducible refine x_tup ?_
      with_reducible refine x_cons ?_
      with_reducible refine x_op ?_
      refine ⟨_, rfl, ?_⟩
      with_reducible refine x_c ?_
      obtain ⟨x4, hx2, hm⟩ := bindp hm
      obtain ⟨v3, hu2, d2⟩ := Rs_at fr3 hx2
      refine ⟨_, _, _, _, rfl, rfl, .inl (.inl o10.at_), hu2, ?_⟩
      obtain rfl := int_of d2
      with_reducible refine x_cons ?_
      with_reducible refine x_lc ?_
      with_reducible refine x_iter ?_
      with_reducible refine x_sl ?_
      refine ⟨_, rfl, ?_⟩
      with_reducible refine x_part ?_
      with_reducible refine x_c ?_
      refine ⟨_, rfl, ?_⟩
      with_reducible refine x_nopart ?_
      refine ⟨_, _, rfl, .inl (.inl o11.at_), fun p3 np3 => ?_⟩
      have fr4 : Rs (α := Str) (F1) (cutV ((Txt.split text (" " : Str)).map V.str) (some (1 : Int)) none) (cutT (Txt.split text (" " : Str)) (some (1 : Int)) none) := Rs_cut (Rs_mono s2 (strs_Rs (Txt.split text (" " : Str))))
      have g4 := Gr.newO (o := .lst (cutV ((Txt.split text (" " : Str)).map V.str) (some (1 : Int)) none)) G6.sub np3
      have o12 := Ow.new (us := (cutV ((Txt.split text (" " : Str)).map V.str) (some (1 : Int)) none)) G6 np3
      have ne2 := o10.ne_new np3
      have ne3 := o11.ne_new np3
      have G7 := G6.step g4
      have o13 := o10.step g4
      have o14 := o11.step g4
      obtain ⟨F2, G8, ex1, fa1, nf1⟩ := o12.frzE G7
      have o15 := o13.frzN (Ne.symm (Ne.symm ne2)) nf1
      have o16 := o14.frzN (Ne.symm (Ne.symm ne3)) nf1
      have fr5 := Rs_mono ex1 fr4
      refine ⟨_, rfl, ⟨_, .inl (.inl (G8.sub _ _ fa1))⟩, fun p4 np4 => ?_⟩
      have g5 := Gr.newO (o := .lst []) G8.sub np4
      have o17 := Ow.new (us := []) G8 np4
      have ne4 := o15.ne_new np4
      have ne5 := o16.ne_new np4
      have G9 := G8.step g5
      have o18 := o15.step g5
      have o19 := o16.step g5
      refine lc_lst (α := Str) (fun (ts3 : List Str) H3 => ∃ (F3 : Hp) (x6 : List (List Int)) (us4 : List V), forK (read_rule_c3 x2) ts3 x6 (read_rule_k4 x4) = some r ∧ Sub (F2) F3 ∧ Gr NA F0 H F3 H3 ∧ Ow H F3 H3 p4 us4 ∧ Rs F3 us4 x6 ∧ NRs H F3 us4 x6 ∧ Ow H F3 H3 p2 us2 ∧ Ow H F3 H3 p1 ((Txt.split text (" " : Str)).map V.str)) (Rs_mono (Sub.refl _) fr5) ⟨F2, ([] : List (List Int)), _, hm, (Sub.refl _), G9, o17, Rs_nil, NRs_nil, o18, o19⟩ (fun _ _ h => ?_) (fun t2 ts4 v4 H1 hv2 hW => ?_) (fun H1 hW => ?_)
      · obtain ⟨F9, _, _, _, s9, G9, _⟩ := h
        exact G9.sub _ _ (s9 _ _ ((Sub.refl _) _ _ fa1))
      · skip
        obtain ⟨F3, x6, us4, hm, s3, G10, o20, fr6, fr7, o21, o22⟩ := hW
        obtain ⟨next2, hnx2⟩ : ∃ nx, nx = fun s => forK (read_rule_c3 x2) ts4 s (read_rule_k4 x4) := ⟨_, rfl⟩
        have hm : (read_rule_c3 x2) x6 t2 next2 = some r := by rw [hnx2]; exact forK_c hm
        rw [read_rule_c3] at hm
        obtain rfl := str_of hv2
        with_reducible refine x_gnE (σ' := ([some (.str text), some (.ref p1), some (.ref p2), none, none, some (.str t2)] : L2.St)) (by with_unfolding_all rfl) ?_
        refine ⟨rfl, ?_⟩
        with_reducible refine x_yes ?_
        refine iteT ?_
        with_reducible refine x_call ?_
        with_reducible refine x_cons ?_
        with_reducible refine x_op ?_
        refine ⟨_, rfl, ?_⟩
        with_reducible refine x_c ?_
        obtain ⟨x7, hx3, hm⟩ := bindp hm
        obtain ⟨v5, hu3, d3⟩ := Rs_at (Rs_mono s3 (Rs_mono ex1 fr3)) hx3
        refine ⟨_, _, _, _, rfl, rfl, .inl (.inl o21.at_), hu3, ?_⟩
        obtain rfl := int_of d3
        with_reducible refine x_cons ?_
        refine ⟨_, rfl, ?_⟩
        obtain ⟨r1, hr1, hm⟩ := bindp hm
        refine ⟨_, _, _, x7, t2, r1, rfl, G10.sub, (.int _), (.str _), hr1, fun N1 H4 v6 g6 d4 fz1 => ?_⟩
        obtain ⟨a1, us5, rfl, fa2, fr8⟩ := lst_of d4
        have o23 := own_of (α := Int) (xs := []) G10 g6 (fz1 _ rfl) fa2
        have fr9 := Rs_flatI (F := F3) fr8
        have ne6 := o20.ne_new (fz1 _ rfl)
        have ne7 := o21.ne_new (fz1 _ rfl)
        have ne8 := o22.ne_new (fz1 _ rfl)
        have g7 := g6.flat G10.sub
        have G11 := G10.step g7
        have o24 := o20.step g7
        have o25 := o21.step g7
        have o26 := o22.step g7
        obtain ⟨F4, G12, ex2, fa3, nf2⟩ := o23.frzE G11
        have o27 := o24.frzN (Ne.symm (Ne.symm ne6)) nf2
        have o28 := o25.frzN (Ne.symm (Ne.symm ne7)) nf2
        have o29 := o26.frzN (Ne.symm (Ne.symm ne8)) nf2
        have fr10 := Rs_mono ex2 fr9
        have n01 := o23.n0
        have fr11 := NRs_mono (H0 := H) ex2 (NRs_flatI fr9)
        obtain ⟨c4, hm⟩ := guardp hm
        have G13 := o27.mutG (o := .lst (us4 ++ [(.ref a1)])) G12
        have o30 := o27.mut (ws := us4 ++ [(.ref a1)])
        have fr12 : Rs (α := (List Int)) (F4) (us4 ++ [(.ref a1)]) (x6 ++ [r1]) := Rs_snoc (Rs_mono ex2 fr6) (mk_lst ((Sub.refl _) _ _ fa3) (Rs_mono (Sub.refl _) fr10))
        have o31 := o28.other (ws := us4 ++ [(.ref a1)]) (Ne.symm ne4)
        have o32 := o29.other (ws := us4 ++ [(.ref a1)]) (Ne.symm ne5)
        rw [hnx2] at hm
        have fr13 := NRs_snoc (α := (List Int)) (x := r1) (NRs_mono ex2 fr7) (mkN_lst n01 ((Sub.refl _) _ _ fa3) (NRs_mono (Sub.refl _) fr11))
        exact ⟨_, o27.at_, szl (by rw [Rs_len (Rs_mono ex2 fr6)]; exact c4), ⟨F4, (x6 ++ [r1]), _, hm, (s3.trans ex2), G13, o30, fr12, fr13, o31, o32⟩⟩
      · skip
        obtain ⟨F3, x6, us4, hm, s4, G14, o33, fr14, fr15, o34, o35⟩ := hW
        have hm : (read_rule_k4 x4) x6 = some r := forK_n hm
        rw [read_rule_k4] at hm
        obtain ⟨F5, G15, ex3, fa4, nf3⟩ := o33.frzE G14
        have o36 := o34.frzN (Ne.symm (Ne.symm ne4)) nf3
        have o37 := o35.frzN (Ne.symm (Ne.symm ne5)) nf3
        have fr16 := Rs_mono ex3 fr14
        have n02 := o33.n0
        have fr17 := NRs_mono (H0 := H) ex3 fr15
        refine ⟨szle (show 2 ≤ 16777216 from by decide), fun p5 np5 => ?_⟩
        obtain ⟨F6, g8, fa5⟩ := Gr.newE (o := .tup [(.int x4), (.ref p4)]) G15.sub np5
        have G16 := G15.step g8
        have o38 := o36.step g8
        have o39 := o37.step g8
        with_reducible refine x_gnE (σ' := ([some (.str text), some (.ref p1), some (.ref p2), some (.ref p5), none, none] : L2.St)) (by with_unfolding_all rfl) ?_
        with_reducible refine x_seq ?_
        with_reducible refine x_if ?_
        with_reducible refine x_not ?_
        with_reducible refine x_B ?_
        with_reducible refine x_call ?_
        with_reducible refine x_cons ?_
        refine ⟨_, rfl, ?_⟩
        obtain ⟨r2, hr2, hm⟩ := bindp hm
        refine ⟨_, _, (x4, x6), r2, rfl, G16.sub, (mk_tup2 ((Sub.refl _) _ _ fa5) (.int _) (mk_lst (g8.ex _ _ fa4) (Rs_mono g8.ex fr16))), hr2, fun N2 H5 v7 g9 d5  => ?_⟩
        have G17 := G16.step g9
        have o40 := o38.step g9
        have o41 := o39.step g9
        obtain rfl := bl_of d5
        refine ⟨_, rfl, ?_⟩
        refine ifD (fun hc => ?_) (fun hc => ?_)
        · replace hm := itep hm hc
          exact no_none hm
        · replace hm := iten hm (bF hc)
          with_reducible refine x_next ?_
          with_reducible refine x_ret ?_
          refine ⟨_, rfl, ?_⟩
          obtain rfl : _ = r := Option.some.inj hm
          exact q _ _ _ G17 (mkN_tup2 (g9.ex _ _ fa5) (.int _) (mkN_lst n02 ((g8.ex.trans g9.ex) _ _ fa4) (NRs_mono (g8.ex.trans g9.ex) fr17)))


def need_from (thing : Int) (least : Int) : Option Unit :=
  ((is_whole thing).bind fun r1 => (if (!r1) = true then none else (if (decide (thing < least)) = true then none else (some ()))))
abbrev N_need_from : List Str := ["thing", "least"]
theorem sc_need_from : FnScope N_need_from ["thing", "least"] (defScope s_need_from) := ⟨rfl, rfl, rfl, by decide +kernel, rfl, by decide +kernel, by decide +kernel⟩
def sp_need_from : Sp := fun vs H Q _ => ∃ (F : Hp) (v_thing : V) (v_least : V) (thing : Int) (least : Int) (r : Unit), vs = [v_thing, v_least] ∧ Sub F H ∧ R F v_thing thing ∧ R F v_least least ∧ need_from thing least = some r ∧ ∀ N H2 v, Gr NA F H N H2 → R N v r → Q v H2
theorem ok_need_from {P : Program} {w : World} {K : PySem.W.Frag} {mg : Str → Option Value} {base : Heap} (T : Txt K mg) : FnOk P w K mg base CX0 2 T.f_need_from.f T.f_need_from.fd ["thing", "least"] sp_need_from := by
  have nd := (sc_need_from).nd
  refine T.f_need_from.F.ok sc_need_from (fun vs H Q E h => ?_) (fun cdv A0 outer s H vs Q E hr h => ?_)
  · obtain ⟨_, _, _, _, _, _, rfl, _⟩ := h
    rfl
  obtain ⟨F0, v_thing, v_least, thing, least, r, rfl, s0, f_thing, f_least, hm, q⟩ := h
  have G0 : Gr NA F0 H F0 H := Gr.refl s0
  obtain rfl := int_of f_thing
  obtain rfl := int_of f_least
  refine ⟨_, (pss_one (ps_if (PW.pt (pw_or (pt_not (pt_val (pe_call (ok_is_whole T) (hr.mono (by decide)) (by rfl) T.f_is_whole.g T.f_is_whole.F.kp T.f_is_whole.b .nil pass0 (pa_cons (pv 0) pa_nil)))) (pw_or1 (pt_cmp (pc_lt (pv 0) (pv 1)))))) (pss_one ps_never) pss_nil)), ?_⟩
  refine x_start (σ' := ([some (.int thing), some (.int least)] : L2.St)) (by with_unfolding_all rfl) ?_
  rw [need_from] at hm
  with_reducible refine x_if ?_
  with_reducible refine x_or ?_
  with_reducible refine x_not ?_
  with_reducible refine x_B ?_
  with_reducible refine x_call ?_
  with_reducible refine x_cons ?_
  refine ⟨_, rfl, ?_⟩
  obtain ⟨r1, hr1, hm⟩ := bindp hm
  refine ⟨_, _, thing, r1, rfl, G0.sub, (.int _), hr1, fun N1 H1 v1 g1 d1  => ?_⟩
  have G1 := G0.step g1
  obtain rfl := bl_of d1
  refine ⟨_, rfl, ?_⟩
  refine ifD (fun hc => ?_) (fun hc => ?_)
  · replace hm := itep hm hc
    refine iteT ?_
    exact no_none hm
  · replace hm := iten hm (bF hc)
    with_reducible refine x_B ?_
    refine useEv (.bl (decide (thing < least))) (by exact (ev_cmp (Evl.ev_var rfl) (Evl.ev_var rfl))) (fun H2 e1 => ?_)
    have g2 := gr_ex G1.sub e1
    have G2 := G1.step g2
    refine ⟨_, rfl, ?_⟩
    refine ifD (fun hc => ?_) (fun hc => ?_)
    · replace hm := itep hm hc
      exact no_none hm
    · replace hm := iten hm (bF hc)
      with_reducible refine x_next ?_
      obtain rfl : _ = r := Option.some.inj hm
      exact q _ _ _ G2 .non

def written_w1 (base : Int) : (Int × (List Int)) → ((Int × (List Int)) → Option (List Int)) → Option (List Int)
  | (x1, x2), next1 => (if (decide ((0 : Int) < x1)) = true then (if Dv base then (if x2.length < 16777216 then (if Dv base then (next1 ((x1 / base), (x2 ++ [(x1 % base)]))) else none) else none) else none) else (some ((x2).reverse)))
def written (base : Int) (n : Int) : Option (List Int) :=
  (if Dv base then (if Dv base then (whileK (written_w1 base) fuel ((n / base), ([(n % base)] : (List Int)))) else none) else none)
abbrev N_written : List Str := ["base", "n", "found"]
theorem sc_written : FnScope N_written ["base", "n"] (defScope s_written) := ⟨rfl, rfl, rfl, by decide +kernel, rfl, by decide +kernel, by decide +kernel⟩
def sp_written : Sp := fun vs H Q _ => ∃ (F : Hp) (v_base : V) (v_n : V) (base : Int) (n : Int) (r : (List Int)), vs = [v_base, v_n] ∧ Sub F H ∧ R F v_base base ∧ R F v_n n ∧ written base n = some r ∧ ∀ N H2 v, Gr NA F H N H2 → R N v r → Fz H v → Q v H2
theorem ok_written {P : Program} {w : World} {K : PySem.W.Frag} {mg : Str → Option Value} {base : Heap} (T : Txt K mg) : FnOk P w K mg base CX0 1 T.f_written.f T.f_written.fd ["base", "n"] sp_written := by
  have nd := (sc_written).nd
  refine T.f_written.F.ok sc_written (fun vs H Q E h => ?_) (fun cdv A0 outer s H vs Q E hr h => ?_)
  · obtain ⟨_, _, _, _, _, _, rfl, _⟩ := h
    rfl
  obtain ⟨F0, v_base, v_n, base, n, r, rfl, s0, f_base, f_n, hm, q⟩ := h
  have G0 : Gr NA F0 H F0 H := Gr.refl s0
  obtain rfl := int_of f_base
  obtain rfl := int_of f_n
  refine ⟨_, (pss_cons (ps_set (i := 2) nd rfl (by first | exact Or.inl rfl | exact Or.inr rfl) (pe_lst (pa_cons (pe_op op_mod (pv 1) (pv 0)) pa_nil))) (pss_cons (ps_set (i := 1) nd rfl (by first | exact Or.inl rfl | exact Or.inr rfl) (pe_op op_fdivW (pv 1) (pv 0))) (pss_cons (ps_while PassesOwn.never (pt_cmp (pc_gt (pv 1) pe_int)) (pss_cons (ps_expr (pe_bm PySem.F.plainAttrs_list PySem.F.slot_list_append PySem.F.type_list_append mt_append (pv 2) (pa_cons (pe_op op_mod (pv 1) (pv 0)) pa_nil))) (pss_one (ps_set (i := 1) nd rfl (by first | exact Or.inl rfl | exact Or.inr rfl) (pe_op op_fdivW (pv 1) (pv 0)))))) (pss_one (ps_ret (pe_revL (pv 2))))))), ?_⟩
  refine x_start (σ' := ([some (.int base), some (.int n), none] : L2.St)) (by with_unfolding_all rfl) ?_
  rw [written] at hm
  with_reducible refine x_seq ?_
  with_reducible refine x_asg ?_
  with_reducible refine x_lst ?_
  with_reducible refine x_cons ?_
  with_reducible refine x_op ?_
  refine ⟨_, rfl, ?_⟩
  refine ⟨_, rfl, ?_⟩
  obtain ⟨c1, hm⟩ := guardp hm
  refine ⟨_, _, rfl, rfl, c1.p, ?_⟩
  refine ⟨szle (show 1 ≤ 16777216 from by decide), fun p1 np1 => ?_⟩
  have fr1 : Rs (α := Int) (F0) [(.int (n % base))] ([(n % base)] : (List Int)) := (Rs_cons (.int _) Rs_nil)
  have g1 := Gr.newO (o := .lst [(.int (n % base))]) G0.sub np1
  have o1 := Ow.new (us := [(.int (n % base))]) G0 np1
  have G1 := G0.step g1
  with_reducible refine x_gnE (σ' := ([some (.int base), some (.int n), some (.ref p1)] : L2.St)) (by with_unfolding_all rfl) ?_
  with_reducible refine x_seq ?_
  with_reducible refine x_asg ?_
  with_reducible refine x_op ?_
  refine ⟨_, rfl, ?_⟩
  refine ⟨_, rfl, ?_⟩
  obtain ⟨c2, hm⟩ := guardp hm
  refine ⟨_, _, rfl, rfl, c2.w, ?_⟩
  with_reducible refine x_gnE (σ' := ([some (.int base), some (.int (n / base)), some (.ref p1)] : L2.St)) (by with_unfolding_all rfl) ?_
  with_reducible refine x_seq ?_
  refine while_n (fun m σ H1 => ∃ (F1 : Hp) (x1 : Int) (x2 : (List Int)) (p2 : Addr) (us1 : List V), whileK (written_w1 base) m (x1, x2) = some r ∧ Sub (F0) F1 ∧ Gr NA F0 H F1 H1 ∧ Ow H F1 H1 p2 us1 ∧ Rs F1 us1 x2 ∧ σ = [some (.int base), some (.int x1), some (.ref p2)]) fuel ⟨F0, (n / base), ([(n % base)] : (List Int)), _, _, hm, (Sub.refl _), G1, o1, fr1, rfl⟩ (fun σ H1 hW => ?_) (fun m1 σ H1 hW => ?_)
  · obtain ⟨F1, x1, x2, p2, us1, h9, _⟩ := hW
    exact no_none h9
  obtain ⟨F1, x1, x2, p2, us1, hm, s1, G2, o2, fr2, rfl⟩ := hW
  obtain ⟨next1, hnx1⟩ : ∃ nx, nx = whileK (written_w1 base) m1 := ⟨_, rfl⟩
  have hm : (written_w1 base) (x1, x2) next1 = some r := by rw [hnx1]; exact whileK_s hm
  rw [written_w1] at hm
  with_reducible refine x_B ?_
  refine useEv (.bl (decide ((0 : Int) < x1))) (by exact (ev_cmp (Evl.ev_var rfl) Evl.ev_c)) (fun H2 e1 => ?_)
  have g2 := gr_ex G2.sub e1
  have G3 := G2.step g2
  have o3 := o2.step g2
  refine ⟨_, rfl, ?_⟩
  refine ifD (fun hc => ?_) (fun hc => ?_)
  · replace hm := itep hm hc
    refine ⟨_, fun σ9 H9 h9 => ⟨m1, Nat.lt_succ_self _, h9⟩, ?_⟩
    with_reducible refine x_seq ?_
    with_reducible refine x_drop ?_
    with_reducible refine x_bm ?_
    refine ⟨_, rfl, ?_⟩
    refine ⟨.inl ⟨rfl, _, .inl (.inl o3.at_)⟩, ?_⟩
    with_reducible refine x_cons ?_
    with_reducible refine x_op ?_
    refine ⟨_, rfl, ?_⟩
    refine ⟨_, rfl, ?_⟩
    obtain ⟨c3, hm⟩ := guardp hm
    refine ⟨_, _, rfl, rfl, c3.p, ?_⟩
    obtain ⟨c4, hm⟩ := guardp hm
    refine ⟨_, _, _, rfl, rfl, o3.at_, szl (by rw [Rs_len fr2]; exact c4), ?_⟩
    have G4 := o3.mutG (o := .lst (us1 ++ [(.int (x1 % base))])) G3
    have o4 := o3.mut (ws := us1 ++ [(.int (x1 % base))])
    have fr3 : Rs (α := Int) (F1) (us1 ++ [(.int (x1 % base))]) (x2 ++ [(x1 % base)]) := Rs_snoc fr2 (.int _)
    with_reducible refine x_asg ?_
    with_reducible refine x_op ?_
    refine ⟨_, rfl, ?_⟩
    refine ⟨_, rfl, ?_⟩
    obtain ⟨c5, hm⟩ := guardp hm
    refine ⟨_, _, rfl, rfl, c5.w, ?_⟩
    with_reducible refine x_gnE (σ' := ([some (.int base), some (.int (x1 / base)), some (.ref p2)] : L2.St)) (by with_unfolding_all rfl) ?_
    rw [hnx1] at hm
    exact ⟨F1, (x1 / base), (x2 ++ [(x1 % base)]), _, _, hm, s1, G4, o4, fr3, rfl⟩
  · replace hm := iten hm (bF hc)
    with_reducible refine x_ret ?_
    with_reducible refine x_revL ?_
    refine ⟨_, rfl, ?_⟩
    refine ⟨_, _, rfl, .inl (.inl o3.at_), fun p3 np2 => ?_⟩
    have fr4 : Rs (α := Int) (F1) (us1).reverse ((x2).reverse) := Rs_rev fr2
    have g3 := Gr.newO (o := .lst (us1).reverse) G3.sub np2
    have o5 := Ow.new (us := (us1).reverse) G3 np2
    have ne1 := o3.ne_new np2
    have G5 := G3.step g3
    have o6 := o3.step g3
    obtain ⟨F2, G6, ex1, fa1, nf1⟩ := o5.frzE G5
    have o7 := o6.frzN (Ne.symm (Ne.symm ne1)) nf1
    have fr5 := Rs_mono ex1 fr4
    obtain rfl : _ = r := Option.some.inj hm
    exact q _ _ _ G6 (mk_lst ((Sub.refl _) _ _ fa1) (Rs_mono (Sub.refl _) fr5)) (fun a9 e9 => by cases e9; exact o5.n0)


def figures_of (base : Int) (n : Int) : Option (List Int) :=
  ((need_base base).bind fun r1 => ((need_from n (0 : Int)).bind fun r2 => ((written base n).bind fun r3 => (some r3))))
abbrev N_figures_of : List Str := ["base", "n"]
theorem sc_figures_of : FnScope N_figures_of ["base", "n"] (defScope s_figures_of) := ⟨rfl, rfl, rfl, by decide +kernel, rfl, by decide +kernel, by decide +kernel⟩
def sp_figures_of : Sp := fun vs H Q _ => ∃ (F : Hp) (v_base : V) (v_n : V) (base : Int) (n : Int) (r : (List Int)), vs = [v_base, v_n] ∧ Sub F H ∧ R F v_base base ∧ R F v_n n ∧ figures_of base n = some r ∧ ∀ N H2 v, Gr NA F H N H2 → R N v r → Fz H v → Q v H2
theorem ok_figures_of {P : Program} {w : World} {K : PySem.W.Frag} {mg : Str → Option Value} {base : Heap} (T : Txt K mg) : FnOk P w K mg base CX0 4 T.f_figures_of.f T.f_figures_of.fd ["base", "n"] sp_figures_of := by
  have nd := (sc_figures_of).nd
  refine T.f_figures_of.F.ok sc_figures_of (fun vs H Q E h => ?_) (fun cdv A0 outer s H vs Q E hr h => ?_)
  · obtain ⟨_, _, _, _, _, _, rfl, _⟩ := h
    rfl
  obtain ⟨F0, v_base, v_n, base, n, r, rfl, s0, f_base, f_n, hm, q⟩ := h
  have G0 : Gr NA F0 H F0 H := Gr.refl s0
  obtain rfl := int_of f_base
  obtain rfl := int_of f_n
  refine ⟨_, (pss_cons (ps_expr (pe_call (ok_need_base T) (hr.mono (by decide)) (by rfl) T.f_need_base.g T.f_need_base.F.kp T.f_need_base.b .nil pass0 (pa_cons (pv 0) pa_nil))) (pss_cons (ps_expr (pe_call (ok_need_from T) (hr.mono (by decide)) (by rfl) T.f_need_from.g T.f_need_from.F.kp T.f_need_from.b .nil pass0 (pa_cons (pv 1) (pa_cons pe_int pa_nil)))) (pss_one (ps_ret (pe_call (ok_written T) (hr.mono (by decide)) (by rfl) T.f_written.g T.f_written.F.kp T.f_written.b .nil pass0 (pa_cons (pv 0) (pa_cons (pv 1) pa_nil))))))), ?_⟩
  refine x_start (σ' := ([some (.int base), some (.int n)] : L2.St)) (by with_unfolding_all rfl) ?_
  rw [figures_of] at hm
  with_reducible refine x_seq ?_
  with_reducible refine x_drop ?_
  with_reducible refine x_call ?_
  with_reducible refine x_cons ?_
  refine ⟨_, rfl, ?_⟩
  obtain ⟨r1, hr1, hm⟩ := bindp hm
  refine ⟨_, _, base, r1, rfl, G0.sub, (.int _), hr1, fun N1 H1 v1 g1 d1  => ?_⟩
  have G1 := G0.step g1
  obtain rfl := non_of d1
  with_reducible refine x_seq ?_
  with_reducible refine x_drop ?_
  with_reducible refine x_call ?_
  with_reducible refine x_cons ?_
  refine ⟨_, rfl, ?_⟩
  with_reducible refine x_cons ?_
  with_reducible refine x_c ?_
  obtain ⟨r2, hr2, hm⟩ := bindp hm
  refine ⟨_, _, _, n, (0 : Int), r2, rfl, G1.sub, (.int _), (.int _), hr2, fun N2 H2 v2 g2 d2  => ?_⟩
  have G2 := G1.step g2
  obtain rfl := non_of d2
  with_reducible refine x_ret ?_
  with_reducible refine x_call ?_
  with_reducible refine x_cons ?_
  refine ⟨_, rfl, ?_⟩
  with_reducible refine x_cons ?_
  refine ⟨_, rfl, ?_⟩
  obtain ⟨r3, hr3, hm⟩ := bindp hm
  refine ⟨_, _, _, base, n, r3, rfl, G2.sub, (.int _), (.int _), hr3, fun N3 H3 v3 g3 d3 fz1 => ?_⟩
  obtain ⟨a1, us1, rfl, fa1, fr1⟩ := lst_of d3
  have o1 := own_of (α := Int) (xs := []) G2 g3 (fz1 _ rfl) fa1
  have fr2 := Rs_flatI (F := N2) fr1
  have g4 := g3.flat G2.sub
  have G3 := G2.step g4
  obtain ⟨F1, G4, ex1, fa2, nf1⟩ := o1.frzE G3
  have fr3 := Rs_mono ex1 fr2
  obtain rfl : _ = r := Option.some.inj hm
  exact q _ _ _ G4 (mk_lst ((Sub.refl _) _ _ fa2) (Rs_mono (Sub.refl _) fr3)) (fun a9 e9 => by cases e9; exact o1.n0)

def figures_text_c1 : (List Str) → Int → ((List Str) → Option Str) → Option Str
  | x2, t1, next1 => (if ("0123456789abcdef" : Str).length ≤ 16777216 then ((atI ("0123456789abcdef" : Str).cps.toList t1).bind fun x3 => (if x2.length < 16777216 then (next1 (x2 ++ [(⟨#[x3]⟩ : Str)])) else none)) else none)
def figures_text_k2 : (List Str) → Option Str
  | x2 => (if (x2.map (·.length)).sum + x2.length * ("" : Str).length ≤ 16777216 then (some (Txt.join ("" : Str) x2)) else none)
def figures_text (figures : (List Int)) : Option Str :=
  (forK (figures_text_c1) (figures) [] (figures_text_k2))
abbrev N_figures_text : List Str := ["figures", "figure"]
theorem sc_figures_text : FnScope N_figures_text ["figures"] (defScope s_figures_text) := ⟨rfl, rfl, rfl, by decide +kernel, rfl, by decide +kernel, by decide +kernel⟩
def sp_figures_text : Sp := fun vs H Q _ => ∃ (F : Hp) (v_figures : V) (figures : (List Int)) (r : Str), vs = [v_figures] ∧ Sub F H ∧ R F v_figures figures ∧ figures_text figures = some r ∧ ∀ N H2 v, Gr NA F H N H2 → R N v r → Q v H2
theorem ok_figures_text {P : Program} {w : World} {K : PySem.W.Frag} {mg : Str → Option Value} {base : Heap} (T : Txt K mg) : FnOk P w K mg base CX0 1 T.f_figures_text.f T.f_figures_text.fd ["figures"] sp_figures_text := by
  have nd := (sc_figures_text).nd
  refine T.f_figures_text.F.ok sc_figures_text (fun vs H Q E h => ?_) (fun cdv A0 outer s H vs Q E hr h => ?_)
  · obtain ⟨_, _, _, _, rfl, _⟩ := h
    rfl
  obtain ⟨F0, v_figures, figures, r, rfl, s0, f_figures, hm, q⟩ := h
  have G0 : Gr NA F0 H F0 H := Gr.refl s0
  obtain ⟨a1, us1, rfl, fa1, fr1⟩ := lst_of f_figures
  refine ⟨_, (pss_one (ps_ret (pe_join pe_str (pe_lc (own := [("figure", 1)]) (g := (gName 1)) rfl nd (pi_list (pv 0)) (blkOk_by (own := [("figure", 1)]) (N := N_figures_text) (sc := defScope s_figures_text) (by decide +kernel)) (fun _ _ _ _ _ => pg_name (i := 1) nd rfl (Or.inl rfl)) (fun _ _ _ _ _ => pts_nil) (fun _ _ _ _ _ => (pe_ix (r := rIxS) ix_str (pe_glob (v := .str ("0123456789abcdef" : Str)) rfl T.c_SIGNS.g ⟨_, rfl⟩) (pv 1) (fun _ _ => rfl))))))), ?_⟩
  refine x_start (σ' := ([some (.ref a1), none] : L2.St)) (by with_unfolding_all rfl) ?_
  rw [figures_text] at hm
  with_reducible refine x_ret ?_
  with_reducible refine x_m1 ?_
  with_reducible refine x_c ?_
  refine ⟨⟨_, rfl⟩, ?_⟩
  with_reducible refine x_lc ?_
  with_reducible refine x_iter ?_
  refine ⟨_, rfl, ?_⟩
  refine ⟨_, rfl, ⟨_, .inl (.inl (G0.sub _ _ fa1))⟩, fun p1 np1 => ?_⟩
  have g1 := Gr.newO (o := .lst []) G0.sub np1
  have o1 := Ow.new (us := []) G0 np1
  have G1 := G0.step g1
  refine lc_lst (α := Int) (fun (ts1 : List Int) H1 => ∃ (F1 : Hp) (x2 : List Str) (us3 : List V), forK (figures_text_c1) ts1 x2 (figures_text_k2) = some r ∧ Sub (F0) F1 ∧ Gr NA F0 H F1 H1 ∧ Ow H F1 H1 p1 us3 ∧ Rs F1 us3 x2) (Rs_mono (Sub.refl _) fr1) ⟨F0, ([] : List Str), _, hm, (Sub.refl _), G1, o1, Rs_nil⟩ (fun _ _ h => ?_) (fun t1 ts2 v1 H1 hv1 hW => ?_) (fun H1 hW => ?_)
  · obtain ⟨F9, _, _, _, s9, G9, _⟩ := h
    exact G9.sub _ _ (s9 _ _ ((Sub.refl _) _ _ fa1))
  · skip
    obtain ⟨F1, x2, us3, hm, s1, G2, o2, fr2⟩ := hW
    obtain ⟨next1, hnx1⟩ : ∃ nx, nx = fun s => forK (figures_text_c1) ts2 s (figures_text_k2) := ⟨_, rfl⟩
    have hm : (figures_text_c1) x2 t1 next1 = some r := by rw [hnx1]; exact forK_c hm
    rw [figures_text_c1] at hm
    obtain rfl := int_of hv1
    with_reducible refine x_gnE (σ' := ([some (.ref a1), some (.int t1)] : L2.St)) (by with_unfolding_all rfl) ?_
    refine ⟨rfl, ?_⟩
    with_reducible refine x_yes ?_
    refine iteT ?_
    with_reducible refine x_op ?_
    with_reducible refine x_c ?_
    refine ⟨_, rfl, ?_⟩
    obtain ⟨c1, hm⟩ := guardp hm
    obtain ⟨x3, hx1, hm⟩ := bindp hm
    refine ixS_of c1 hx1 ?_
    obtain ⟨c2, hm⟩ := guardp hm
    have G3 := o2.mutG (o := .lst (us3 ++ [(.str (⟨#[x3]⟩ : Str))])) G2
    have o3 := o2.mut (ws := us3 ++ [(.str (⟨#[x3]⟩ : Str))])
    have fr3 : Rs (α := Str) (F1) (us3 ++ [(.str (⟨#[x3]⟩ : Str))]) (x2 ++ [(⟨#[x3]⟩ : Str)]) := Rs_snoc fr2 (.str _)
    rw [hnx1] at hm
    exact ⟨_, o2.at_, szl (by rw [Rs_len fr2]; exact c2), ⟨F1, (x2 ++ [(⟨#[x3]⟩ : Str)]), _, hm, s1, G3, o3, fr3⟩⟩
  · skip
    obtain ⟨F1, x2, us3, hm, s2, G4, o4, fr4⟩ := hW
    have hm : (figures_text_k2) x2 = some r := forK_n hm
    rw [figures_text_k2] at hm
    obtain ⟨c3, hm⟩ := guardp hm
    refine ⟨_, _, _, rfl, rfl, .inl (.inl (.inl (join_at o4.at_ fr4))), c3, ?_⟩
    obtain rfl : _ = r := Option.some.inj hm
    exact q _ _ _ G4 (.str _)


def show_number (base : Int) (n : Int) : Option Str :=
  ((figures_of base n).bind fun r1 => ((figures_text r1).bind fun r2 => (some r2)))
abbrev N_show_number : List Str := ["base", "n"]
theorem sc_show_number : FnScope N_show_number ["base", "n"] (defScope s_show_number) := ⟨rfl, rfl, rfl, by decide +kernel, rfl, by decide +kernel, by decide +kernel⟩
def sp_show_number : Sp := fun vs H Q _ => ∃ (F : Hp) (v_base : V) (v_n : V) (base : Int) (n : Int) (r : Str), vs = [v_base, v_n] ∧ Sub F H ∧ R F v_base base ∧ R F v_n n ∧ show_number base n = some r ∧ ∀ N H2 v, Gr NA F H N H2 → R N v r → Q v H2
theorem ok_show_number {P : Program} {w : World} {K : PySem.W.Frag} {mg : Str → Option Value} {base : Heap} (T : Txt K mg) : FnOk P w K mg base CX0 5 T.f_show_number.f T.f_show_number.fd ["base", "n"] sp_show_number := by
  have nd := (sc_show_number).nd
  refine T.f_show_number.F.ok sc_show_number (fun vs H Q E h => ?_) (fun cdv A0 outer s H vs Q E hr h => ?_)
  · obtain ⟨_, _, _, _, _, _, rfl, _⟩ := h
    rfl
  obtain ⟨F0, v_base, v_n, base, n, r, rfl, s0, f_base, f_n, hm, q⟩ := h
  have G0 : Gr NA F0 H F0 H := Gr.refl s0
  obtain rfl := int_of f_base
  obtain rfl := int_of f_n
  refine ⟨_, (pss_one (ps_ret (pe_call (ok_figures_text T) (hr.mono (by decide)) (by rfl) T.f_figures_text.g T.f_figures_text.F.kp T.f_figures_text.b .nil pass0 (pa_cons (pe_call (ok_figures_of T) (hr.mono (by decide)) (by rfl) T.f_figures_of.g T.f_figures_of.F.kp T.f_figures_of.b .nil pass0 (pa_cons (pv 0) (pa_cons (pv 1) pa_nil))) pa_nil)))), ?_⟩
  refine x_start (σ' := ([some (.int base), some (.int n)] : L2.St)) (by with_unfolding_all rfl) ?_
  rw [show_number] at hm
  with_reducible refine x_ret ?_
  with_reducible refine x_call ?_
  with_reducible refine x_cons ?_
  with_reducible refine x_call ?_
  with_reducible refine x_cons ?_
  refine ⟨_, rfl, ?_⟩
  with_reducible refine x_cons ?_
  refine ⟨_, rfl, ?_⟩
  obtain ⟨r1, hr1, hm⟩ := bindp hm
  refine ⟨_, _, _, base, n, r1, rfl, G0.sub, (.int _), (.int _), hr1, fun N1 H1 v1 g1 d1 fz1 => ?_⟩
  obtain ⟨a1, us1, rfl, fa1, fr1⟩ := lst_of d1
  have o1 := own_of (α := Int) (xs := []) G0 g1 (fz1 _ rfl) fa1
  have fr2 := Rs_flatI (F := F0) fr1
  have g2 := g1.flat G0.sub
  have G1 := G0.step g2
  obtain ⟨F1, G2, ex1, fa2, nf1⟩ := o1.frzE G1
  have fr3 := Rs_mono ex1 fr2
  obtain ⟨r2, hr2, hm⟩ := bindp hm
  refine ⟨_, _, r1, r2, rfl, G2.sub, (mk_lst ((Sub.refl _) _ _ fa2) (Rs_mono (Sub.refl _) fr3)), hr2, fun N2 H2 v2 g3 d2  => ?_⟩
  have G3 := G2.step g3
  obtain rfl := str_of d2
  obtain rfl : _ = r := Option.some.inj hm
  exact q _ _ _ G3 (.str _)

def show_rule_c1 : (List Str) → (List Int) → ((List Str) → Option Str) → Option Str
  | x2, t1, next1 => ((figures_text t1).bind fun r2 => (if x2.length < 16777216 then (next1 (x2 ++ [r2])) else none))
def show_rule_k2 (rule : (Int × (List (List Int)))) : (List Str) → Option Str
  | x2 => (if ([(Str.ofString (toString (rule).1))] : (List Str)).length + x2.length ≤ 16777216 then (if ((([(Str.ofString (toString (rule).1))] : (List Str)) ++ x2).map (·.length)).sum + (([(Str.ofString (toString (rule).1))] : (List Str)) ++ x2).length * (" " : Str).length ≤ 16777216 then (some (Txt.join (" " : Str) (([(Str.ofString (toString (rule).1))] : (List Str)) ++ x2))) else none) else none)
def show_rule (rule : (Int × (List (List Int)))) : Option Str :=
  ((is_rule rule).bind fun r1 => (if (!r1) = true then none else (if ((rule).1).natAbs.log2 < 1920 then (forK (show_rule_c1) ((rule).2) [] (show_rule_k2 rule)) else none)))
abbrev N_show_rule : List Str := ["rule", "stretch"]
theorem sc_show_rule : FnScope N_show_rule ["rule"] (defScope s_show_rule) := ⟨rfl, rfl, rfl, by decide +kernel, rfl, by decide +kernel, by decide +kernel⟩
def sp_show_rule : Sp := fun vs H Q _ => ∃ (F : Hp) (v_rule : V) (rule : (Int × (List (List Int)))) (r : Str), vs = [v_rule] ∧ Sub F H ∧ R F v_rule rule ∧ show_rule rule = some r ∧ ∀ N H2 v, Gr NA F H N H2 → R N v r → Q v H2
theorem ok_show_rule {P : Program} {w : World} {K : PySem.W.Frag} {mg : Str → Option Value} {base : Heap} (T : Txt K mg) : FnOk P w K mg base CX0 6 T.f_show_rule.f T.f_show_rule.fd ["rule"] sp_show_rule := by
  have nd := (sc_show_rule).nd
  refine T.f_show_rule.F.ok sc_show_rule (fun vs H Q E h => ?_) (fun cdv A0 outer s H vs Q E hr h => ?_)
  · obtain ⟨_, _, _, _, rfl, _⟩ := h
    rfl
  obtain ⟨F0, v_rule, rule, r, rfl, s0, f_rule, hm, q⟩ := h
  have G0 : Gr NA F0 H F0 H := Gr.refl s0
  obtain ⟨a1, v1, v2, rfl, fa1, d1, d2⟩ := tup2_of f_rule
  obtain rfl := int_of d1
  obtain ⟨a2, us1, rfl, fa2, fr1⟩ := lst_of d2
  refine ⟨_, (pss_cons (ps_if (pt_not (pt_val (pe_call (ok_is_rule T) (hr.mono (by decide)) (by rfl) T.f_is_rule.g T.f_is_rule.F.kp T.f_is_rule.b .nil pass0 (pa_cons (pv 0) pa_nil)))) (pss_one ps_never) pss_nil) (pss_one (ps_ret (pe_join pe_str (pe_op op_cat (pe_lst (pa_cons (pe_callTy call_str_int (by rfl) T.z_str (by decide +kernel) (pa_cons (pe_ix (r := rIxT K) ix_tup (pv 0) pe_int (fun _ _ => rfl)) pa_nil)) pa_nil)) (pe_lc (own := [("stretch", 1)]) (g := (gName 1)) rfl nd (pi_list (pe_ix (r := rIxT K) ix_tup (pv 0) pe_int (fun _ _ => rfl))) (blkOk_by (own := [("stretch", 1)]) (N := N_show_rule) (sc := defScope s_show_rule) (by decide +kernel)) (fun _ _ _ _ _ => pg_name (i := 1) nd rfl (Or.inl rfl)) (fun _ _ _ _ _ => pts_nil) (fun _ _ _ _ _ => (pe_call (ok_figures_text T) (hr.mono (by decide)) (by rfl) T.f_figures_text.g T.f_figures_text.F.kp T.f_figures_text.b .nil pass0 (pa_cons (pv 1) pa_nil))))))))), ?_⟩
  refine x_start (σ' := ([some (.ref a1), none] : L2.St)) (by with_unfolding_all rfl) ?_
  rw [show_rule] at hm
  with_reducible refine x_seq ?_
  with_reducible refine x_if ?_
  with_reducible refine x_not ?_
  with_reducible refine x_B ?_
  with_reducible refine x_call ?_
  with_reducible refine x_cons ?_
  refine ⟨_, rfl, ?_⟩
  obtain ⟨r1, hr1, hm⟩ := bindp hm
  refine ⟨_, _, rule, r1, rfl, G0.sub, (mk_tup2 ((Sub.refl _) _ _ fa1) (.int _) (mk_lst ((Sub.refl _) _ _ fa2) (Rs_mono (Sub.refl _) fr1))), hr1, fun N1 H1 v3 g1 d3  => ?_⟩
  have G1 := G0.step g1
  obtain rfl := bl_of d3
  refine ⟨_, rfl, ?_⟩
  refine ifD (fun hc => ?_) (fun hc => ?_)
  · replace hm := itep hm hc
    exact no_none hm
  · replace hm := iten hm (bF hc)
    with_reducible refine x_next ?_
    with_reducible refine x_ret ?_
    with_reducible refine x_m1 ?_
    with_reducible refine x_c ?_
    refine ⟨⟨_, rfl⟩, ?_⟩
    with_reducible refine x_op ?_
    with_reducible refine x_lst ?_
    with_reducible refine x_cons ?_
    with_reducible refine x_cb ?_
    with_reducible refine x_cons ?_
    with_reducible refine x_op ?_
    refine ⟨_, rfl, ?_⟩
    refine ⟨_, _, _, _, rfl, rfl, .inl (.inl ((g1.ex.trans G1.sub) _ _ fa1)), atI_nat (j := 0) rfl, ?_⟩
    obtain ⟨c1, hm⟩ := guardp hm
    refine ⟨_, rfl, c1, ?_⟩
    refine ⟨szle (show 1 ≤ 16777216 from by decide), fun p1 np1 => ?_⟩
    have fr2 : Rs (α := Str) (N1) [(.str (Str.ofString (toString (rule).1)))] ([(Str.ofString (toString (rule).1))] : (List Str)) := (Rs_cons (.str _) Rs_nil)
    have g2 := Gr.newO (o := .lst [(.str (Str.ofString (toString (rule).1)))]) G1.sub np1
    have o1 := Ow.new (us := [(.str (Str.ofString (toString (rule).1)))]) G1 np1
    have G2 := G1.step g2
    with_reducible refine x_lc ?_
    with_reducible refine x_iter ?_
    with_reducible refine x_op ?_
    refine ⟨_, rfl, ?_⟩
    refine ⟨_, _, _, _, rfl, rfl, .inl (.inl ((g1.ex.trans G2.sub) _ _ fa1)), atI_nat (j := 1) rfl, ?_⟩
    refine ⟨_, rfl, ⟨_, .inl (.inl ((g1.ex.trans G2.sub) _ _ fa2))⟩, fun p2 np2 => ?_⟩
    have g3 := Gr.newO (o := .lst []) G2.sub np2
    have o2 := Ow.new (us := []) G2 np2
    have ne1 := o1.ne_new np2
    have G3 := G2.step g3
    have o3 := o1.step g3
    refine lc_lst (α := (List Int)) (fun (ts1 : List (List Int)) H2 => ∃ (F1 : Hp) (x2 : List Str) (us3 : List V), forK (show_rule_c1) ts1 x2 (show_rule_k2 rule) = some r ∧ Sub (N1) F1 ∧ Gr NA F0 H F1 H2 ∧ Ow H F1 H2 p2 us3 ∧ Rs F1 us3 x2 ∧ Ow H F1 H2 p1 [(.str (Str.ofString (toString (rule).1)))]) (Rs_mono g1.ex fr1) ⟨N1, ([] : List Str), _, hm, (Sub.refl _), G3, o2, Rs_nil, o3⟩ (fun _ _ h => ?_) (fun t1 ts2 v4 H1 hv1 hW => ?_) (fun H1 hW => ?_)
    · obtain ⟨F9, _, _, _, s9, G9, _⟩ := h
      exact G9.sub _ _ (s9 _ _ (g1.ex _ _ fa2))
    · skip
      obtain ⟨F1, x2, us3, hm, s1, G4, o4, fr3, o5⟩ := hW
      obtain ⟨next1, hnx1⟩ : ∃ nx, nx = fun s => forK (show_rule_c1) ts2 s (show_rule_k2 rule) := ⟨_, rfl⟩
      have hm : (show_rule_c1) x2 t1 next1 = some r := by rw [hnx1]; exact forK_c hm
      rw [show_rule_c1] at hm
      obtain ⟨a3, us4, rfl, fa3, fr4⟩ := lst_of hv1
      with_reducible refine x_gnE (σ' := ([some (.ref a1), some (.ref a3)] : L2.St)) (by with_unfolding_all rfl) ?_
      refine ⟨rfl, ?_⟩
      with_reducible refine x_yes ?_
      refine iteT ?_
      with_reducible refine x_call ?_
      with_reducible refine x_cons ?_
      refine ⟨_, rfl, ?_⟩
      obtain ⟨r2, hr2, hm⟩ := bindp hm
      refine ⟨_, _, t1, r2, rfl, G4.sub, (mk_lst (s1 _ _ fa3) (Rs_mono s1 fr4)), hr2, fun N2 H3 v5 g4 d4  => ?_⟩
      have G5 := G4.step g4
      have o6 := o4.step g4
      have o7 := o5.step g4
      obtain rfl := str_of d4
      obtain ⟨c2, hm⟩ := guardp hm
      have G6 := o6.mutG (o := .lst (us3 ++ [(.str r2)])) G5
      have o8 := o6.mut (ws := us3 ++ [(.str r2)])
      have fr5 : Rs (α := Str) (N2) (us3 ++ [(.str r2)]) (x2 ++ [r2]) := Rs_snoc (Rs_mono g4.ex fr3) (.str _)
      have o9 := o7.other (ws := us3 ++ [(.str r2)]) (Ne.symm ne1)
      rw [hnx1] at hm
      exact ⟨_, o6.at_, szl (by rw [Rs_len (Rs_mono g4.ex fr3)]; exact c2), ⟨N2, (x2 ++ [r2]), _, hm, (s1.trans g4.ex), G6, o8, fr5, o9⟩⟩
    · skip
      obtain ⟨F1, x2, us3, hm, s2, G7, o10, fr6, o11⟩ := hW
      have hm : (show_rule_k2 rule) x2 = some r := forK_n hm
      rw [show_rule_k2] at hm
      obtain ⟨c3, hm⟩ := guardp hm
      refine ⟨_, _, _, _, rfl, rfl, o11.at_, o10.at_, szle (by rw [Rs_len (Rs_mono s2 fr2), Rs_len fr6]; exact c3), fun p3 np3 => ?_⟩
      have fr7 : Rs (α := Str) (F1) ([(.str (Str.ofString (toString (rule).1)))] ++ us3) (([(Str.ofString (toString (rule).1))] : (List Str)) ++ x2) := Rs_app (Rs_mono s2 fr2) fr6
      have g5 := Gr.newO (o := .lst ([(.str (Str.ofString (toString (rule).1)))] ++ us3)) G7.sub np3
      have o12 := Ow.new (us := ([(.str (Str.ofString (toString (rule).1)))] ++ us3)) G7 np3
      have G8 := G7.step g5
      obtain ⟨c4, hm⟩ := guardp hm
      refine ⟨_, _, _, rfl, rfl, .inl (.inl (.inl (join_at o12.at_ fr7))), c4, ?_⟩
      obtain rfl : _ = r := Option.some.inj hm
      exact q _ _ _ G8 (.str _)

def law_c3 : (List (List Int)) → (List Int) → ((List (List Int)) → Option Bool) → Option Bool
  | x3, t2, next2 => (if x3.length < 16777216 then (next2 (x3 ++ [t2])) else none)
def law_c5 : (List Str) → (List Int) → ((List Str) → Option Bool) → Option Bool
  | x5, t3, next3 => ((_law_text t3).bind fun r4 => (if x5.length < 16777216 then (next3 (x5 ++ [r4])) else none))
def law_b7 : (List (List Int)) → Nat → ((List (List Int)) → Option Bool) → Option Bool
  | x6, t4, next4 => ((x6[t4]?).bind fun x7 => (if x7.length < 16777216 then (next4 (x6.set t4 (x7 ++ [(0 : Int)]))) else none))
def law_e8 (r1 : Int) (r3 : (Int × (List (List Int)))) (next1 : ((List (Str × (Int × (List (List Int))))) → Option Bool)) (x1 : (List (Str × (Int × (List (List Int)))))) (x5 : (List Str)) : (List (List Int)) → Option Bool
  | x6 => ((_law_mixed (if r1 < 0 then -r1 else r1) (30 : Int)).bind fun r7 => ((_law_number r7 (31 : Int)).bind fun r8 => ((_law_figures ((r3).1) r8).bind fun r9 => ((_law_text r9).bind fun r10 => ((show_number ((r3).1) r8).bind fun r11 => (if (!decide (r11 = r10)) = true then (some false) else ((read_number ((r3).1) r10).bind fun r12 => (if ((!decide (r12 = r8))) = true then (some false) else ((show_rule r3).bind fun r13 => ((read_rule r13).bind fun r14 => (if (!eqT r14 r3) = true then (some false) else (next1 (putT x1 (Txt.join (" " : Str) (([(Str.ofString (toString (r3).1))] : (List Str)) ++ x5)) r3)))))))))))))
def law_k6 (r3 : (Int × (List (List Int)))) (x3 : (List (List Int))) (x1 : (List (Str × (Int × (List (List Int)))))) (r1 : Int) (next1 : ((List (Str × (Int × (List (List Int))))) → Option Bool)) : (List Str) → Option Bool
  | x5 => (if ([(Str.ofString (toString (r3).1))] : (List Str)).length + x5.length ≤ 16777216 then (if ((([(Str.ofString (toString (r3).1))] : (List Str)) ++ x5).map (·.length)).sum + (([(Str.ofString (toString (r3).1))] : (List Str)) ++ x5).length * (" " : Str).length ≤ 16777216 then ((show_rule ((r3).1, x3)).bind fun r5 => (if (!decide (r5 = (Txt.join (" " : Str) (([(Str.ofString (toString (r3).1))] : (List Str)) ++ x5)))) = true then (some false) else (if (!(eqT ((r3).1, x3) r3)) = true then (some false) else (if (!eqT ((getT x1 (Txt.join (" " : Str) (([(Str.ofString (toString (r3).1))] : (List Str)) ++ x5))).getD r3) r3) = true then (some false) else (if x1.length < 16777216 then ((read_rule (Txt.join (" " : Str) (([(Str.ofString (toString (r3).1))] : (List Str)) ++ x5))).bind fun r6 => (if (r6).2.Nodup then (if (!(eqT ((r6).1, (r6).2) r3)) = true then (some false) else (if (r6).2.length < 16777216 then (forK (law_b7) (List.range ((r6).2 ++ [([(0 : Int)] : (List Int))]).length) ((r6).2 ++ [([(0 : Int)] : (List Int))]) (law_e8 r1 r3 next1 x1 x5)) else none)) else none)) else none))))) else none) else none)
def law_k4 (r3 : (Int × (List (List Int)))) (x1 : (List (Str × (Int × (List (List Int)))))) (r1 : Int) (next1 : ((List (Str × (Int × (List (List Int))))) → Option Bool)) : (List (List Int)) → Option Bool
  | x3 => (if ((r3).1).natAbs.log2 < 1920 then (forK (law_c5) ((r3).2) [] (law_k6 r3 x3 x1 r1 next1)) else none)
def law_b1 (ns : (List Int)) : (List (Str × (Int × (List (List Int))))) → Int → ((List (Str × (Int × (List (List Int))))) → Option Bool) → Option Bool
  | x1, t1, next1 => ((_law_cell ns t1).bind fun r1 => ((_law_mixed (if r1 < 0 then -r1 else r1) t1).bind fun r2 => ((_law_rule r2).bind fun r3 => (forK (law_c3) ((r3).2) [] (law_k4 r3 x1 r1 next1)))))
def law_e2 : (List (Str × (Int × (List (List Int))))) → Option Bool
  | x1 => (some true)
def law (ns : List Int) : Option Bool :=
  (if Rg1 (if (if (60 : Int) < (ns.length : Int) then (60 : Int) else (ns.length : Int)) > (8 : Int) then (if (60 : Int) < (ns.length : Int) then (60 : Int) else (ns.length : Int)) else (8 : Int)) then (forK (law_b1 ns) (irange 0 (if (if (60 : Int) < (ns.length : Int) then (60 : Int) else (ns.length : Int)) > (8 : Int) then (if (60 : Int) < (ns.length : Int) then (60 : Int) else (ns.length : Int)) else (8 : Int))) ([] : (List (Str × (Int × (List (List Int)))))) (law_e2)) else none)
abbrev N_law : List Str := ["script", "before", "k", "cell", "rule", "one", "handed", "text", "found", "n"]
theorem sc_law : FnScope N_law ["script"] (defScope s_law) := ⟨rfl, rfl, rfl, by decide +kernel, rfl, by decide +kernel, by decide +kernel⟩
def sp_law (K : PySem.W.Frag) : Sp := fun vs H Q _ => ∃ (a : Addr) (ns : List Int), vs = [.ref a] ∧ SqL K H a (ns.map V.int) ∧ law ns = some true ∧ ∀ H2, Q (.bl true) H2
theorem ok_law {P : Program} {w : World} {K : PySem.W.Frag} {mg : Str → Option Value} {base : Heap} (T : Txt K mg) : FnOk P w K mg base CX0 7 T.f_law.f T.f_law.fd ["script"] (sp_law K) := by
  have nd := sc_law.nd
  refine T.f_law.F.ok sc_law (fun vs H Q E h => ?_) (fun cdv A0 outer s H vs Q E hr h => ?_)
  · obtain ⟨_, _, rfl, _⟩ := h
    rfl
  obtain ⟨a0, ns, rfl, hS, hm, q⟩ := h
  refine ⟨_, (pss_cons (ps_set (i := 1) nd rfl (by first | exact Or.inl rfl | exact Or.inr rfl) pe_dnewK) (pss_cons (ps_for PassesOwn.never rfl (pi_range1 (by rfl) T.z_range (pa_cons (pe_callB (call_max2 rfl) (by rfl) T.z_max (by decide +kernel) (pa_cons pe_int (pa_cons (pe_callB (call_min2 rfl) (by rfl) T.z_min (by decide +kernel) (pa_cons (pe_callB (r := rLenT K) call_lenT (by rfl) T.z_len PySem.boot_len (pa_cons (pv 0) pa_nil)) (pa_cons pe_int pa_nil))) pa_nil))) pa_nil)) (pg_name (i := 2) nd rfl (by first | exact Or.inl rfl | exact Or.inr rfl)) (pss_cons (ps_set (i := 3) nd rfl (by first | exact Or.inl rfl | exact Or.inr rfl) (pe_callB call_abs (by rfl) T.z_abs (by decide +kernel) (pa_cons (pe_call (ok__law_cell T) (hr.mono (by decide)) (by rfl) T.f__law_cell.g T.f__law_cell.F.kp T.f__law_cell.b .nil pass0 (pa_cons (pv 0) (pa_cons (pv 2) pa_nil))) pa_nil))) (pss_cons (ps_set (i := 4) nd rfl (by first | exact Or.inl rfl | exact Or.inr rfl) (pe_call (ok__law_rule T) (hr.mono (by decide)) (by rfl) T.f__law_rule.g T.f__law_rule.F.kp T.f__law_rule.b .nil pass0 (pa_cons (pe_call (ok__law_mixed T) (hr.mono (by decide)) (by rfl) T.f__law_mixed.g T.f__law_mixed.F.kp T.f__law_mixed.b .nil pass0 (pa_cons (pv 3) (pa_cons (pv 2) pa_nil))) pa_nil))) (pss_cons (ps_set (i := 6) nd rfl (by first | exact Or.inl rfl | exact Or.inr rfl) (pe_tup (pa_cons (pe_ix (r := rIxT K) ix_tup (pv 4) pe_int (fun _ _ => rfl)) (pa_cons (pe_lc (own := [("one", 5)]) (g := (gName 5)) rfl nd (pi_list (pe_ix (r := rIxT K) ix_tup (pv 4) pe_int (fun _ _ => rfl))) (blkOk_by (own := [("one", 5)]) (N := N_law) (sc := defScope s_law) (by decide +kernel)) (fun _ _ _ _ _ => pg_name (i := 5) nd rfl (Or.inl rfl)) (fun _ _ _ _ _ => pts_nil) (fun _ _ _ _ _ => (pe_callTy (r := rListT K) call_listT (by rfl) T.z_list (by decide +kernel) (pa_cons (pv 5) pa_nil)))) pa_nil)))) (pss_cons (ps_set (i := 7) nd rfl (by first | exact Or.inl rfl | exact Or.inr rfl) (pe_join pe_str (pe_op op_cat (pe_lst (pa_cons (pe_callTy call_str_int (by rfl) T.z_str (by decide +kernel) (pa_cons (pe_ix (r := rIxT K) ix_tup (pv 4) pe_int (fun _ _ => rfl)) pa_nil)) pa_nil)) (pe_lc (own := [("one", 5)]) (g := (gName 5)) rfl nd (pi_list (pe_ix (r := rIxT K) ix_tup (pv 4) pe_int (fun _ _ => rfl))) (blkOk_by (own := [("one", 5)]) (N := N_law) (sc := defScope s_law) (by decide +kernel)) (fun _ _ _ _ _ => pg_name (i := 5) nd rfl (Or.inl rfl)) (fun _ _ _ _ _ => pts_nil) (fun _ _ _ _ _ => (pe_call (ok__law_text T) (hr.mono (by decide)) (by rfl) T.f__law_text.g T.f__law_text.F.kp T.f__law_text.b .nil pass0 (pa_cons (pv 5) pa_nil))))))) (pss_cons (ps_if (PW.pt (pw_or (pt_cmpR op_neS (pe_call (ok_show_rule T) (hr.mono (by decide)) (by rfl) T.f_show_rule.g T.f_show_rule.F.kp T.f_show_rule.b .nil pass0 (pa_cons (pv 6) pa_nil)) (pv 7) (nomark _)) (pw_or1 (pt_cmpR (op_neT (α := (Int × (List (List Int)))) (by decide) (hu64 hr)) (pv 6) (pv 4) (nomark _))))) (pss_one (ps_ret pe_bl)) pss_nil) (pss_cons (ps_if (pt_cmpR (op_neT (α := (Int × (List (List Int)))) (by decide) (hu64 hr)) (pe_dget2 (hu_of hr) (pv 1) (pv 7) (pv 4) ⟨by rfl, by rfl, by rfl, by rfl⟩) (pv 4) (nomark _)) (pss_one (ps_ret pe_bl)) pss_nil) (pss_cons (ps_dput (hu_of hr) (pv 1) (pv 7) (pv 4) (by rfl)) (pss_cons (ps_set (i := 8) nd rfl (by first | exact Or.inl rfl | exact Or.inr rfl) (pe_call (ok_read_rule T) (hr.mono (by decide)) (by rfl) T.f_read_rule.g T.f_read_rule.F.kp T.f_read_rule.b .nil pass0 (pa_cons (pv 7) pa_nil))) (pss_cons (ps_if (PW.pt (pw_or (pt_cmpR (op_neT (α := (Int × (List (List Int)))) (by decide) (hu64 hr)) (pv 8) (pv 4) (nomark _)) (pw_or1 (pt_not (pt_val (pe_callB (r := rIsi K) call_isi (by rfl) T.z_isinstance (by decide +kernel) (pa_cons (pv 8) (pa_cons (pe_bltn (v := .ty "tuple") (by rfl) T.z_tuple (by decide +kernel) rfl) pa_nil)))))))) (pss_one (ps_ret pe_bl)) pss_nil) (pss_cons (ps_expr (pe_bm PySem.F.plainAttrs_list PySem.F.slot_list_append PySem.F.type_list_append mt_append (pe_ix (r := rIxT K) ix_tup (pv 8) pe_int (fun _ _ => rfl)) (pa_cons (pe_lst (pa_cons pe_int pa_nil)) pa_nil))) (pss_cons (ps_for PassesOwn.never rfl (pi_list (pe_ix (r := rIxT K) ix_tup (pv 8) pe_int (fun _ _ => rfl))) (pg_name (i := 5) nd rfl (by first | exact Or.inl rfl | exact Or.inr rfl)) (pss_one (ps_expr (pe_bm PySem.F.plainAttrs_list PySem.F.slot_list_append PySem.F.type_list_append mt_append (pv 5) (pa_cons pe_int pa_nil))))) (pss_cons (ps_set (i := 9) nd rfl (by first | exact Or.inl rfl | exact Or.inr rfl) (pe_call (ok__law_number T) (hr.mono (by decide)) (by rfl) T.f__law_number.g T.f__law_number.F.kp T.f__law_number.b .nil pass0 (pa_cons (pe_call (ok__law_mixed T) (hr.mono (by decide)) (by rfl) T.f__law_mixed.g T.f__law_mixed.F.kp T.f__law_mixed.b .nil pass0 (pa_cons (pv 3) (pa_cons pe_int pa_nil))) (pa_cons pe_int pa_nil)))) (pss_cons (ps_set (i := 7) nd rfl (by first | exact Or.inl rfl | exact Or.inr rfl) (pe_call (ok__law_text T) (hr.mono (by decide)) (by rfl) T.f__law_text.g T.f__law_text.F.kp T.f__law_text.b .nil pass0 (pa_cons (pe_call (ok__law_figures T) (hr.mono (by decide)) (by rfl) T.f__law_figures.g T.f__law_figures.F.kp T.f__law_figures.b .nil pass0 (pa_cons (pe_ix (r := rIxT K) ix_tup (pv 4) pe_int (fun _ _ => rfl)) (pa_cons (pv 9) pa_nil))) pa_nil))) (pss_cons (ps_if (PW.pt (pw_or (pt_cmpR op_neS (pe_call (ok_show_number T) (hr.mono (by decide)) (by rfl) T.f_show_number.g T.f_show_number.F.kp T.f_show_number.b .nil pass0 (pa_cons (pe_ix (r := rIxT K) ix_tup (pv 4) pe_int (fun _ _ => rfl)) (pa_cons (pv 9) pa_nil))) (pv 7) (nomark _)) (pw_or1 (pt_cmp (pc_neI (pe_call (ok_read_number T) (hr.mono (by decide)) (by rfl) T.f_read_number.g T.f_read_number.F.kp T.f_read_number.b .nil pass0 (pa_cons (pe_ix (r := rIxT K) ix_tup (pv 4) pe_int (fun _ _ => rfl)) (pa_cons (pv 7) pa_nil))) (pv 9)))))) (pss_one (ps_ret pe_bl)) pss_nil) (pss_one (ps_if (pt_cmpR (op_neT (α := (Int × (List (List Int)))) (by decide) (hu64 hr)) (pe_call (ok_read_rule T) (hr.mono (by decide)) (by rfl) T.f_read_rule.g T.f_read_rule.F.kp T.f_read_rule.b .nil pass0 (pa_cons (pe_call (ok_show_rule T) (hr.mono (by decide)) (by rfl) T.f_show_rule.g T.f_show_rule.F.kp T.f_show_rule.b .nil pass0 (pa_cons (pv 4) pa_nil)) pa_nil)) (pv 4) (nomark _)) (pss_one (ps_ret pe_bl)) pss_nil))))))))))))))))) (pss_one (ps_ret pe_bl)))), ?_⟩
  rw [law] at hm
  refine x_start (σ' := ([some (.ref a0), none, none, none, none, none, none, none, none, none] : L2.St)) (by with_unfolding_all rfl) ?_
  obtain ⟨F0, hF0⟩ : ∃ F : Hp, F = fun _ => none := ⟨_, rfl⟩
  have s0 : Sub F0 H := fun a o e => by rw [hF0] at e; cases e
  have G0 : Gr NA F0 H F0 H := Gr.refl s0
  with_reducible refine x_seq ?_
  with_reducible refine x_asg ?_
  refine fun p1 np1 => ?_
  have g1 := Gr.newO (o := .dK []) G0.sub np1
  have o1 := OwO.new (o := .dK []) G0 np1
  have G1 := G0.step g1
  with_reducible refine x_gnE (σ' := ([some (.ref a0), some (.ref p1), none, none, none, none, none, none, none, none] : L2.St)) (by with_unfolding_all rfl) ?_
  with_reducible refine x_seq ?_
  with_reducible refine x_for ?_
  with_reducible refine x_rng1 ?_
  with_reducible refine x_cons ?_
  with_reducible refine x_cb ?_
  with_reducible refine x_cons ?_
  with_reducible refine x_c ?_
  with_reducible refine x_cons ?_
  with_reducible refine x_cb ?_
  with_reducible refine x_cons ?_
  with_reducible refine x_cb ?_
  with_reducible refine x_cons ?_
  refine ⟨_, rfl, ?_⟩
  refine ⟨_, _, rfl, .inl (SqL_gr hS G1), ?_⟩
  rw [List.length_map]
  with_reducible refine x_cons ?_
  with_reducible refine x_c ?_
  refine ⟨_, _, rfl, ?_⟩
  refine ⟨_, _, rfl, ?_⟩
  obtain ⟨c1, hm⟩ := guardp hm
  refine ⟨_, rfl, c1.lo, c1.hi, ?_⟩
  refine for_rng (lo := 0) (hi := (if (if (60 : Int) < (ns.length : Int) then (60 : Int) else (ns.length : Int)) > (8 : Int) then (if (60 : Int) < (ns.length : Int) then (60 : Int) else (ns.length : Int)) else (8 : Int))) (by rw [Int.sub_zero]) (fun (ts1 : List Int) σ H1 => ∃ (F1 : Hp) (x1 : (List (Str × (Int × (List (List Int)))))) (p2 : Addr) (us1 : List (Key × V)) (y1 : Option V) (y2 : Option V) (y3 : Option V) (y4 : Option V) (y5 : Option V) (y6 : Option V) (y7 : Option V) (y8 : Option V), forK (law_b1 ns) ts1 x1 (law_e2) = some true ∧ Sub (F0) F1 ∧ Gr NA F0 H F1 H1 ∧ OwO H F1 H1 p2 (.dK us1) ∧ RsK keyS F1 us1 x1 ∧ σ = [some (.ref a0), some (.ref p2), y4, y1, y7, y6, y3, y8, y2, y5]) ⟨F0, ([] : (List (Str × (Int × (List (List Int)))))), _, _, _, _, _, _, _, _, _, _, hm, (Sub.refl _), G1, o1, (RsK_nil (key := keyS)), rfl⟩ (fun t1 ts2 σ H1 hW => ?_) (fun σ H1 hW => ?_)
  · skip
    obtain ⟨F1, x1, p2, us1, y1, y2, y3, y4, y5, y6, y7, y8, hm, s1, G2, o2, fr1, rfl⟩ := hW
    obtain ⟨next1, hnx1⟩ : ∃ nx, nx = fun s => forK (law_b1 ns) ts2 s (law_e2) := ⟨_, rfl⟩
    have hm : (law_b1 ns) x1 t1 next1 = some true := by rw [hnx1]; exact forK_c hm
    rw [law_b1] at hm
    with_reducible refine x_gnE (σ' := ([some (.ref a0), some (.ref p2), some (.int t1), y1, y7, y6, y3, y8, y2, y5] : L2.St)) (by with_unfolding_all rfl) ?_
    with_reducible refine x_seq ?_
    with_reducible refine x_asg ?_
    with_reducible refine x_cb ?_
    with_reducible refine x_cons ?_
    with_reducible refine x_call ?_
    with_reducible refine x_cons ?_
    refine ⟨_, rfl, ?_⟩
    with_reducible refine x_cons ?_
    refine ⟨_, rfl, ?_⟩
    obtain ⟨r1, hr1, hm⟩ := bindp hm
    refine ⟨_, _, _, ns, t1, r1, rfl, G2.sub, ⟨_, rfl, SqL_gr hS G2⟩, (.int _), hr1, fun N1 H2 v2 g2 d1  => ?_⟩
    have G3 := G2.step g2
    have o3 := o2.step g2
    obtain rfl := int_of d1
    refine ⟨_, rfl, ?_⟩
    with_reducible refine x_gnE (σ' := ([some (.ref a0), some (.ref p2), some (.int t1), some (.int (if r1 < 0 then -r1 else r1)), y7, y6, y3, y8, y2, y5] : L2.St)) (by with_unfolding_all rfl) ?_
    with_reducible refine x_seq ?_
    with_reducible refine x_asg ?_
    with_reducible refine x_call ?_
    with_reducible refine x_cons ?_
    with_reducible refine x_call ?_
    with_reducible refine x_cons ?_
    refine ⟨_, rfl, ?_⟩
    with_reducible refine x_cons ?_
    refine ⟨_, rfl, ?_⟩
    obtain ⟨r2, hr2, hm⟩ := bindp hm
    refine ⟨_, _, _, (if r1 < 0 then -r1 else r1), t1, r2, rfl, G3.sub, (.int _), (.int _), hr2, fun N2 H3 v3 g3 d2  => ?_⟩
    have G4 := G3.step g3
    have o4 := o3.step g3
    obtain rfl := int_of d2
    obtain ⟨r3, hr3, hm⟩ := bindp hm
    refine ⟨_, _, r2, r3, rfl, G4.sub, (.int _), hr3, fun N3 H4 v4 g4 d3  => ?_⟩
    have G5 := G4.step g4
    have o5 := o4.step g4
    obtain ⟨a1, v5, v6, rfl, fa1, d4, d5⟩ := tup2_of d3
    obtain rfl := int_of d4
    obtain ⟨a2, us2, rfl, fa2, fr2⟩ := lst_of d5
    with_reducible refine x_gnE (σ' := ([some (.ref a0), some (.ref p2), some (.int t1), some (.int (if r1 < 0 then -r1 else r1)), some (.ref a1), y6, y3, y8, y2, y5] : L2.St)) (by with_unfolding_all rfl) ?_
    with_reducible refine x_seq ?_
    with_reducible refine x_asg ?_
    with_reducible refine x_tup ?_
    with_reducible refine x_cons ?_
    with_reducible refine x_op ?_
    refine ⟨_, rfl, ?_⟩
    refine ⟨_, _, _, _, rfl, rfl, .inl (.inl (G5.sub _ _ fa1)), atI_nat (j := 0) rfl, ?_⟩
    with_reducible refine x_cons ?_
    with_reducible refine x_lc ?_
    with_reducible refine x_iter ?_
    with_reducible refine x_op ?_
    refine ⟨_, rfl, ?_⟩
    refine ⟨_, _, _, _, rfl, rfl, .inl (.inl (G5.sub _ _ fa1)), atI_nat (j := 1) rfl, ?_⟩
    refine ⟨_, rfl, ⟨_, .inl (.inl (G5.sub _ _ fa2))⟩, fun p3 np2 => ?_⟩
    have g5 := Gr.newO (o := .lst []) G5.sub np2
    have o6 := Ow.new (us := []) G5 np2
    have ne1 := o5.ne_new np2
    have G6 := G5.step g5
    have o7 := o5.step g5
    refine lc_lst (α := (List Int)) (fun (ts3 : List (List Int)) H5 => ∃ (F2 : Hp) (x3 : List (List Int)) (us4 : List V), forK (law_c3) ts3 x3 (law_k4 r3 x1 r1 next1) = some true ∧ Sub (N3) F2 ∧ Gr NA F0 H F2 H5 ∧ Ow H F2 H5 p3 us4 ∧ Rs F2 us4 x3 ∧ OwO H F2 H5 p2 (.dK us1)) (Rs_mono (Sub.refl _) fr2) ⟨N3, ([] : List (List Int)), _, hm, (Sub.refl _), G6, o6, Rs_nil, o7⟩ (fun _ _ h => ?_) (fun t2 ts4 v7 H1 hv2 hW => ?_) (fun H1 hW => ?_)
    · obtain ⟨F9, _, _, _, s9, G9, _⟩ := h
      exact G9.sub _ _ (s9 _ _ ((Sub.refl _) _ _ fa2))
    · skip
      obtain ⟨F2, x3, us4, hm, s2, G7, o8, fr3, o9⟩ := hW
      obtain ⟨next2, hnx2⟩ : ∃ nx, nx = fun s => forK (law_c3) ts4 s (law_k4 r3 x1 r1 next1) := ⟨_, rfl⟩
      have hm : (law_c3) x3 t2 next2 = some true := by rw [hnx2]; exact forK_c hm
      rw [law_c3] at hm
      obtain ⟨a3, us5, rfl, fa3, fr4⟩ := lst_of hv2
      with_reducible refine x_gnE (σ' := ([some (.ref a0), some (.ref p2), some (.int t1), some (.int (if r1 < 0 then -r1 else r1)), some (.ref a1), some (.ref a3), y3, y8, y2, y5] : L2.St)) (by with_unfolding_all rfl) ?_
      refine ⟨rfl, ?_⟩
      with_reducible refine x_yes ?_
      refine iteT ?_
      with_reducible refine x_cb ?_
      with_reducible refine x_cons ?_
      refine ⟨_, rfl, ?_⟩
      refine ⟨_, _, rfl, .inl (.inl (.inl ((s2.trans G7.sub) _ _ fa3))), fun p4 np3 => ?_⟩
      have g6 := Gr.newO (o := .lst us5) G7.sub np3
      have o10 := Ow.new (us := us5) G7 np3
      have ne2 := o8.ne_new np3
      have ne3 := o9.ne_new np3
      have G8 := G7.step g6
      have o11 := o8.step g6
      have o12 := o9.step g6
      obtain ⟨F3, G9, ex1, fa4, nf1⟩ := o10.frzE G8
      have o13 := o11.frzN (Ne.symm (Ne.symm ne2)) nf1
      have o14 := o12.frzN (Ne.symm (Ne.symm ne3)) nf1
      have fr5 := Rs_mono ex1 (Rs_mono s2 fr4)
      obtain ⟨c2, hm⟩ := guardp hm
      have G10 := o13.mutG (o := .lst (us4 ++ [(.ref p4)])) G9
      have o15 := o13.mut (ws := us4 ++ [(.ref p4)])
      have fr6 : Rs (α := (List Int)) (F3) (us4 ++ [(.ref p4)]) (x3 ++ [t2]) := Rs_snoc (Rs_mono ex1 fr3) (mk_lst ((Sub.refl _) _ _ fa4) (Rs_mono (Sub.refl _) fr5))
      have o16 := o14.other (ws := us4 ++ [(.ref p4)]) (Ne.symm ne1)
      rw [hnx2] at hm
      exact ⟨_, o13.at_, szl (by rw [Rs_len (Rs_mono ex1 fr3)]; exact c2), ⟨F3, (x3 ++ [t2]), _, hm, (s2.trans ex1), G10, o15, fr6, o16⟩⟩
    · skip
      obtain ⟨F2, x3, us4, hm, s3, G11, o17, fr7, o18⟩ := hW
      have hm : (law_k4 r3 x1 r1 next1) x3 = some true := forK_n hm
      rw [law_k4] at hm
      obtain ⟨F4, G12, ex2, fa5, nf2⟩ := o17.frzE G11
      have o19 := o18.frzN (Ne.symm (Ne.symm ne1)) nf2
      have fr8 := Rs_mono ex2 fr7
      refine ⟨szle (show 2 ≤ 16777216 from by decide), fun p5 np4 => ?_⟩
      obtain ⟨F5, g7, fa6⟩ := Gr.newE (o := .tup [(.int (r3).1), (.ref p3)]) G12.sub np4
      have G13 := G12.step g7
      have o20 := o19.step g7
      with_reducible refine x_gnE (σ' := ([some (.ref a0), some (.ref p2), some (.int t1), some (.int (if r1 < 0 then -r1 else r1)), some (.ref a1), y6, some (.ref p5), y8, y2, y5] : L2.St)) (by with_unfolding_all rfl) ?_
      with_reducible refine x_seq ?_
      with_reducible refine x_asg ?_
      with_reducible refine x_m1 ?_
      with_reducible refine x_c ?_
      refine ⟨⟨_, rfl⟩, ?_⟩
      with_reducible refine x_op ?_
      with_reducible refine x_lst ?_
      with_reducible refine x_cons ?_
      with_reducible refine x_cb ?_
      with_reducible refine x_cons ?_
      with_reducible refine x_op ?_
      refine ⟨_, rfl, ?_⟩
      refine ⟨_, _, _, _, rfl, rfl, .inl (.inl ((((s3.trans ex2).trans g7.ex).trans G13.sub) _ _ fa1)), atI_nat (j := 0) rfl, ?_⟩
      obtain ⟨c3, hm⟩ := guardp hm
      refine ⟨_, rfl, c3, ?_⟩
      refine ⟨szle (show 1 ≤ 16777216 from by decide), fun p6 np5 => ?_⟩
      have fr9 : Rs (α := Str) (F5) [(.str (Str.ofString (toString (r3).1)))] ([(Str.ofString (toString (r3).1))] : (List Str)) := (Rs_cons (.str _) Rs_nil)
      have g8 := Gr.newO (o := .lst [(.str (Str.ofString (toString (r3).1)))]) G13.sub np5
      have o21 := Ow.new (us := [(.str (Str.ofString (toString (r3).1)))]) G13 np5
      have ne4 := o20.ne_new np5
      have G14 := G13.step g8
      have o22 := o20.step g8
      with_reducible refine x_lc ?_
      with_reducible refine x_iter ?_
      with_reducible refine x_op ?_
      refine ⟨_, rfl, ?_⟩
      refine ⟨_, _, _, _, rfl, rfl, .inl (.inl ((((s3.trans ex2).trans g7.ex).trans G14.sub) _ _ fa1)), atI_nat (j := 1) rfl, ?_⟩
      refine ⟨_, rfl, ⟨_, .inl (.inl ((((s3.trans ex2).trans g7.ex).trans G14.sub) _ _ fa2))⟩, fun p7 np6 => ?_⟩
      have g9 := Gr.newO (o := .lst []) G14.sub np6
      have o23 := Ow.new (us := []) G14 np6
      have ne5 := o22.ne_new np6
      have ne6 := o21.ne_new np6
      have G15 := G14.step g9
      have o24 := o22.step g9
      have o25 := o21.step g9
      refine lc_lst (α := (List Int)) (fun (ts5 : List (List Int)) H6 => ∃ (F6 : Hp) (x5 : List Str) (us7 : List V), forK (law_c5) ts5 x5 (law_k6 r3 x3 x1 r1 next1) = some true ∧ Sub (F5) F6 ∧ Gr NA F0 H F6 H6 ∧ Ow H F6 H6 p7 us7 ∧ Rs F6 us7 x5 ∧ OwO H F6 H6 p2 (.dK us1) ∧ Ow H F6 H6 p6 [(.str (Str.ofString (toString (r3).1)))]) (Rs_mono ((s3.trans ex2).trans g7.ex) fr2) ⟨F5, ([] : List Str), _, hm, (Sub.refl _), G15, o23, Rs_nil, o24, o25⟩ (fun _ _ h => ?_) (fun t3 ts6 v8 H1 hv3 hW => ?_) (fun H1 hW => ?_)
      · obtain ⟨F9, _, _, _, s9, G9, _⟩ := h
        exact G9.sub _ _ (s9 _ _ (((s3.trans ex2).trans g7.ex) _ _ fa2))
      · skip
        obtain ⟨F6, x5, us7, hm, s4, G16, o26, fr10, o27, o28⟩ := hW
        obtain ⟨next3, hnx3⟩ : ∃ nx, nx = fun s => forK (law_c5) ts6 s (law_k6 r3 x3 x1 r1 next1) := ⟨_, rfl⟩
        have hm : (law_c5) x5 t3 next3 = some true := by rw [hnx3]; exact forK_c hm
        rw [law_c5] at hm
        obtain ⟨a4, us8, rfl, fa7, fr11⟩ := lst_of hv3
        with_reducible refine x_gnE (σ' := ([some (.ref a0), some (.ref p2), some (.int t1), some (.int (if r1 < 0 then -r1 else r1)), some (.ref a1), some (.ref a4), some (.ref p5), y8, y2, y5] : L2.St)) (by with_unfolding_all rfl) ?_
        refine ⟨rfl, ?_⟩
        with_reducible refine x_yes ?_
        refine iteT ?_
        with_reducible refine x_call ?_
        with_reducible refine x_cons ?_
        refine ⟨_, rfl, ?_⟩
        obtain ⟨r4, hr4, hm⟩ := bindp hm
        refine ⟨_, _, t3, r4, rfl, G16.sub, (mk_lst (s4 _ _ fa7) (Rs_mono s4 fr11)), hr4, fun N4 H7 v9 g10 d6  => ?_⟩
        have G17 := G16.step g10
        have o29 := o26.step g10
        have o30 := o27.step g10
        have o31 := o28.step g10
        obtain rfl := str_of d6
        obtain ⟨c4, hm⟩ := guardp hm
        have G18 := o29.mutG (o := .lst (us7 ++ [(.str r4)])) G17
        have o32 := o29.mut (ws := us7 ++ [(.str r4)])
        have fr12 : Rs (α := Str) (N4) (us7 ++ [(.str r4)]) (x5 ++ [r4]) := Rs_snoc (Rs_mono g10.ex fr10) (.str _)
        have o33 := o30.other (ws := us7 ++ [(.str r4)]) (Ne.symm ne5)
        have o34 := o31.other (ws := us7 ++ [(.str r4)]) (Ne.symm ne6)
        rw [hnx3] at hm
        exact ⟨_, o29.at_, szl (by rw [Rs_len (Rs_mono g10.ex fr10)]; exact c4), ⟨N4, (x5 ++ [r4]), _, hm, (s4.trans g10.ex), G18, o32, fr12, o33, o34⟩⟩
      · skip
        obtain ⟨F6, x5, us7, hm, s5, G19, o35, fr13, o36, o37⟩ := hW
        have hm : (law_k6 r3 x3 x1 r1 next1) x5 = some true := forK_n hm
        rw [law_k6] at hm
        obtain ⟨c5, hm⟩ := guardp hm
        refine ⟨_, _, _, _, rfl, rfl, o37.at_, o35.at_, szle (by rw [Rs_len (Rs_mono s5 fr9), Rs_len fr13]; exact c5), fun p8 np7 => ?_⟩
        have fr14 : Rs (α := Str) (F6) ([(.str (Str.ofString (toString (r3).1)))] ++ us7) (([(Str.ofString (toString (r3).1))] : (List Str)) ++ x5) := Rs_app (Rs_mono s5 fr9) fr13
        have g11 := Gr.newO (o := .lst ([(.str (Str.ofString (toString (r3).1)))] ++ us7)) G19.sub np7
        have o38 := Ow.new (us := ([(.str (Str.ofString (toString (r3).1)))] ++ us7)) G19 np7
        have ne7 := o36.ne_new np7
        have G20 := G19.step g11
        have o39 := o36.step g11
        obtain ⟨c6, hm⟩ := guardp hm
        refine ⟨_, _, _, rfl, rfl, .inl (.inl (.inl (join_at o38.at_ fr14))), c6, ?_⟩
        with_reducible refine x_gnE (σ' := ([some (.ref a0), some (.ref p2), some (.int t1), some (.int (if r1 < 0 then -r1 else r1)), some (.ref a1), y6, some (.ref p5), some (.str (Txt.join (" " : Str) (([(Str.ofString (toString (r3).1))] : (List Str)) ++ x5))), y2, y5] : L2.St)) (by with_unfolding_all rfl) ?_
        with_reducible refine x_seq ?_
        with_reducible refine x_if ?_
        with_reducible refine x_or ?_
        with_reducible refine x_test ?_
        with_reducible refine x_op ?_
        with_reducible refine x_call ?_
        with_reducible refine x_cons ?_
        refine ⟨_, rfl, ?_⟩
        obtain ⟨r5, hr5, hm⟩ := bindp hm
        refine ⟨_, _, ((r3).1, x3), r5, rfl, G20.sub, (mk_tup2 (s5 _ _ fa6) (.int _) (mk_lst ((g7.ex.trans s5) _ _ fa5) (Rs_mono (g7.ex.trans s5) fr8))), hr5, fun N5 H8 v10 g12 d7  => ?_⟩
        have G21 := G20.step g12
        have o40 := o39.step g12
        obtain rfl := str_of d7
        refine ⟨_, rfl, ?_⟩
        refine neS_use ?_
        refine ⟨_, rfl, ?_⟩
        refine ifD (fun hc => ?_) (fun hc => ?_)
        · replace hm := itep hm hc
          refine iteT ?_
          with_reducible refine x_ret ?_
          with_reducible refine x_c ?_
          exact ret_true hm q
        · replace hm := iten hm (bF hc)
          with_reducible refine x_test ?_
          refine useEv (.bl (!(eqT ((r3).1, x3) r3))) (by exact (ev_neqVar (α := (Int × (List (List Int)))) (Evl.ev_var rfl) (Evl.ev_var rfl) (RD.mono G21.sub (mk_tup2 ((s5.trans g12.ex) _ _ fa6) (.int _) (mk_lst (((g7.ex.trans s5).trans g12.ex) _ _ fa5) (Rs_mono ((g7.ex.trans s5).trans g12.ex) fr8)))) (RD.mono G21.sub (mk_tup2 (((((s3.trans ex2).trans g7.ex).trans s5).trans g12.ex) _ _ fa1) (.int _) (mk_lst (((((s3.trans ex2).trans g7.ex).trans s5).trans g12.ex) _ _ fa2) (Rs_mono ((((s3.trans ex2).trans g7.ex).trans s5).trans g12.ex) fr2)))))) (fun H9 e1 => ?_)
          have g13 := gr_ex G21.sub e1
          have G22 := G21.step g13
          have o41 := o40.step g13
          refine ⟨_, rfl, ?_⟩
          refine ifD (fun hc => ?_) (fun hc => ?_)
          · replace hm := itep hm hc
            with_reducible refine x_ret ?_
            with_reducible refine x_c ?_
            exact ret_true hm q
          · replace hm := iten hm (bF hc)
            with_reducible refine x_next ?_
            with_reducible refine x_seq ?_
            with_reducible refine x_if ?_
            with_reducible refine x_test ?_
            with_reducible refine x_op ?_
            with_reducible refine x_dget2 ?_
            refine ⟨_, rfl, ?_⟩
            refine ⟨_, rfl, isD_k o41.at_, ?_⟩
            refine ⟨_, rfl, ?_⟩
            refine ⟨_, rfl, ?_⟩
            refine ⟨_, DGet.k (k := keyS (Txt.join (" " : Str) (([(Str.ofString (toString (r3).1))] : (List Str)) ++ x5))) o41.at_, ?_⟩
            have d8 := RsK_getD keyS_inj (k := (Txt.join (" " : Str) (([(Str.ofString (toString (r3).1))] : (List Str)) ++ x5))) (d := r3) (mk_tup2 (((((s3.trans ex2).trans g7.ex).trans s5).trans g12.ex) _ _ fa1) (.int _) (mk_lst (((((s3.trans ex2).trans g7.ex).trans s5).trans g12.ex) _ _ fa2) (Rs_mono ((((s3.trans ex2).trans g7.ex).trans s5).trans g12.ex) fr2))) (RsK_mono g12.ex (RsK_mono s5 (RsK_mono g7.ex (RsK_mono ex2 (RsK_mono s3 (RsK_mono g4.ex (RsK_mono g3.ex (RsK_mono g2.ex fr1))))))))
            generalize (valV us1 (keyS (Txt.join (" " : Str) (([(Str.ofString (toString (r3).1))] : (List Str)) ++ x5)))).getD (.ref a1) = v11 at d8 ⊢
            obtain ⟨a5, v12, v13, rfl, fa8, d9, d10⟩ := tup2_of d8
            obtain rfl := int_of d9
            obtain ⟨a6, us9, rfl, fa9, fr15⟩ := lst_of d10
            refine ⟨_, rfl, ?_⟩
            refine ⟨_, ((getT x1 (Txt.join (" " : Str) (([(Str.ofString (toString (r3).1))] : (List Str)) ++ x5))).getD r3), r3, Sub.refl _, (RD.mono G22.sub (mk_tup2 ((Sub.refl _) _ _ fa8) (.int _) (mk_lst ((Sub.refl _) _ _ fa9) (Rs_mono (Sub.refl _) fr15)))), (RD.mono G22.sub (mk_tup2 (((((s3.trans ex2).trans g7.ex).trans s5).trans g12.ex) _ _ fa1) (.int _) (mk_lst (((((s3.trans ex2).trans g7.ex).trans s5).trans g12.ex) _ _ fa2) (Rs_mono ((((s3.trans ex2).trans g7.ex).trans s5).trans g12.ex) fr2)))), ?_⟩
            refine ⟨_, rfl, ?_⟩
            refine ifD (fun hc => ?_) (fun hc => ?_)
            · replace hm := itep hm hc
              with_reducible refine x_ret ?_
              with_reducible refine x_c ?_
              exact ret_true hm q
            · replace hm := iten hm (bF hc)
              with_reducible refine x_next ?_
              with_reducible refine x_seq ?_
              with_reducible refine x_dput ?_
              refine ⟨_, rfl, ?_⟩
              refine ⟨_, rfl, ?_⟩
              refine ⟨_, rfl, ?_⟩
              obtain ⟨c7, hm⟩ := guardp hm
              refine ⟨_, _, rfl, DPut.k (k := keyS (Txt.join (" " : Str) (([(Str.ofString (toString (r3).1))] : (List Str)) ++ x5))) o41.at_ (szl (by rw [RsK_len (RsK_mono g12.ex (RsK_mono s5 (RsK_mono g7.ex (RsK_mono ex2 (RsK_mono s3 (RsK_mono g4.ex (RsK_mono g3.ex (RsK_mono g2.ex fr1))))))))]; exact c7)), ?_⟩
              have G23 := o41.mutG (o' := .dK (putK us1 (keyS (Txt.join (" " : Str) (([(Str.ofString (toString (r3).1))] : (List Str)) ++ x5))) (.ref a1))) G22
              have o42 := o41.mut (o' := .dK (putK us1 (keyS (Txt.join (" " : Str) (([(Str.ofString (toString (r3).1))] : (List Str)) ++ x5))) (.ref a1)))
              have fr16 := RsK_put keyS_inj (k := (Txt.join (" " : Str) (([(Str.ofString (toString (r3).1))] : (List Str)) ++ x5))) (mk_tup2 (((((s3.trans ex2).trans g7.ex).trans s5).trans g12.ex) _ _ fa1) (.int _) (mk_lst (((((s3.trans ex2).trans g7.ex).trans s5).trans g12.ex) _ _ fa2) (Rs_mono ((((s3.trans ex2).trans g7.ex).trans s5).trans g12.ex) fr2))) (RsK_mono g12.ex (RsK_mono s5 (RsK_mono g7.ex (RsK_mono ex2 (RsK_mono s3 (RsK_mono g4.ex (RsK_mono g3.ex (RsK_mono g2.ex fr1))))))))
              with_reducible refine x_seq ?_
              with_reducible refine x_asg ?_
              with_reducible refine x_call ?_
              with_reducible refine x_cons ?_
              refine ⟨_, rfl, ?_⟩
              obtain ⟨r6, hr6, hm⟩ := bindp hm
              refine ⟨_, _, (Txt.join (" " : Str) (([(Str.ofString (toString (r3).1))] : (List Str)) ++ x5)), r6, rfl, G23.sub, (.str _), hr6, fun N6 H10 v14 g14 d11 => ?_⟩
              obtain ⟨a7, v15, v16, rfl, fa10, d12, d13⟩ := NR_tup2_of d11
              obtain ⟨a8, us10, rfl, fa11, fr17, n01⟩ := NR_lst_of (id d13)
              obtain ⟨c8, hm⟩ := guardp hm
              obtain ⟨as1, o43, fz1, kt1⟩ := OwL.ofP G23 g14 d13 c8
              have ne8 := o42.ne_fz fz1
              have g15 := g14.eraseL G23.sub fz1
              have G24 := G23.step g15
              have o44 := o42.step g15
              have fa12 := kt1 _ _ fa10
              obtain rfl := int_of (NR_r d12)
              with_reducible refine x_gnE (σ' := ([some (.ref a0), some (.ref p2), some (.int t1), some (.int (if r1 < 0 then -r1 else r1)), some (.ref a1), y6, some (.ref p5), some (.str (Txt.join (" " : Str) (([(Str.ofString (toString (r3).1))] : (List Str)) ++ x5))), some (.ref a7), y5] : L2.St)) (by with_unfolding_all rfl) ?_
              with_reducible refine x_seq ?_
              with_reducible refine x_if ?_
              with_reducible refine x_or ?_
              with_reducible refine x_test ?_
              refine useEv (.bl (!(eqT ((r6).1, (r6).2) r3))) (by exact (ev_neqVar (α := (Int × (List (List Int)))) (Evl.ev_var rfl) (Evl.ev_var rfl) (mk_tup2 (G24.sub _ _ fa12) (RD.mono G24.sub (.int _)) o43.rd) (RD.mono G24.sub (mk_tup2 ((((((s3.trans ex2).trans g7.ex).trans s5).trans g12.ex).trans g15.ex) _ _ fa1) (.int _) (mk_lst ((((((s3.trans ex2).trans g7.ex).trans s5).trans g12.ex).trans g15.ex) _ _ fa2) (Rs_mono (((((s3.trans ex2).trans g7.ex).trans s5).trans g12.ex).trans g15.ex) fr2)))))) (fun H11 e2 => ?_)
              have g16 := gr_ex G24.sub e2
              have G25 := G24.step g16
              have o45 := o44.step g16
              have o46 := o43.step g16
              refine ⟨_, rfl, ?_⟩
              refine ifD (fun hc => ?_) (fun hc => ?_)
              · replace hm := itep hm hc
                refine iteT ?_
                with_reducible refine x_ret ?_
                with_reducible refine x_c ?_
                exact ret_true hm q
              · replace hm := iten hm (bF hc)
                with_reducible refine x_not ?_
                with_reducible refine x_B ?_
                with_reducible refine x_cb ?_
                with_reducible refine x_cons ?_
                refine ⟨_, rfl, ?_⟩
                refine ⟨_, _, _, _, true, rfl, ClsV.ty _, TyX.base (TyOf.tup (G25.sub _ _ fa12)), kit_ty (by decide +kernel), ?_⟩
                refine ⟨_, rfl, ?_⟩
                refine iteF ?_
                with_reducible refine x_next ?_
                with_reducible refine x_seq ?_
                with_reducible refine x_drop ?_
                with_reducible refine x_bm ?_
                with_reducible refine x_op ?_
                refine ⟨_, rfl, ?_⟩
                refine ⟨_, _, _, _, rfl, rfl, .inl (.inl (G25.sub _ _ fa12)), atI_nat (j := 1) rfl, ?_⟩
                refine ⟨.inl ⟨rfl, _, .inl (.inl o46.at_)⟩, ?_⟩
                with_reducible refine x_cons ?_
                with_reducible refine x_lst ?_
                with_reducible refine x_cons ?_
                with_reducible refine x_c ?_
                refine ⟨szle (show 1 ≤ 16777216 from by decide), fun p9 np8 => ?_⟩
                have fr18 : Rs (α := Int) ((eraseL N6 (a8 :: as1))) [(.int 0)] ([(0 : Int)] : (List Int)) := (Rs_cons (.int _) Rs_nil)
                have g17 := Gr.newO (o := .lst [(.int 0)]) G25.sub np8
                have o47 := Ow.new (us := [(.int 0)]) G25 np8
                have ne9 := o45.ne_new np8
                have ne10 := o46.ne_new np8
                have G26 := G25.step g17
                have o48 := o45.step g17
                have o49 := o46.step g17
                obtain ⟨c9, hm⟩ := guardp hm
                refine ⟨_, _, _, rfl, rfl, o49.at_, szl (by rw [List.length_map, o49.len]; exact c9), ?_⟩
                have ne11 := OwL.ne_push ne8 (Ne.symm (Ne.symm ne9))
                have G27 := o49.mutG (o := .lst ((as1.map V.ref) ++ [(.ref p9)])) (List.mem_cons_self) G26
                have o50 := o49.push o47 ne10 fr18
                have o51 := o48.other (ws := (as1.map V.ref) ++ [(.ref p9)]) (OwL.ne_it ne8 (List.mem_cons_self))
                with_reducible refine x_seq ?_
                with_reducible refine x_for ?_
                with_reducible refine x_iter ?_
                with_reducible refine x_op ?_
                refine ⟨_, rfl, ?_⟩
                refine ⟨_, _, _, _, rfl, rfl, .inl (.inl (G27.sub _ _ fa12)), atI_nat (j := 1) rfl, ?_⟩
                refine ⟨_, rfl, ⟨_, .inl (.inl o50.at_)⟩, ?_⟩
                refine for_ll (as := (as1 ++ [p9])) (fun (ts7 : List Nat) σ H12 => ∃ (F7 : Hp) (x6 : (List (List Int))) (y9 : Option V), forK (law_b7) ts7 x6 (law_e8 r1 r3 next1 x1 x5) = some true ∧ Sub ((eraseL N6 (a8 :: as1))) F7 ∧ Gr NA F0 H F7 H12 ∧ OwL H F7 H12 a8 (as1 ++ [p9]) x6 ∧ OwO H F7 H12 p2 (.dK (putK us1 (keyS (Txt.join (" " : Str) (([(Str.ofString (toString (r3).1))] : (List Str)) ++ x5))) (.ref a1))) ∧ p2 ∉ a8 :: (as1 ++ [p9]) ∧ σ = [some (.ref a0), some (.ref p2), some (.int t1), some (.int (if r1 < 0 then -r1 else r1)), some (.ref a1), y9, some (.ref p5), some (.str (Txt.join (" " : Str) (([(Str.ofString (toString (r3).1))] : (List Str)) ++ x5))), some (.ref a7), y5]) ⟨_, ((r6).2 ++ [([(0 : Int)] : (List Int))]), _, (by rw [o50.len]; exact hm), (Sub.refl _), G27, o50, o51, ne11, rfl⟩ (fun _ _ _ h => ?_) (fun t4 ts8 v17 σ H1 hv4 hW => ?_) (fun σ H1 hW => ?_)
                · obtain ⟨F7, x6, y9, _, s9, G9, q9, _⟩ := h
                  exact q9.at_
                · skip
                  obtain ⟨F7, x6, y9, hm, s6, G28, o52, o53, ne12, rfl⟩ := hW
                  obtain ⟨next4, hnx4⟩ : ∃ nx, nx = fun s => forK (law_b7) ts8 s (law_e8 r1 r3 next1 x1 x5) := ⟨_, rfl⟩
                  have hm : (law_b7) x6 t4 next4 = some true := by rw [hnx4]; exact forK_c hm
                  rw [law_b7] at hm
                  obtain ⟨x7, hx1, hm⟩ := bindp hm
                  with_reducible refine x_gnE (σ' := ([some (.ref a0), some (.ref p2), some (.int t1), some (.int (if r1 < 0 then -r1 else r1)), some (.ref a1), some (.ref v17), some (.ref p5), some (.str (Txt.join (" " : Str) (([(Str.ofString (toString (r3).1))] : (List Str)) ++ x5))), some (.ref a7), y5] : L2.St)) (by with_unfolding_all rfl) ?_
                  with_reducible refine x_drop ?_
                  with_reducible refine x_bm ?_
                  refine ⟨_, rfl, ?_⟩
                  refine ⟨.inl ⟨rfl, _, .inl (.inl (o52.item hv4 hx1))⟩, ?_⟩
                  with_reducible refine x_cons ?_
                  with_reducible refine x_c ?_
                  obtain ⟨c10, hm⟩ := guardp hm
                  refine ⟨_, _, _, rfl, rfl, (o52.item hv4 hx1), szl (by rw [List.length_map]; exact c10), ?_⟩
                  have hx2 := o52.set_get (y := (x7 ++ [(0 : Int)])) hv4
                  have G29 := o52.mutG (o := .lst (x7.map V.int ++ [(.int 0)])) (OwL.memA hv4) G28
                  have o54 := o52.put (us := x7.map V.int ++ [(.int 0)]) (y := (x7 ++ [(0 : Int)])) hv4 (by simp)
                  have o55 := o53.other (ws := x7.map V.int ++ [(.int 0)]) (OwL.ne_it ne12 (OwL.memA hv4))
                  rw [hnx4] at hm
                  exact ⟨F7, (x6.set t4 (x7 ++ [(0 : Int)])), _, hm, s6, G29, o54, o55, ne12, rfl⟩
                · skip
                  obtain ⟨F7, x6, y9, hm, s7, G30, o56, o57, ne13, rfl⟩ := hW
                  have hm : (law_e8 r1 r3 next1 x1 x5) x6 = some true := forK_n hm
                  rw [law_e8] at hm
                  with_reducible refine x_seq ?_
                  with_reducible refine x_asg ?_
                  with_reducible refine x_call ?_
                  with_reducible refine x_cons ?_
                  with_reducible refine x_call ?_
                  with_reducible refine x_cons ?_
                  refine ⟨_, rfl, ?_⟩
                  with_reducible refine x_cons ?_
                  with_reducible refine x_c ?_
                  obtain ⟨r7, hr7, hm⟩ := bindp hm
                  refine ⟨_, _, _, (if r1 < 0 then -r1 else r1), (30 : Int), r7, rfl, G30.sub, (.int _), (.int _), hr7, fun N7 H13 v18 g18 d14  => ?_⟩
                  have G31 := G30.step g18
                  have o58 := o56.step g18
                  have o59 := o57.step g18
                  obtain rfl := int_of d14
                  with_reducible refine x_cons ?_
                  with_reducible refine x_c ?_
                  obtain ⟨r8, hr8, hm⟩ := bindp hm
                  refine ⟨_, _, _, r7, (31 : Int), r8, rfl, G31.sub, (.int _), (.int _), hr8, fun N8 H14 v19 g19 d15  => ?_⟩
                  have G32 := G31.step g19
                  have o60 := o58.step g19
                  have o61 := o59.step g19
                  obtain rfl := int_of d15
                  with_reducible refine x_gnE (σ' := ([some (.ref a0), some (.ref p2), some (.int t1), some (.int (if r1 < 0 then -r1 else r1)), some (.ref a1), y9, some (.ref p5), some (.str (Txt.join (" " : Str) (([(Str.ofString (toString (r3).1))] : (List Str)) ++ x5))), some (.ref a7), some (.int r8)] : L2.St)) (by with_unfolding_all rfl) ?_
                  with_reducible refine x_seq ?_
                  with_reducible refine x_asg ?_
                  with_reducible refine x_call ?_
                  with_reducible refine x_cons ?_
                  with_reducible refine x_call ?_
                  with_reducible refine x_cons ?_
                  with_reducible refine x_op ?_
                  refine ⟨_, rfl, ?_⟩
                  refine ⟨_, _, _, _, rfl, rfl, .inl (.inl ((((((((((s3.trans ex2).trans g7.ex).trans s5).trans g12.ex).trans g15.ex).trans s7).trans g18.ex).trans g19.ex).trans G32.sub) _ _ fa1)), atI_nat (j := 0) rfl, ?_⟩
                  with_reducible refine x_cons ?_
                  refine ⟨_, rfl, ?_⟩
                  obtain ⟨r9, hr9, hm⟩ := bindp hm
                  refine ⟨_, _, _, (r3).1, r8, r9, rfl, G32.sub, (.int _), (.int _), hr9, fun N9 H15 v20 g20 d16  => ?_⟩
                  have G33 := G32.step g20
                  have o62 := o60.step g20
                  have o63 := o61.step g20
                  obtain ⟨a9, us11, rfl, fa13, fr19⟩ := lst_of d16
                  obtain ⟨r10, hr10, hm⟩ := bindp hm
                  refine ⟨_, _, r9, r10, rfl, G33.sub, (mk_lst ((Sub.refl _) _ _ fa13) (Rs_mono (Sub.refl _) fr19)), hr10, fun N10 H16 v21 g21 d17  => ?_⟩
                  have G34 := G33.step g21
                  have o64 := o62.step g21
                  have o65 := o63.step g21
                  obtain rfl := str_of d17
                  with_reducible refine x_gnE (σ' := ([some (.ref a0), some (.ref p2), some (.int t1), some (.int (if r1 < 0 then -r1 else r1)), some (.ref a1), y9, some (.ref p5), some (.str r10), some (.ref a7), some (.int r8)] : L2.St)) (by with_unfolding_all rfl) ?_
                  with_reducible refine x_seq ?_
                  with_reducible refine x_if ?_
                  with_reducible refine x_or ?_
                  with_reducible refine x_test ?_
                  with_reducible refine x_op ?_
                  with_reducible refine x_call ?_
                  with_reducible refine x_cons ?_
                  with_reducible refine x_op ?_
                  refine ⟨_, rfl, ?_⟩
                  refine ⟨_, _, _, _, rfl, rfl, .inl (.inl ((((((((((((s3.trans ex2).trans g7.ex).trans s5).trans g12.ex).trans g15.ex).trans s7).trans g18.ex).trans g19.ex).trans g20.ex).trans g21.ex).trans G34.sub) _ _ fa1)), atI_nat (j := 0) rfl, ?_⟩
                  with_reducible refine x_cons ?_
                  refine ⟨_, rfl, ?_⟩
                  obtain ⟨r11, hr11, hm⟩ := bindp hm
                  refine ⟨_, _, _, (r3).1, r8, r11, rfl, G34.sub, (.int _), (.int _), hr11, fun N11 H17 v22 g22 d18  => ?_⟩
                  have G35 := G34.step g22
                  have o66 := o64.step g22
                  have o67 := o65.step g22
                  obtain rfl := str_of d18
                  refine ⟨_, rfl, ?_⟩
                  refine neS_use ?_
                  refine ⟨_, rfl, ?_⟩
                  refine ifD (fun hc => ?_) (fun hc => ?_)
                  · replace hm := itep hm hc
                    refine iteT ?_
                    with_reducible refine x_ret ?_
                    with_reducible refine x_c ?_
                    exact ret_true hm q
                  · replace hm := iten hm (bF hc)
                    with_reducible refine x_B ?_
                    with_reducible refine x_cmp ?_
                    with_reducible refine x_call ?_
                    with_reducible refine x_cons ?_
                    with_reducible refine x_op ?_
                    refine ⟨_, rfl, ?_⟩
                    refine ⟨_, _, _, _, rfl, rfl, .inl (.inl (((((((((((((s3.trans ex2).trans g7.ex).trans s5).trans g12.ex).trans g15.ex).trans s7).trans g18.ex).trans g19.ex).trans g20.ex).trans g21.ex).trans g22.ex).trans G35.sub) _ _ fa1)), atI_nat (j := 0) rfl, ?_⟩
                    with_reducible refine x_cons ?_
                    refine ⟨_, rfl, ?_⟩
                    obtain ⟨r12, hr12, hm⟩ := bindp hm
                    refine ⟨_, _, _, (r3).1, r10, r12, rfl, G35.sub, (.int _), (.str _), hr12, fun N12 H18 v23 g23 d19  => ?_⟩
                    have G36 := G35.step g23
                    have o68 := o66.step g23
                    have o69 := o67.step g23
                    obtain rfl := int_of d19
                    refine ⟨_, rfl, ?_⟩
                    refine ⟨_, _, rfl, rfl, ?_⟩
                    refine ⟨_, rfl, ?_⟩
                    refine ifD (fun hc => ?_) (fun hc => ?_)
                    · replace hm := itep hm hc
                      with_reducible refine x_ret ?_
                      with_reducible refine x_c ?_
                      exact ret_true hm q
                    · replace hm := iten hm (bF hc)
                      with_reducible refine x_next ?_
                      with_reducible refine x_if ?_
                      with_reducible refine x_test ?_
                      with_reducible refine x_op ?_
                      with_reducible refine x_call ?_
                      with_reducible refine x_cons ?_
                      with_reducible refine x_call ?_
                      with_reducible refine x_cons ?_
                      refine ⟨_, rfl, ?_⟩
                      obtain ⟨r13, hr13, hm⟩ := bindp hm
                      refine ⟨_, _, r3, r13, rfl, G36.sub, (mk_tup2 (((((((((((((s3.trans ex2).trans g7.ex).trans s5).trans g12.ex).trans g15.ex).trans s7).trans g18.ex).trans g19.ex).trans g20.ex).trans g21.ex).trans g22.ex).trans g23.ex) _ _ fa1) (.int _) (mk_lst (((((((((((((s3.trans ex2).trans g7.ex).trans s5).trans g12.ex).trans g15.ex).trans s7).trans g18.ex).trans g19.ex).trans g20.ex).trans g21.ex).trans g22.ex).trans g23.ex) _ _ fa2) (Rs_mono ((((((((((((s3.trans ex2).trans g7.ex).trans s5).trans g12.ex).trans g15.ex).trans s7).trans g18.ex).trans g19.ex).trans g20.ex).trans g21.ex).trans g22.ex).trans g23.ex) fr2))), hr13, fun N13 H19 v24 g24 d20  => ?_⟩
                      have G37 := G36.step g24
                      have o70 := o68.step g24
                      have o71 := o69.step g24
                      obtain rfl := str_of d20
                      obtain ⟨r14, hr14, hm⟩ := bindp hm
                      refine ⟨_, _, r13, r14, rfl, G37.sub, (.str _), hr14, fun N14 H20 v25 g25 d21 => ?_⟩
                      have G38 := G37.step g25
                      have o72 := o70.step g25
                      have o73 := o71.step g25
                      obtain ⟨a10, v26, v27, rfl, fa14, d22, d23⟩ := tup2_of (NR_r d21)
                      obtain rfl := int_of d22
                      obtain ⟨a11, us12, rfl, fa15, fr20⟩ := lst_of d23
                      refine ⟨_, rfl, ?_⟩
                      refine ⟨_, r14, r3, Sub.refl _, (RD.mono G38.sub (mk_tup2 ((Sub.refl _) _ _ fa14) (.int _) (mk_lst ((Sub.refl _) _ _ fa15) (Rs_mono (Sub.refl _) fr20)))), (RD.mono G38.sub (mk_tup2 (((((((((((((((s3.trans ex2).trans g7.ex).trans s5).trans g12.ex).trans g15.ex).trans s7).trans g18.ex).trans g19.ex).trans g20.ex).trans g21.ex).trans g22.ex).trans g23.ex).trans g24.ex).trans g25.ex) _ _ fa1) (.int _) (mk_lst (((((((((((((((s3.trans ex2).trans g7.ex).trans s5).trans g12.ex).trans g15.ex).trans s7).trans g18.ex).trans g19.ex).trans g20.ex).trans g21.ex).trans g22.ex).trans g23.ex).trans g24.ex).trans g25.ex) _ _ fa2) (Rs_mono ((((((((((((((s3.trans ex2).trans g7.ex).trans s5).trans g12.ex).trans g15.ex).trans s7).trans g18.ex).trans g19.ex).trans g20.ex).trans g21.ex).trans g22.ex).trans g23.ex).trans g24.ex).trans g25.ex) fr2)))), ?_⟩
                      refine ⟨_, rfl, ?_⟩
                      refine ifD (fun hc => ?_) (fun hc => ?_)
                      · replace hm := itep hm hc
                        with_reducible refine x_ret ?_
                        with_reducible refine x_c ?_
                        exact ret_true hm q
                      · replace hm := iten hm (bF hc)
                        with_reducible refine x_next ?_
                        rw [hnx1] at hm
                        exact ⟨N14, (putT x1 (Txt.join (" " : Str) (([(Str.ofString (toString (r3).1))] : (List Str)) ++ x5)) r3), _, _, _, _, _, _, _, _, _, _, hm, ((((((((((((((((((s1.trans g2.ex).trans g3.ex).trans g4.ex).trans s3).trans ex2).trans g7.ex).trans s5).trans g12.ex).trans g15.ex).trans s7).trans g18.ex).trans g19.ex).trans g20.ex).trans g21.ex).trans g22.ex).trans g23.ex).trans g24.ex).trans g25.ex), G38, o73, (RsK_mono g25.ex (RsK_mono g24.ex (RsK_mono g23.ex (RsK_mono g22.ex (RsK_mono g21.ex (RsK_mono g20.ex (RsK_mono g19.ex (RsK_mono g18.ex (RsK_mono s7 (RsK_mono g15.ex fr16)))))))))), rfl⟩
  · skip
    obtain ⟨F1, x1, p2, us1, y1, y2, y3, y4, y5, y6, y7, y8, hm, s8, G39, o74, fr21, rfl⟩ := hW
    have hm : (law_e2) x1 = some true := forK_n hm
    rw [law_e2] at hm
    with_reducible refine x_ret ?_
    with_reducible refine x_c ?_
    exact ret_true hm q

/-! ### mathematics, with no program in sight -/
section
/-- an answer is there, and it is so -/
def Ok {α : Type} (o : Option α) (Q : α → Prop) : Prop := ∃ x, o = some x ∧ Q x
variable {α β S ρ : Type} {Q : ρ → Prop}
theorem Ok.mk {x : α} {Q : α → Prop} (h : Q x) : Ok (some x) Q := ⟨x, rfl, h⟩
theorem Ok.bind {o : Option α} {f : α → Option ρ} {P : α → Prop} (h : Ok o P) (k : ∀ x, P x → Ok (f x) Q) : Ok (o.bind f) Q := by
  obtain ⟨x, rfl, p⟩ := h
  exact k x p
theorem Ok.mono {o : Option ρ} {P : ρ → Prop} (h : Ok o P) (k : ∀ x, P x → Q x) : Ok o Q := by
  obtain ⟨x, e, p⟩ := h
  exact ⟨x, e, k x p⟩
theorem Ok.guard {c : Prop} [Decidable c] {a : Option ρ} (hc : c) (h : Ok a Q) : Ok (if c then a else none) Q := by rw [if_pos hc]; exact h
theorem Ok.ite {c : Prop} [Decidable c] {a b : Option ρ} (h1 : c → Ok a Q) (h2 : ¬ c → Ok b Q) : Ok (if c then a else b) Q := by
  by_cases h : c
  · rw [if_pos h]; exact h1 h
  · rw [if_neg h]; exact h2 h
theorem Ok.eq {o : Option ρ} {x : ρ} (h : Ok o (· = x)) : o = some x := by
  obtain ⟨y, e, rfl⟩ := h
  exact e
theorem Ok.of {o : Option ρ} {x : ρ} (h : o = some x) (q : Q x) : Ok o Q := ⟨x, h, q⟩
theorem forK_ok {f : S → α → (S → Option ρ) → Option ρ} {K : S → Option ρ} {P : S → Prop} : ∀ {xs : List α} {s : S}, P s →
    (∀ s x next, x ∈ xs → P s → (∀ s', P s' → Ok (next s') Q) → Ok (f s x next) Q) → (∀ s, P s → Ok (K s) Q) → Ok (forK f xs s K) Q
  | [], s, h0, _, hK => hK s h0
  | x :: xs, s, h0, hs, hK => hs s x _ List.mem_cons_self h0 fun s' h' => forK_ok h' (fun s y next hy => hs s y next (List.mem_cons_of_mem _ hy)) hK
/-- with what has been gone through -/
theorem forK_okI {f : S → α → (S → Option ρ) → Option ρ} {K : S → Option ρ} {P : List α → S → Prop} {xs : List α} {s : S} (h0 : P [] s)
    (hs : ∀ pre x post s next, xs = pre ++ x :: post → P pre s → (∀ s', P (pre ++ [x]) s' → Ok (next s') Q) → Ok (f s x next) Q) (hK : ∀ s, P xs s → Ok (K s) Q) : Ok (forK f xs s K) Q := by
  have all : ∀ (post pre : List α) (s : S), xs = pre ++ post → P pre s → Ok (forK f post s K) Q := by
    intro post
    induction post with
    | nil => intro pre s e h; rw [List.append_nil] at e; subst e; exact hK s h
    | cons x post ih =>
      intro pre s e h
      exact hs pre x post s _ e h fun s' h' => ih (pre ++ [x]) s' (by rw [e, List.append_assoc]; rfl) h'
  exact all xs [] s rfl h0
theorem whileK_ok {f : S → (S → Option ρ) → Option ρ} {P : S → Prop} (μ : S → Nat) (h : ∀ s next, P s → (∀ s', P s' → μ s' < μ s → Ok (next s') Q) → Ok (f s next) Q) :
    ∀ (m : Nat) (s : S), P s → μ s < m → Ok (whileK f m s) Q
  | 0, _, _, hm => absurd hm (Nat.not_lt_zero _)
  | m + 1, s, hp, hm => h s _ hp fun s' hp' hl => whileK_ok μ h m s' hp' (Nat.lt_of_lt_of_le hl (Nat.le_of_lt_succ hm))
/-- a loop that leaves early or goes on -/
theorem forK_stop {f : S → α → (S → Option ρ) → Option ρ} {K : S → Option ρ} {p : α → Bool} {c : Option ρ} {s : S} (h : ∀ x next, f s x next = if p x = true then c else next s) : ∀ xs : List α, forK f xs s K = if xs.any p = true then c else K s
  | [] => rfl
  | x :: xs => by
    show f s x _ = _
    rw [h, forK_stop h xs, List.any_cons]
    cases p x <;> simp
theorem forK_fold {f : S → α → (S → Option ρ) → Option ρ} {K : S → Option ρ} {g : S → α → S} (h : ∀ s x next, f s x next = next (g s x)) : ∀ (xs : List α) (s : S), forK f xs s K = K (xs.foldl g s)
  | [], _ => rfl
  | x :: xs, s => by
    show f s x _ = _
    rw [h]; exact forK_fold h xs _
/-- a comprehension whose element and test are total -/
theorem forK_fm {f : List β → α → (List β → Option ρ) → Option ρ} {K : List β → Option ρ} {p : α → Bool} {g : α → β} {B : Nat} (h : ∀ acc x next, acc.length < B → f acc x next = if p x = true then next (acc ++ [g x]) else next acc) :
    ∀ (xs : List α) (acc : List β), acc.length + xs.length ≤ B → forK f xs acc K = K (acc ++ (xs.filter p).map g)
  | [], acc, _ => by rw [List.filter_nil, List.map_nil, List.append_nil]; rfl
  | x :: xs, acc, hB => by
    rw [List.length_cons] at hB
    show f acc x _ = _
    rw [h acc x _ (by omega), List.filter_cons]
    cases hp : p x with
    | true =>
      rw [if_pos rfl, if_pos rfl, List.map_cons]
      have := forK_fm (K := K) h xs (acc ++ [g x]) (by rw [List.length_append, List.length_singleton]; omega)
      rw [List.append_assoc] at this
      exact this
    | false =>
      rw [if_neg Bool.false_ne_true, if_neg Bool.false_ne_true]
      exact forK_fm h xs acc (by omega)
end
theorem irange_mem {lo hi x : Int} : x ∈ irange lo hi ↔ lo ≤ x ∧ x < hi := by
  unfold irange
  rw [List.mem_map]
  constructor
  · rintro ⟨i, hi', rfl⟩
    rw [List.mem_range] at hi'
    omega
  · intro h
    exact ⟨(x - lo).toNat, by rw [List.mem_range]; omega, by omega⟩
theorem sz_ok {n : Nat} (h : n < 100000) : n < 16777216 := by omega
theorem Mv_of {i j : Int} {a b : Nat} (ha : i.natAbs < 2 ^ a) (hb : j.natAbs < 2 ^ b) (h0 : 0 < a) (h1 : 0 < b) (h : a + b ≤ 1000000) : Mv i j := wide_mul ha hb h0 h1 h
theorem Dv_small {j : Int} (h : 0 < j) (h2 : j < 2 ^ 64) : Dv j := (wide_div (i := 0) (b := 64) h (by omega) (by decide) (by decide) : CDivW 0 j)
theorem Dv_of {j : Int} {b : Nat} (h : 0 < j) (h2 : j.natAbs < 2 ^ b) (h0 : 0 < b) (h9 : b ≤ 9000) : Dv j := (wide_div (i := 0) h h2 h0 h9 : CDivW 0 j)

/-! #### draws -/
def DkOk (st : DkS) : Prop := st.1 ≠ []
theorem mkDeck_ok (ns : List Int) : DkOk (mkDeck ns) := by
  unfold DkOk mkDeck
  have h : 1 ≤ deckLen ns := by unfold deckLen; omega
  intro e
  have := congrArg List.length e
  simp at this
  omega
theorem draw_ok {st : DkS} {many : Int} (h : DkOk st) (h0 : 0 < many) (h1 : many < 2 ^ 64) : Ok (_law_draw st many) fun p => (0 ≤ p.1 ∧ p.1 < many) ∧ DkOk p.2 := by
  unfold _law_draw
  refine Ok.guard (Dv_small h0 h1) ?_
  have hl : 0 < st.1.length := List.length_pos_iff.mpr h
  have e1 := Int.emod_nonneg st.2 (show (st.1.length : Int) ≠ 0 by omega)
  have e2 := Int.emod_lt_of_pos st.2 (show (0 : Int) < (st.1.length : Int) by omega)
  have hi : (st.2 % (st.1.length : Int)).toNat < st.1.length := by omega
  rw [List.getElem?_eq_getElem hi]
  show Ok (if _ then _ else _) _
  have ok2 : ∀ p : Int × Int × Int, DkOk (st.1.set (st.2 % (st.1.length : Int)).toNat p, st.2 + 1) := fun p e => by
    have := congrArg List.length e
    simp only [List.length_set, List.length_nil] at this
    omega
  refine Ok.ite (fun _ => ?_) (fun _ => ?_)
  · exact Ok.mk ⟨⟨Int.emod_nonneg _ (by omega), Int.emod_lt_of_pos _ h0⟩, ok2 _⟩
  · exact Ok.mk ⟨⟨Int.emod_nonneg _ (by omega), Int.emod_lt_of_pos _ h0⟩, ok2 _⟩

/-! #### figures of numbers -/
/-- how many binary places -/
def lg (n : Int) : Nat := if n ≤ 0 then 0 else Nat.log2 n.toNat + 1
theorem lg_le {n : Int} {k : Nat} (h : n < 2 ^ k) : lg n ≤ k := by
  unfold lg
  by_cases h0 : n ≤ 0
  · rw [if_pos h0]; exact Nat.zero_le _
  · rw [if_neg h0]
    have h1 : n.toNat < 2 ^ k := by
      have : ((2 ^ k : Nat) : Int) = 2 ^ k := by push_cast; rfl
      omega
    have := (Nat.log2_lt (n := n.toNat) (k := k) (by omega)).mpr h1
    omega
theorem lt_lg (n : Int) : n < 2 ^ lg n := by
  unfold lg
  by_cases h0 : n ≤ 0
  · rw [if_pos h0]; show n < 1; omega
  · rw [if_neg h0]
    have h1 := Nat.lt_log2_self (n := n.toNat)
    have : ((2 ^ (Nat.log2 n.toNat + 1) : Nat) : Int) = 2 ^ (Nat.log2 n.toNat + 1) := by push_cast; rfl
    omega
theorem lg_div {n b : Int} (hn : 0 < n) (hb : 2 ≤ b) : lg (n / b) < lg n := by
  have h1 := lt_lg n
  have hk : 0 < lg n := by unfold lg; rw [if_neg (by omega)]; omega
  obtain ⟨k, e⟩ : ∃ k, lg n = k + 1 := ⟨lg n - 1, by omega⟩
  rw [e] at h1 ⊢
  have h2 : n / b < 2 ^ k := by
    refine Int.ediv_lt_of_lt_mul (by omega) ?_
    have p : (0 : Int) ≤ 2 ^ k := Int.le_of_lt (Int.pow_pos (by decide))
    have := Int.mul_le_mul_of_nonneg_left hb p
    rw [Int.pow_succ] at h1
    omega
  have := lg_le h2
  omega

theorem ediv_lt_self {b n : Int} (hb : 2 ≤ b) (hn : 0 < n) : n / b < n := by
  refine Int.ediv_lt_of_lt_mul (by omega) ?_
  have := Int.mul_le_mul_of_nonneg_left hb (show 0 ≤ n by omega)
  omega
def digs (b n : Int) : List Int := if h : b < 2 ∨ n < b then [n] else digs b (n / b) ++ [n % b]
termination_by n.toNat
decreasing_by
  have h1 := ediv_lt_self (b := b) (n := n) (by omega) (by omega)
  have h2 : 0 ≤ n / b := Int.ediv_nonneg (by omega) (by omega)
  omega
theorem digs_lt {b n : Int} (h : n < b) : digs b n = [n] := by rw [digs, dif_pos (.inr h)]
theorem digs_ge {b n : Int} (hb : 2 ≤ b) (h : b ≤ n) : digs b n = digs b (n / b) ++ [n % b] := by rw [digs, dif_neg (by omega)]
theorem digs_step {b n : Int} (hb : 2 ≤ b) (hn : 0 ≤ n) : digs b n = (if 0 < n / b then digs b (n / b) else []) ++ [n % b] := by
  by_cases h : n < b
  · rw [digs_lt h, Int.ediv_eq_zero_of_lt hn h, Int.emod_eq_of_lt hn h]; rfl
  · have : 1 ≤ n / b := Int.le_ediv_of_mul_le (by omega) (by omega)
    rw [digs_ge hb (by omega), if_pos (show 0 < n / b by omega)]
/-- so many figures of n -/
def dp (b : Int) : Nat → Int → List Int
  | 0, _ => []
  | j + 1, n => (n / b ^ j) :: dp b j (n % b ^ j)
theorem emod_mul_ediv {n b c : Int} (hb : 0 < b) (hc : 0 < c) : (n % (b * c)) / b = (n / b) % c := by
  have h1 := Int.emod_add_mul_ediv n b
  have h2 := Int.emod_add_mul_ediv (n / b) c
  have r1 := Int.emod_nonneg n (show b ≠ 0 by omega)
  have r2 := Int.emod_lt_of_pos n hb
  have r3 := Int.emod_nonneg (n / b) (show c ≠ 0 by omega)
  have r4 := Int.emod_lt_of_pos (n / b) hc
  have e : n % (b * c) = n % b + b * ((n / b) % c) := by
    have := (Int.ediv_emod_unique (a := n) (b := b * c) (r := n % b + b * ((n / b) % c)) (q := n / b / c) (Int.mul_pos hb hc)).mpr ⟨by
      rw [Int.mul_assoc, Int.add_assoc, ← Int.mul_add, h2, h1], by
      have := Int.mul_nonneg (show (0 : Int) ≤ b by omega) r3
      omega, by
      have q1 : b * ((n / b) % c) ≤ b * (c - 1) := Int.mul_le_mul_of_nonneg_left (by omega) (by omega)
      rw [Int.mul_sub, Int.mul_one] at q1
      omega⟩
    exact this.2
  rw [e, Int.add_mul_ediv_left _ _ (by omega), Int.ediv_eq_zero_of_lt r1 r2, Int.zero_add]
theorem dp_snoc {b : Int} (hb : 0 < b) : ∀ (j : Nat) (n : Int), 0 ≤ n → n < b ^ (j + 1) → dp b (j + 1) n = dp b j (n / b) ++ [n % b]
  | 0, n, h0, h => by
    rw [Int.pow_succ, Int.pow_zero, Int.one_mul] at h
    show [n / b ^ 0] = [] ++ [n % b]
    rw [Int.pow_zero, Int.ediv_one, Int.emod_eq_of_lt h0 h]; rfl
  | j + 1, n, h0, h => by
    have hp : 0 < b ^ (j + 1) := Int.pow_pos hb
    show (n / b ^ (j + 1)) :: dp b (j + 1) (n % b ^ (j + 1)) = (n / b / b ^ j) :: dp b j (n / b % b ^ j) ++ [n % b]
    rw [dp_snoc hb j _ (Int.emod_nonneg _ (by omega)) (Int.emod_lt_of_pos _ hp), Int.pow_succ, Int.mul_comm (b ^ j) b, emod_mul_ediv hb (Int.pow_pos hb), Int.emod_emod_of_dvd n (Int.dvd_mul_right b (b ^ j)), Int.ediv_ediv_of_nonneg (by omega)]
    rfl
theorem dp_digs {b : Int} (hb : 2 ≤ b) : ∀ (j : Nat) (n : Int), 0 ≤ n → n < b ^ (j + 1) → (b ^ j ≤ n ∨ j = 0) → digs b n = dp b (j + 1) n
  | 0, n, h0, h, _ => by
    rw [Int.pow_succ, Int.pow_zero, Int.one_mul] at h
    rw [digs_lt h]
    show [n] = [n / b ^ 0]
    rw [Int.pow_zero, Int.ediv_one]
  | j + 1, n, h0, h, h1 => by
    have h2 : b ^ (j + 1) ≤ n := by rcases h1 with h | h; exact h; cases h
    have hbj : 0 < b ^ j := Int.pow_pos (by omega)
    have h3 : b ≤ n := by
      rw [Int.pow_succ] at h2
      have := Int.mul_le_mul_of_nonneg_right (show 1 ≤ b ^ j by omega) (show 0 ≤ b by omega)
      omega
    rw [digs_ge hb h3, dp_snoc (by omega) _ n h0 h, dp_digs hb j (n / b) (Int.ediv_nonneg h0 (by omega)) (Int.ediv_lt_of_lt_mul (by omega) (by rw [← Int.pow_succ]; exact h)) (.inl (Int.le_ediv_of_mul_le (by omega) (by rw [← Int.pow_succ]; exact h2)))]
theorem natAbs_lt {n : Int} {k : Nat} (h0 : 0 ≤ n) (h : n < 2 ^ k) : n.natAbs < 2 ^ k := by
  have : ((2 ^ k : Nat) : Int) = 2 ^ k := by push_cast; rfl
  omega
theorem pow_mono {b : Int} (hb : 1 ≤ b) {i j : Nat} (h : i ≤ j) : b ^ i ≤ b ^ j := by
  obtain ⟨k, rfl⟩ : ∃ k, j = i + k := ⟨j - i, by omega⟩
  induction k with
  | zero => exact Int.le_refl _
  | succ k ih =>
    have h1 := ih (by omega)
    have h2 : 0 < b ^ (i + k) := Int.pow_pos (by omega)
    rw [← Nat.add_assoc, Int.pow_succ]
    have := Int.mul_le_mul_of_nonneg_left hb (show 0 ≤ b ^ (i + k) by omega)
    omega
theorem one_lt_p {k : Nat} (h : k ≠ 0) : (1 : Int) < 2 ^ k := by
  have := Nat.one_lt_two_pow h
  have e : ((2 ^ k : Nat) : Int) = 2 ^ k := by push_cast; rfl
  omega

/-! #### the program's figures, and the laws' -/
theorem written_eq {b n : Int} (hb : 2 ≤ b) (hb2 : b < 2 ^ 64) (hn : 0 ≤ n) (hl : n < 2 ^ 8000) : written b n = some (digs b n) := by
  have dv : Dv b := Dv_small (by omega) hb2
  unfold written
  refine Ok.eq (Ok.guard dv (Ok.guard dv ?_))
  refine whileK_ok (P := fun s => 0 ≤ s.1 ∧ digs b n = (if 0 < s.1 then digs b s.1 else []) ++ s.2.reverse ∧ s.2.length + lg s.1 ≤ 8001) (fun s => lg s.1) (fun s next hP hN => ?_) _ _ ⟨Int.ediv_nonneg hn (by omega), ?_, ?_⟩ ?_
  · obtain ⟨x1, x2⟩ := s
    obtain ⟨p1, p2, p3⟩ := hP
    rw [written_w1]
    refine Ok.ite (fun hc => ?_) (fun hc => ?_)
    · have h1 : 0 < x1 := of_decide_eq_true hc
      have h2 := lg_div h1 hb
      refine Ok.guard dv (Ok.guard (by show x2.length < 16777216; have : x2.length + lg x1 ≤ 8001 := p3; omega) (Ok.guard dv (hN _ ⟨Int.ediv_nonneg p1 (by omega), ?_, ?_⟩ h2)))
      · rw [p2]
        show (if 0 < x1 then digs b x1 else []) ++ x2.reverse = _
        rw [if_pos h1, digs_step hb p1, List.reverse_append, List.append_assoc]
        rfl
      · show (x2 ++ [x1 % b]).length + lg (x1 / b) ≤ 8001
        have : x2.length + lg x1 ≤ 8001 := p3
        rw [List.length_append, List.length_singleton]
        omega
    · have h1 : ¬ 0 < x1 := fun h => hc (decide_eq_true h)
      refine Ok.mk ?_
      rw [p2]
      show _ = (if 0 < x1 then digs b x1 else []) ++ x2.reverse
      rw [if_neg h1]; rfl
  · exact digs_step hb hn
  · show 1 + lg (n / b) ≤ 8001
    have := lg_le (Int.lt_of_le_of_lt (Int.ediv_le_self b hn) hl)
    omega
  · show lg (n / b) < fuel
    have := lg_le (Int.lt_of_le_of_lt (Int.ediv_le_self b hn) hl)
    unfold fuel
    omega
theorem digs_lenF {b : Int} (hb : 2 ≤ b) : ∀ (k : Nat) (n : Int), 0 ≤ n → lg n ≤ k → (digs b n).length ≤ k + 1
  | 0, n, h0, h => by
    have h1 := lt_lg n
    have h2 : n < 2 ^ 0 := Int.lt_of_lt_of_le h1 (pow_mono (by decide) h)
    rw [Int.pow_zero] at h2
    rw [digs_lt (by omega)]; exact Nat.le_refl _
  | k + 1, n, h0, h => by
    by_cases hn : n < b
    · rw [digs_lt hn]; show 1 ≤ k + 1 + 1; omega
    · rw [digs_ge hb (by omega), List.length_append, List.length_singleton]
      have := lg_div (n := n) (by omega) hb
      have := digs_lenF hb k (n / b) (Int.ediv_nonneg h0 (by omega)) (by omega)
      omega
theorem digs_len {b n : Int} (hb : 2 ≤ b) (h0 : 0 ≤ n) (h : n < 2 ^ 8000) : (digs b n).length < 16777216 := by
  have := digs_lenF hb 8000 n h0 (lg_le h)
  omega
/-! #### bases, numbers -/
theorem is_whole_eq (x : Int) : is_whole x = some true := rfl
theorem is_base_eq {b : Int} (h : 2 ≤ b) (h2 : b ≤ 16) : is_base b = some true := by
  unfold is_base
  rw [is_whole_eq, Option.bind_some, if_pos rfl, if_pos (decide_eq_true h), decide_eq_true h2]
theorem need_base_eq {b : Int} (h : 2 ≤ b) (h2 : b ≤ 16) : need_base b = some () := by
  unfold need_base
  rw [is_base_eq h h2]; rfl
theorem need_from_eq {n l : Int} (h : l ≤ n) : need_from n l = some () := by
  unfold need_from
  rw [is_whole_eq, Option.bind_some, if_neg (by decide), if_neg (by rw [decide_eq_true_eq]; omega)]
theorem figures_of_eq {b n : Int} (h : 2 ≤ b) (h2 : b ≤ 16) (h0 : 0 ≤ n) (hn : n < 2 ^ 8000) : figures_of b n = some (digs b n) := by
  unfold figures_of
  rw [need_base_eq h h2, need_from_eq h0, written_eq h (by omega) h0 hn]; rfl
/-! #### lists of figures -/
def Figs (b : Int) (ds : List Int) : Prop := ∀ d ∈ ds, 0 ≤ d ∧ d < b
theorem Figs.nil {b : Int} : Figs b [] := fun d h => nomatch h
theorem Figs.app {b : Int} {x y : List Int} (h : Figs b x) (k : Figs b y) : Figs b (x ++ y) := fun d hd => (List.mem_append.mp hd).elim (h d) (k d)
theorem Figs.one {b d : Int} (h : 0 ≤ d ∧ d < b) : Figs b [d] := fun x hx => by rw [List.mem_singleton.mp hx]; exact h
theorem Figs.left {b : Int} {x y : List Int} (h : Figs b (x ++ y)) : Figs b x := fun d hd => h d (List.mem_append_left _ hd)
theorem Figs.right {b : Int} {x y : List Int} (h : Figs b (x ++ y)) : Figs b y := fun d hd => h d (List.mem_append_right _ hd)
theorem is_figure_eq {b x : Int} (h0 : 0 ≤ x) (h : x < b) : is_figure b x = some true := by
  unfold is_figure
  rw [is_whole_eq, Option.bind_some, if_pos rfl, if_pos (decide_eq_true h0), decide_eq_true h]
theorem are_figures_eq {b : Int} {ds : List Int} (h : Figs b ds) : are_figures b ds = some true := by
  unfold are_figures
  refine Ok.eq (forK_ok (P := fun s => s = []) rfl (fun s x next hx hP hN => ?_) (fun s hP => ?_))
  · subst hP
    rw [are_figures_c1, is_figure_eq (h x hx).1 (h x hx).2, Option.bind_some, if_neg (by decide)]
    exact hN _ rfl
  · subst hP
    rw [are_figures_k2]
    exact Ok.mk (eqT_iff.mpr rfl)
/-- the number of a list of figures -/
def val (b : Int) (ds : List Int) : Int := ds.foldl (fun a d => a * b + d) 0
theorem val_snoc (b : Int) (ds : List Int) (d : Int) : val b (ds ++ [d]) = val b ds * b + d := by unfold val; rw [List.foldl_append]; rfl
theorem val_rev_bound {b : Int} (hb : 0 < b) : ∀ rs : List Int, Figs b rs → 0 ≤ val b rs.reverse ∧ val b rs.reverse < b ^ rs.length
  | [], _ => ⟨Int.le_refl _, by show (0 : Int) < b ^ 0; rw [Int.pow_zero]; decide⟩
  | d :: rs, h => by
    obtain ⟨i1, i2⟩ := val_rev_bound hb rs fun x hx => h x (List.mem_cons_of_mem _ hx)
    obtain ⟨d1, d2⟩ := h d List.mem_cons_self
    rw [List.reverse_cons, val_snoc, List.length_cons, Int.pow_succ]
    have m1 := Int.mul_nonneg i1 (Int.le_of_lt hb)
    have m2 := Int.mul_le_mul_of_nonneg_right (show val b rs.reverse ≤ b ^ rs.length - 1 by omega) (Int.le_of_lt hb)
    rw [Int.sub_mul, Int.one_mul] at m2
    omega
theorem Figs.rev {b : Int} {ds : List Int} (h : Figs b ds) : Figs b ds.reverse := fun x hx => h x (List.mem_reverse.mp hx)
theorem val_bound {b : Int} (hb : 0 < b) {ds : List Int} (h : Figs b ds) : 0 ≤ val b ds ∧ val b ds < b ^ ds.length := by
  have := val_rev_bound hb ds.reverse h.rev
  rw [List.reverse_reverse, List.length_reverse] at this
  exact this
theorem val_cons_rev (b d : Int) : ∀ rs : List Int, val b (d :: rs.reverse) = d * b ^ rs.length + val b rs.reverse
  | [] => by
    show 0 * b + d = d * b ^ 0 + 0
    rw [Int.pow_zero, Int.zero_mul, Int.mul_one, Int.zero_add, Int.add_zero]
  | e :: rs => by
    rw [List.reverse_cons, ← List.cons_append, val_snoc, val_cons_rev b d rs, val_snoc, List.length_cons, Int.pow_succ, Int.add_mul, Int.mul_assoc, Int.add_assoc]
theorem val_cons (b d : Int) (ds : List Int) : val b (d :: ds) = d * b ^ ds.length + val b ds := by
  have := val_cons_rev b d ds.reverse
  rw [List.reverse_reverse, List.length_reverse] at this
  exact this
theorem pow16 {b : Int} (h0 : 0 ≤ b) (h : b ≤ 16) : ∀ n : Nat, b ^ n ≤ 2 ^ (4 * n)
  | 0 => by rw [Int.pow_zero, Nat.mul_zero, Int.pow_zero]; exact Int.le_refl _
  | n + 1 => by
    have i := pow16 h0 h n
    have p : (0 : Int) ≤ 2 ^ (4 * n) := Int.le_of_lt (Int.pow_pos (by decide))
    rw [Int.pow_succ, show 4 * (n + 1) = 4 * n + 4 from rfl, Int.pow_add]
    exact Int.mul_le_mul i (by omega) h0 p
theorem pow2_le {b : Int} (h : 2 ≤ b) : ∀ n : Nat, (2 : Int) ^ n ≤ b ^ n
  | 0 => by rw [Int.pow_zero, Int.pow_zero]; exact Int.le_refl _
  | n + 1 => by
    rw [Int.pow_succ, Int.pow_succ]
    exact Int.mul_le_mul (pow2_le h n) h (by decide) (Int.le_of_lt (Int.pow_pos (by omega)))
theorem val_lt {b : Int} (hb : 2 ≤ b) (h2 : b ≤ 16) {ds : List Int} (h : Figs b ds) {n : Nat} (hl : ds.length ≤ n) : (val b ds).natAbs < 2 ^ (4 * n + 1) := by
  obtain ⟨v1, v2⟩ := val_bound (by omega) h
  have := pow16 (by omega) h2 ds.length
  refine natAbs_lt v1 ?_
  have p1 : (2 : Int) ^ (4 * ds.length) ≤ 2 ^ (4 * n + 1) := pow_mono (by decide) (by omega)
  omega
theorem atI0 {α : Type} (x : α) (xs : List α) : atI (x :: xs) 0 = some x := by
  unfold atI ixN
  rw [if_pos (by decide), if_pos (by rw [List.length_cons]; omega)]
  rfl
theorem ixN_lt {n : Nat} {i : Int} (h0 : 0 ≤ i) (h : i < n) : ixN n i = some i.toNat := by
  unfold ixN
  rw [if_pos h0, if_pos h]
theorem atI_lt {α : Type} {xs : List α} {i : Int} (h0 : 0 ≤ i) (h : i < xs.length) : ∃ x, atI xs i = some x ∧ xs[i.toNat]? = some x ∧ x ∈ xs := by
  have hl : i.toNat < xs.length := by omega
  refine ⟨xs[i.toNat], ?_, List.getElem?_eq_getElem hl, List.getElem_mem hl⟩
  unfold atI
  rw [ixN_lt h0 h, Option.bind_some, List.getElem?_eq_getElem hl]
/-- figures of a number: no 0 ahead -/
def Num (b : Int) (ds : List Int) : Prop := ∃ d t, ds = d :: t ∧ (t = [] ∨ d ≠ 0) ∧ Figs b ds
theorem worth_eq {b : Int} (hb : 2 ≤ b) (h2 : b ≤ 16) {ds : List Int} (h : Figs b ds) (hl : ds.length ≤ 9000) : worth b ds = some (val b ds) := by
  unfold worth
  refine Ok.eq (forK_okI (P := fun pre s => s = val b pre) rfl (fun pre x post s next e hP hN => ?_) (fun s hP => ?_))
  · subst hP
    rw [worth_b1]
    subst e
    refine Ok.guard (Mv_of (val_lt hb h2 h.left (n := 9000) ?_) (natAbs_lt (k := 5) (by omega) (by omega)) (by decide) (by decide) (by decide)) (hN _ (val_snoc ..).symm)
    rw [List.length_append] at hl; omega
  · subst hP; rw [worth_e2]; exact Ok.mk rfl
theorem number_by_eq {b : Int} (hb : 2 ≤ b) (h2 : b ≤ 16) {ds : List Int} (h : Num b ds) (hl : ds.length ≤ 9000) : number_by b ds = some (val b ds) := by
  obtain ⟨d, t, rfl, hd, hf⟩ := h
  unfold number_by
  rw [need_base_eq hb h2, Option.bind_some, are_figures_eq hf, Option.bind_some, if_neg (by decide), if_neg (by rw [eqT_iff]; exact (fun z => nomatch z)), worth_eq hb h2 hf hl]
  refine Ok.eq (Ok.ite (fun hc => ?_) (fun _ => Ok.mk rfl))
  rw [atI0, Option.bind_some, if_neg]
  · exact Ok.mk rfl
  · rw [decide_eq_true_eq]
    rcases hd with rfl | hd
    · exact absurd (of_decide_eq_true hc) (by rw [List.length_singleton]; decide)
    · exact hd
/- cut from MathRule -/
/-! #### order of lists, sorting -/
theorem toks_inj : ∀ xs ys : List Int, PySem.W.keyToksAll (xs.map fun n => PyData.int n) = PySem.W.keyToksAll (ys.map fun n => PyData.int n) → xs = ys
  | [], [], _ => rfl
  | [], y :: ys, h => by
    rw [List.map_nil, List.map_cons, PySem.W.keyToksAll, PySem.W.keyToksAll] at h
    exact absurd (Sum.inl.inj (List.cons.inj h).1) (by decide)
  | x :: xs, [], h => by
    rw [List.map_nil, List.map_cons, PySem.W.keyToksAll, PySem.W.keyToksAll] at h
    exact absurd (Sum.inl.inj (List.cons.inj h).1) (by decide)
  | x :: xs, y :: ys, h => by
    rw [List.map_cons, List.map_cons, PySem.W.keyToksAll, PySem.W.keyToksAll, PySem.W.keyToks, PySem.W.keyToks] at h
    have h1 := (List.cons.inj h).2
    have h2 := List.cons.inj h1
    have e : x = y := Sum.inl.inj h2.1
    rw [e, toks_inj xs ys h2.2]
theorem ltT_tot {x y : List Int} (h1 : ltT x y = false) (h2 : ltT y x = false) : x = y := toks_inj x y (PyProof.Rows.lex_total _ _ h1 h2)
theorem ltT_irr (x : List Int) : ltT x x = false := PyProof.Rows.lex_irrefl _
theorem ltT_trans {x y z : List Int} (h1 : ltT x y = true) (h2 : ltT y z = true) : ltT x z = true := PyProof.Rows.lex_trans _ _ _ h1 h2
theorem sortT_perm {α : Type} [TD α] (xs : List α) : (sortT xs).Perm xs := List.mergeSort_perm _ _
theorem sortT_mem {α : Type} [TD α] {xs : List α} {x : α} : x ∈ sortT xs ↔ x ∈ xs := (sortT_perm xs).mem_iff
theorem sortT_le (xs : List (List Int)) : (sortT xs).Pairwise fun a b => (!ltT b a) = true := by
  have := PySem.W.sort_pairwise (le := PySem.W.dataLe false (TD.d (α := List Int))) (PySem.W.sortLe_total _ _ _) xs
  exact this
theorem sortT_lt {xs : List (List Int)} (h : xs.Nodup) : (sortT xs).Pairwise fun a b => ltT a b = true := by
  have nd : (sortT xs).Pairwise fun a b => a ≠ b := (sortT_perm xs).nodup_iff.mpr h
  have := List.pairwise_and_iff.mpr ⟨sortT_le xs, nd⟩
  refine this.imp fun {a b} ⟨h1, h2⟩ => ?_
  rw [Bool.not_eq_true'] at h1
  cases h3 : ltT a b with
  | true => rfl
  | false => exact absurd (ltT_tot h3 h1) h2
/-! #### rules -/
structure GoodRule (rule : Int × List (List Int)) : Prop where
  lo : 2 ≤ rule.1
  hi : rule.1 ≤ 16
  few : rule.2.length ≤ 4
  figs : ∀ s ∈ rule.2, Figs rule.1 s ∧ 1 ≤ s.length ∧ s.length ≤ 4
  sorted : rule.2.Pairwise fun a b => ltT a b = true
theorem is_stretch_eq {b : Int} {s : List Int} (h : Figs b s) (h1 : 1 ≤ s.length) (h4 : s.length ≤ 4) : is_stretch b s = some true := by
  unfold is_stretch
  rw [are_figures_eq h, Option.bind_some, if_pos rfl, if_pos (by rw [decide_eq_true_eq]; omega), decide_eq_true (show (s.length : Int) ≤ 4 by omega)]
theorem atI_get {α : Type} {xs : List α} {i : Int} {k : Nat} (e : i = k) (h : k < xs.length) : atI xs i = some xs[k] := by
  subst e
  unfold atI
  rw [ixN_lt (by omega) (by omega), Option.bind_some, Int.toNat_natCast, List.getElem?_eq_getElem h]
theorem is_rule_eq {rule : Int × List (List Int)} (g : GoodRule rule) : is_rule rule = some true := by
  have := g.few
  unfold is_rule
  rw [if_neg (by decide), is_base_eq g.lo g.hi, Option.bind_some, if_neg (by decide), if_neg (by rw [decide_eq_true_eq]; omega)]
  refine Ok.eq (forK_ok (P := fun s => s = []) rfl (fun s x next hx hP hN => ?_) (fun s hP => ?_))
  · subst hP
    obtain ⟨f1, f2, f3⟩ := g.figs x hx
    rw [is_rule_c1, is_stretch_eq f1 f2 f3, Option.bind_some, if_neg (by decide)]
    exact hN _ rfl
  · subst hP
    rw [is_rule_k2, eqT_iff.mpr rfl, if_neg (by decide)]
    refine Ok.guard ⟨by decide, by decide, by omega, by omega⟩ ?_
    refine forK_ok (P := fun s => s = []) rfl (fun s x next hx hP hN => ?_) (fun s hP => ?_)
    · subst hP
      have hx := irange_mem.mp hx
      obtain ⟨k, hk⟩ : ∃ k : Nat, x = k + 1 := ⟨(x - 1).toNat, by omega⟩
      have l1 : k < rule.2.length := by omega
      have l2 : k + 1 < rule.2.length := by omega
      have := List.pairwise_iff_getElem.mp g.sorted k (k + 1) l1 l2 (Nat.lt_succ_self _)
      rw [is_rule_c3, atI_get (k := k) (by omega) l1, Option.bind_some, atI_get (k := k + 1) (by omega) l2, Option.bind_some, this, if_neg (by decide)]
      exact hN _ rfl
    · subst hP
      rw [is_rule_k4]
      exact Ok.mk (eqT_iff.mpr rfl)
/-- a comprehension, with where the element is from -/
theorem forK_fmM {α β ρ : Type} {f : List β → α → (List β → Option ρ) → Option ρ} {K : List β → Option ρ} {p : α → Bool} {g : α → β} {B : Nat} :
    ∀ (xs : List α) (acc : List β), (∀ acc x next, x ∈ xs → acc.length < B → f acc x next = if p x = true then next (acc ++ [g x]) else next acc) → acc.length + xs.length ≤ B → forK f xs acc K = K (acc ++ (xs.filter p).map g)
  | [], acc, _, _ => by rw [List.filter_nil, List.map_nil, List.append_nil]; rfl
  | x :: xs, acc, h, hB => by
    rw [List.length_cons] at hB
    show f acc x _ = _
    have h' : ∀ acc y next, y ∈ xs → acc.length < B → f acc y next = if p y = true then next (acc ++ [g y]) else next acc := fun acc y next hy => h acc y next (List.mem_cons_of_mem _ hy)
    rw [h acc x _ List.mem_cons_self (by omega), List.filter_cons]
    cases hp : p x with
    | true =>
      rw [if_pos rfl, if_pos rfl, List.map_cons]
      have := forK_fmM (K := K) xs (acc ++ [g x]) h' (by rw [List.length_append, List.length_singleton]; omega)
      rw [List.append_assoc] at this
      exact this
    | false =>
      rw [if_neg Bool.false_ne_true, if_neg Bool.false_ne_true]
      exact forK_fmM xs acc h' (by omega)
/-! #### figures and numbers lead to each other -/
theorem digs_num {b : Int} (hb : 2 ≤ b) : ∀ (k : Nat) (n : Int), 0 ≤ n → n.toNat ≤ k → Num b (digs b n) ∧ val b (digs b n) = n
  | k, n, h0, hk => by
    by_cases h : n < b
    · rw [digs_lt h]
      exact ⟨⟨n, [], rfl, .inl rfl, Figs.one ⟨h0, h⟩⟩, by show 0 * b + n = n; omega⟩
    · have h1 := ediv_lt_self (b := b) (n := n) hb (by omega)
      have h2 : 1 ≤ n / b := Int.le_ediv_of_mul_le (by omega) (by omega)
      match k with
      | 0 => omega
      | k + 1 =>
        obtain ⟨⟨d, t, e, hd, hf⟩, v⟩ := digs_num hb k (n / b) (by omega) (by omega)
        have d0 : d ≠ 0 := by
          rcases hd with rfl | hd
          · rw [e] at v
            have v : 0 * b + d = n / b := v
            omega
          · exact hd
        rw [digs_ge hb (by omega)]
        refine ⟨⟨d, t ++ [n % b], by rw [e]; rfl, .inr d0, Figs.app hf (Figs.one ⟨Int.emod_nonneg _ (by omega), Int.emod_lt_of_pos _ (by omega)⟩)⟩, ?_⟩
        rw [val_snoc, v]
        have := Int.emod_add_mul_ediv n b
        rw [Int.mul_comm] at this
        omega
theorem digs_Num {b n : Int} (hb : 2 ≤ b) (h0 : 0 ≤ n) : Num b (digs b n) := (digs_num hb _ n h0 (Nat.le_refl _)).1
theorem val_digs {b n : Int} (hb : 2 ≤ b) (h0 : 0 ≤ n) : val b (digs b n) = n := (digs_num hb _ n h0 (Nat.le_refl _)).2
theorem digs_snoc {b n f : Int} (hb : 2 ≤ b) (h0 : 0 < n) (f0 : 0 ≤ f) (f1 : f < b) : digs b (n * b + f) = digs b n ++ [f] := by
  have h1 : 1 * b ≤ n * b := Int.mul_le_mul_of_nonneg_right (by omega) (by omega)
  rw [digs_ge hb (by omega)]
  rw [show n * b + f = f + b * n from by rw [Int.mul_comm, Int.add_comm], Int.add_mul_ediv_left _ _ (by omega), Int.ediv_eq_zero_of_lt f0 f1, Int.zero_add, Int.add_mul_emod_self_left, Int.emod_eq_of_lt f0 f1]
theorem Num.pos {b : Int} (hb : 2 ≤ b) {d : Int} {t : List Int} (h : Figs b (d :: t)) (hd : d ≠ 0) : 0 < val b (d :: t) := by
  have h1 := h d List.mem_cons_self
  have h2 := (val_bound (b := b) (by omega) (ds := t) fun x hx => h x (List.mem_cons_of_mem _ hx)).1
  have h3 : 0 < b ^ t.length := Int.pow_pos (by omega)
  have h4 : 1 * b ^ t.length ≤ d * b ^ t.length := Int.mul_le_mul_of_nonneg_right (by omega) (by omega)
  rw [val_cons]; omega
theorem digs_val {b : Int} (hb : 2 ≤ b) : ∀ (rs : List Int), Num b rs.reverse → digs b (val b rs.reverse) = rs.reverse
  | [], h => by obtain ⟨d, t, e, _⟩ := h; exact nomatch e
  | [x], h => by
    obtain ⟨d, t, e, _, hf⟩ := h
    have := hf x (List.mem_reverse.mpr List.mem_cons_self)
    show digs b (0 * b + x) = [x]
    rw [Int.zero_mul, Int.zero_add, digs_lt this.2]
  | x :: y :: rs, h => by
    obtain ⟨d, t, e, hd, hf⟩ := h
    rw [List.reverse_cons] at e hf ⊢
    have hx := hf x (List.mem_append_right _ List.mem_cons_self)
    have hl := congrArg List.length e
    obtain ⟨d', t', e'⟩ : ∃ d' t', (y :: rs).reverse = d' :: t' := by
      cases h' : (y :: rs).reverse with
      | nil => exact nomatch (List.reverse_eq_nil_iff.mp h')
      | cons d' t' => exact ⟨d', t', rfl⟩
    have e2 : d' = d ∧ t' ++ [x] = t := by
      rw [e'] at e
      exact ⟨(List.cons.inj e).1, (List.cons.inj e).2⟩
    have hd' : d' ≠ 0 := by
      rw [e2.1]
      rcases hd with h | h
      · rw [h] at e2; exact nomatch (List.append_eq_nil_iff.mp e2.2).2
      · exact h
    have nm : Num b (y :: rs).reverse := ⟨d', t', e', .inr hd', hf.left⟩
    have ih := digs_val hb (y :: rs) nm
    have pos : 0 < val b (y :: rs).reverse := by
      rw [e']
      exact Num.pos hb (by rw [← e']; exact hf.left) hd'
    rw [val_snoc, digs_snoc hb pos hx.1 hx.2, ih]
theorem digs_of_val {b : Int} (hb : 2 ≤ b) {ds : List Int} (h : Num b ds) : digs b (val b ds) = ds := by
  have := digs_val hb ds.reverse (by rw [List.reverse_reverse]; exact h)
  rw [List.reverse_reverse] at this
  exact this
theorem cut_take {α : Type} {xs : List α} {i : Int} (h0 : 0 ≤ i) : cutT xs none (some i) = xs.take i.toNat := by
  unfold cutT HT.sIx
  dsimp only
  rw [if_neg (by omega), List.drop_zero, Nat.sub_zero]
  by_cases h : i.toNat ≤ xs.length
  · rw [Nat.min_eq_left h]
  · rw [Nat.min_eq_right (by omega), List.take_length, List.take_of_length_le (by omega)]
theorem cut_drop {α : Type} {xs : List α} {i : Int} (h0 : 0 ≤ i) (h : i ≤ xs.length) : cutT xs (some i) none = xs.drop i.toNat := by
  unfold cutT HT.sIx
  dsimp only
  rw [if_neg (by omega), Nat.min_eq_left (by omega), ← List.length_drop, List.take_length]
theorem irange_cons {lo hi : Int} (h : lo < hi) : irange lo hi = lo :: irange (lo + 1) hi := by
  unfold irange
  obtain ⟨n, hn⟩ : ∃ n, (hi - lo).toNat = n + 1 := ⟨(hi - lo).toNat - 1, by omega⟩
  rw [hn, show (hi - (lo + 1)).toNat = n from by omega, List.range_succ_eq_map, List.map_cons, List.map_map]
  refine congr (congrArg List.cons (by omega)) (List.map_congr_left fun i _ => ?_)
  show lo + ((i + 1 : Nat) : Int) = lo + 1 + (i : Int)
  omega
theorem irange_nil {lo hi : Int} (h : hi ≤ lo) : irange lo hi = [] := by
  unfold irange
  rw [show (hi - lo).toNat = 0 from by omega]; rfl
/-! #### writings -/
abbrev SG : Str := "0123456789abcdef"
def sg (d : Int) : Nat := (TL.tl SG).getD d.toNat 0
theorem sIdx_fin : ∀ k : Fin 16, sIdx SG ⟨#[sg (k.val : Int)]⟩ = some k.val := by decide +kernel
theorem sg_fin : ∀ b : Fin 17, ∀ k : Fin 16, 2 ≤ b.val → k.val < b.val → sg (k.val : Int) ∈ (cutS SG none (some (b.val : Int))).cps.toList := by decide +kernel
theorem sg_sp : ∀ k : Fin 16, sg (k.val : Int) ≠ 32 := by decide +kernel
theorem sg_cut {b d : Int} (hb : 2 ≤ b) (h2 : b ≤ 16) (h0 : 0 ≤ d) (h : d < b) : sg d ∈ (cutS SG none (some b)).cps.toList := by
  obtain ⟨n, rfl⟩ : ∃ n : Nat, b = n := ⟨b.toNat, by omega⟩
  obtain ⟨k, rfl⟩ : ∃ k : Nat, d = k := ⟨d.toNat, by omega⟩
  exact sg_fin ⟨n, by omega⟩ ⟨k, by omega⟩ (by show 2 ≤ n; omega) (by show k < n; omega)
theorem sIdx_sg {d : Int} (h0 : 0 ≤ d) (h : d < 16) : sIdx SG ⟨#[sg d]⟩ = some d.toNat := by
  obtain ⟨k, rfl⟩ : ∃ k : Nat, d = k := ⟨d.toNat, by omega⟩
  exact sIdx_fin ⟨k, by omega⟩
theorem sg_ne {d : Int} (h0 : 0 ≤ d) (h : d < 16) : sg d ≠ 32 := by
  obtain ⟨k, rfl⟩ : ∃ k : Nat, d = k := ⟨d.toNat, by omega⟩
  exact sg_sp ⟨k, by omega⟩
theorem SG_len : (TL.tl SG).length = 16 := by decide +kernel
theorem SG_sz : SG.length ≤ 16777216 := by decide +kernel
theorem sg_at {d : Int} (h0 : 0 ≤ d) (h : d < 16) : atI SG.cps.toList d = some (sg d) := by
  have hl : (SG.cps.toList).length = 16 := SG_len
  rw [atI_get (k := d.toNat) (by omega) (by rw [hl]; omega)]
  unfold sg
  rw [List.getD_eq_getElem?_getD, List.getElem?_eq_getElem (by rw [SG_len]; omega)]; rfl
def textOf (ds : List Int) : Str := ⟨(ds.map sg).toArray⟩
theorem tl_textOf (ds : List Int) : TL.tl (textOf ds) = ds.map sg := rfl
theorem textOf_len (ds : List Int) : (textOf ds).length = ds.length := by rw [TL.len_tl, tl_textOf, List.length_map]
theorem joinL_nil : ∀ ls : List (List Nat), TL.joinL [] ls = ls.flatten
  | [] => rfl
  | [p] => by simp [TL.joinL]
  | p :: q :: r => by
    show p ++ ([] ++ TL.joinL [] (q :: r)) = _
    rw [joinL_nil (q :: r), List.nil_append]; rfl
theorem join_signs (ds : List Int) : Txt.join ("" : Str) (ds.map fun d => (⟨#[sg d]⟩ : Str)) = textOf ds := by
  refine TL.ext_tl ?_
  rw [TL.join_eq, TL.tl_join, show TL.tl ("" : Str) = [] from by decide +kernel, joinL_nil, tl_textOf, List.map_map]
  induction ds with
  | nil => rfl
  | cons d ds ih => rw [List.map_cons, List.flatten_cons, ih, List.map_cons]; rfl
theorem signs_sum (ds : List Int) : ((ds.map fun d => (⟨#[sg d]⟩ : Str)).map (·.length)).sum = ds.length := by
  induction ds with
  | nil => rfl
  | cons d ds ih => rw [List.map_cons, List.map_cons, List.sum_cons, ih, List.length_cons]; show 1 + ds.length = _; omega
theorem filter_true {α : Type} (xs : List α) : xs.filter (fun _ => true) = xs := by simp
theorem emp_len0 : ("" : Str).length = 0 := by decide +kernel
theorem text_eq {b : Int} (h2 : b ≤ 16) {ds : List Int} (h : Figs b ds) (hl : ds.length ≤ 9000) : _law_text ds = some (textOf ds) := by
  unfold _law_text
  rw [forK_fmM (p := fun _ => true) (g := fun d => (⟨#[sg d]⟩ : Str)) (B := 16777216) _ _ (fun acc x next hx hl2 => by
    have := h x hx
    rw [_law_text_c1, if_pos SG_sz, sg_at this.1 (by omega), Option.bind_some, if_pos hl2, if_pos rfl]) (by rw [List.length_nil]; omega), filter_true, List.nil_append]
  rw [_law_text_k2, signs_sum, List.length_map, emp_len0, if_pos (by omega), join_signs]
theorem figures_text_eq {b : Int} (h2 : b ≤ 16) {ds : List Int} (h : Figs b ds) (hl : ds.length ≤ 9000) : figures_text ds = some (textOf ds) := by
  unfold figures_text
  rw [forK_fmM (p := fun _ => true) (g := fun d => (⟨#[sg d]⟩ : Str)) (B := 16777216) _ _ (fun acc x next hx hl2 => by
    have := h x hx
    rw [figures_text_c1, if_pos SG_sz, sg_at this.1 (by omega), Option.bind_some, if_pos hl2, if_pos rfl]) (by rw [List.length_nil]; omega), filter_true, List.nil_append]
  rw [figures_text_k2, signs_sum, List.length_map, emp_len0, if_pos (by omega), join_signs]
theorem read_figures_eq {b : Int} (hb : 2 ≤ b) (h2 : b ≤ 16) {ds : List Int} (h : Figs b ds) (hne : ds ≠ []) (hl : ds.length ≤ 9000) : read_figures b (textOf ds) = some ds := by
  unfold read_figures
  rw [if_neg (by
    rw [decide_eq_true_eq]
    intro e
    have := congrArg Str.length e
    rw [textOf_len, emp_len0] at this
    exact hne (List.length_eq_zero_iff.mp this))]
  have e1 : (textOf ds).cps.toList = ds.map sg := rfl
  rw [e1]
  refine Ok.eq (forK_ok (P := fun s => s = []) rfl (fun s x next hx hP hN => ?_) (fun s hP => ?_))
  · subst hP
    obtain ⟨d, hd, rfl⟩ := List.mem_map.mp hx
    have := h d hd
    rw [read_figures_c1, if_pos SG_sz, if_neg (by rw [decide_eq_true (sg_cut hb h2 this.1 this.2)]; decide)]
    exact hN _ rfl
  · subst hP
    rw [read_figures_k2, if_neg (by decide)]
    refine Ok.of (x := ds) ?_ rfl
    rw [e1, forK_fmM (p := fun _ => true) (g := fun c => (((sIdx SG ⟨#[c]⟩).getD 0 : Nat) : Int)) (B := 16777216) _ _ (fun acc x next hx hl2 => by
      obtain ⟨d, hd, rfl⟩ := List.mem_map.mp hx
      have := h d hd
      rw [read_figures_c3, sIdx_sg this.1 (by omega), Option.bind_some, if_pos hl2, if_pos rfl]; rfl) (by rw [List.length_nil, List.length_map]; omega), filter_true, List.nil_append, read_figures_k4, List.map_map]
    refine congrArg some ?_
    conv => rhs; rw [← List.map_id ds]
    refine List.map_congr_left fun d hd => ?_
    have := h d hd
    show (((sIdx SG ⟨#[sg d]⟩).getD 0 : Nat) : Int) = d
    rw [sIdx_sg this.1 (by omega)]
    show ((d.toNat : Nat) : Int) = d
    omega
/-! #### the law's figures -/
theorem law_figs_eq {b n : Int} (hb : 2 ≤ b) (h2 : b ≤ 16) (hn : 0 ≤ n) (hl : n < 2 ^ 8000) : _law_figures b n = some (digs b n) := by
  have dv : Dv b := Dv_small (by omega) (by omega)
  unfold _law_figures
  refine Ok.eq (Ok.guard dv ?_)
  refine whileK_ok (P := fun s => 0 ≤ s.1 ∧ s.2.length + lg s.1 ≤ 8001 ∧ ∃ pre, digs b s.1 = pre ++ [s.1 % b] ∧ digs b n = pre ++ s.2) (fun s => lg s.1) (fun s next hP hN => ?_) _ _ ⟨hn, ?_, (if 0 < n / b then digs b (n / b) else []), digs_step hb hn, digs_step hb hn⟩ ?_
  · obtain ⟨x1, x2⟩ := s
    obtain ⟨p1, p2, pre, p3, p4⟩ := hP
    have p1 : 0 ≤ x1 := p1
    have p2 : x2.length + lg x1 ≤ 8001 := p2
    have p3 : digs b x1 = pre ++ [x1 % b] := p3
    have p4 : digs b n = pre ++ x2 := p4
    rw [_law_figures_w1]
    refine Ok.ite (fun hc => ?_) (fun hc => ?_)
    · have hle : b ≤ x1 := of_decide_eq_true hc
      have hd : 0 ≤ x1 / b := Int.ediv_nonneg p1 (by omega)
      have hlt := lg_div (n := x1) (by omega) hb
      refine Ok.guard dv (Ok.guard dv (Ok.guard ?_ (hN _ ⟨hd, ?_, (if 0 < x1 / b / b then digs b (x1 / b / b) else []), digs_step hb hd, ?_⟩ hlt)))
      · rw [List.length_singleton]; omega
      · show ([x1 / b % b] ++ x2).length + lg (x1 / b) ≤ 8001
        rw [List.length_append, List.length_singleton]; omega
      · show digs b n = _ ++ ([x1 / b % b] ++ x2)
        rw [digs_ge hb hle] at p3
        have := (List.append_inj' p3 rfl).1
        rw [p4, ← List.append_assoc, ← digs_step hb hd, this]
    · have hlt : x1 < b := by
        have : ¬ b ≤ x1 := fun h => hc (decide_eq_true h)
        omega
      rw [digs_lt hlt] at p3
      have hp : pre = [] := by
        have := congrArg List.length p3
        rw [List.length_append, List.length_singleton, List.length_singleton] at this
        exact List.length_eq_zero_iff.mp (by omega)
      refine Ok.mk ?_
      rw [p4, hp, List.nil_append]
  · show [n % b].length + lg n ≤ 8001
    have := lg_le hl
    rw [List.length_singleton]; omega
  · show lg n < fuel
    have := lg_le hl
    unfold fuel; omega
/-! #### draws -/
theorem cell_ok {ns : List Int} {k : Int} (h0 : 0 ≤ k) (h : k < 64) : Ok (_law_cell ns k) fun _ => True := by
  unfold _law_cell
  refine Ok.ite (fun hc => ?_) (fun _ => ?_)
  · have hc : k < (ns.length : Int) := of_decide_eq_true hc
    obtain ⟨x, e, _⟩ := atI_lt h0 hc
    rw [e]; exact ⟨_, rfl, trivial⟩
  · exact Ok.guard (Mv_of (a := 20) (b := 20) (by omega) (by omega) (by decide) (by decide) (by decide)) ⟨_, rfl, trivial⟩
theorem mixed_ok {cell k : Int} (h0 : 0 ≤ k) (h : k < 1000) : Ok (_law_mixed cell k) fun r => 0 ≤ r ∧ r < 2 ^ 64 := by
  unfold _law_mixed
  refine Ok.guard (Mv_of (a := 40) (b := 40) (by omega) (by omega) (by decide) (by decide) (by decide)) ?_
  generalize hx : (((cell * 48271) + 7919 * k * k + 104729 * k + 11) % 2147483647 : Int) = x
  have x0 : 0 ≤ x := by rw [← hx]; exact Int.emod_nonneg _ (by decide)
  have x1 : x < 2147483647 := by rw [← hx]; exact Int.emod_lt_of_pos _ (by decide)
  refine Ok.guard (Mv_of (a := 40) (b := 40) (by omega) (by omega) (by decide) (by decide) (by decide)) ?_
  refine Ok.bind (P := fun m => 2147483497 ≤ m ∧ m ≤ 2147483629) ?_ fun m hm => ?_
  · have k0 := Int.emod_nonneg k (show (7 : Int) ≠ 0 by decide)
    have k1 := Int.emod_lt_of_pos k (show (0 : Int) < 7 by decide)
    rcases (show k % 7 = 0 ∨ k % 7 = 1 ∨ k % 7 = 2 ∨ k % 7 = 3 ∨ k % 7 = 4 ∨ k % 7 = 5 ∨ k % 7 = 6 by omega) with e | e | e | e | e | e | e <;> rw [e] <;> exact ⟨_, rfl, by decide, by decide⟩
  · refine Ok.guard (Dv_small (by omega) (by omega)) (Ok.mk ?_)
    have y0 := Int.emod_nonneg (x * x) (show m ≠ 0 by omega)
    have y1 := Int.emod_lt_of_pos (x * x) (show 0 < m by omega)
    have c0 := Int.emod_nonneg cell (show (5 : Int) ≠ 0 by decide)
    have c1 := Int.emod_lt_of_pos cell (show (0 : Int) < 5 by decide)
    omega
theorem pick3 {a b c r : Int} : Ok (atI [a, b, c] (r % 3)) fun x => x = a ∨ x = b ∨ x = c := by
  have k0 := Int.emod_nonneg r (show (3 : Int) ≠ 0 by decide)
  have k1 := Int.emod_lt_of_pos r (show (0 : Int) < 3 by decide)
  rcases (show r % 3 = 0 ∨ r % 3 = 1 ∨ r % 3 = 2 by omega) with e | e | e <;> rw [e]
  · exact ⟨_, rfl, .inl rfl⟩
  · exact ⟨_, rfl, .inr (.inl rfl)⟩
  · exact ⟨_, rfl, .inr (.inr rfl)⟩
theorem law_rule_ok {cell : Int} : Ok (_law_rule cell) GoodRule := by
  unfold _law_rule
  have n0 := Int.emod_nonneg (cell / 15) (show (5 : Int) ≠ 0 by decide)
  have n1 := Int.emod_lt_of_pos (cell / 15) (show (0 : Int) < 5 by decide)
  have b0 := Int.emod_nonneg cell (show (15 : Int) ≠ 0 by decide)
  have b1 := Int.emod_lt_of_pos cell (show (0 : Int) < 15 by decide)
  refine Ok.guard ⟨by omega, by omega⟩ ?_
  refine forK_okI (P := fun pre (s : List (List Int)) => s.length ≤ pre.length ∧ s.Nodup ∧ ∀ z ∈ s, Figs (2 + cell % 15) z ∧ 1 ≤ z.length ∧ z.length ≤ 4) ⟨Nat.le_refl _, List.nodup_nil, fun z hz => nomatch hz⟩ (fun pre x post s next e hP hN => ?_) (fun s hP => ?_)
  · obtain ⟨q1, q2, q3⟩ := hP
    have hx : x ∈ irange 0 (cell / 15 % 5) := by rw [e]; simp
    have hx := irange_mem.mp hx
    have hl : pre.length < 4 := by
      have := congrArg List.length e
      rw [irange_len, List.length_append, List.length_cons] at this
      omega
    rw [_law_rule_b1]
    refine (mixed_ok (by omega) (by omega)).bind fun r1 _ => ?_
    refine pick3.bind fun x2 hx2 => ?_
    have hx2 : 2 ≤ x2 ∧ x2 ≤ 2 + cell % 15 := by
      rcases hx2 with rfl | rfl | rfl
      · omega
      · split <;> omega
      · omega
    refine (mixed_ok (by omega) (by omega)).bind fun r2 _ => ?_
    have m0 := Int.emod_nonneg r2 (show (4 : Int) ≠ 0 by decide)
    have m1 := Int.emod_lt_of_pos r2 (show (0 : Int) < 4 by decide)
    refine Ok.guard ⟨by omega, by omega⟩ ?_
    refine forK_okI (P := fun pre (s : List Int) => s.length = pre.length ∧ Figs (2 + cell % 15) s) ⟨rfl, Figs.nil⟩ (fun pre2 x6 post2 s2 next2 e2 hP2 hN2 => ?_) (fun s2 hP2 => ?_)
    · have hx6 : x6 ∈ irange 0 (1 + r2 % 4) := by rw [e2]; simp
      have hx6 := irange_mem.mp hx6
      have hl2 : pre2.length < 4 := by
        have := congrArg List.length e2
        rw [irange_len, List.length_append, List.length_cons] at this
        omega
      rw [_law_rule_c3]
      refine (mixed_ok (by omega) (by omega)).bind fun r3 _ => ?_
      have d0 := Int.emod_nonneg r3 (show x2 ≠ 0 by omega)
      have d1 := Int.emod_lt_of_pos r3 (show 0 < x2 by omega)
      refine Ok.guard (Dv_small (by omega) (by omega)) (Ok.guard (by omega) (hN2 _ ⟨?_, Figs.app hP2.2 (Figs.one ⟨d0, by omega⟩)⟩))
      rw [List.length_append, List.length_append, hP2.1]; rfl
    · have p1 := hP2.1
      rw [irange_len] at p1
      rw [_law_rule_k4]
      refine Ok.ite (fun hc => ?_) (fun hc => ?_)
      · rw [Bool.not_eq_true', memT_no] at hc
        refine Ok.guard (by omega) (hN _ ⟨?_, ?_, ?_⟩)
        · rw [List.length_append, List.length_append, List.length_singleton, List.length_singleton]; omega
        · refine List.nodup_append.mpr ⟨q2, List.nodup_cons.mpr ⟨(fun h => nomatch h), List.nodup_nil⟩, fun a ha b hb e => ?_⟩
          rw [List.mem_singleton] at hb
          subst e hb
          exact hc ha
        · intro z hz
          rcases List.mem_append.mp hz with hz | hz
          · exact q3 z hz
          · rw [List.mem_singleton.mp hz]
            exact ⟨hP2.2, by omega, by omega⟩
      · refine hN _ ⟨?_, q2, q3⟩
        rw [List.length_append]; omega
  · obtain ⟨q1, q2, q3⟩ := hP
    rw [irange_len] at q1
    rw [_law_rule_e2]
    refine Ok.guard (by omega) (Ok.mk ⟨?_, ?_, ?_, fun s hs => q3 s (sortT_mem.mp hs), sortT_lt q2⟩)
    · show 2 ≤ 2 + cell % 15; omega
    · show 2 + cell % 15 ≤ 16; omega
    · show (sortT s).length ≤ 4
      rw [sortT_len]; omega
theorem law_number_ok {cell k : Int} (h0 : 0 ≤ k) (h : k < 500) : Ok (_law_number cell k) fun n => 0 ≤ n ∧ n < 2 ^ 90 := by
  unfold _law_number
  refine (mixed_ok h0 (by omega)).bind fun r1 ⟨a0, a1⟩ => ?_
  refine Ok.guard (Mv_of (a := 64) (b := 64) (by omega) (by decide) (by decide) (by decide) (by decide)) ?_
  refine (mixed_ok (by omega) (by omega)).bind fun r2 _ => ?_
  have k0 := Int.emod_nonneg r2 (show (4 : Int) ≠ 0 by decide)
  have k1 := Int.emod_lt_of_pos r2 (show (0 : Int) < 4 by decide)
  refine Ok.bind (P := fun m => 0 < m ∧ m < 2 ^ 90) ?_ fun m hm => ?_
  · rcases (show r2 % 4 = 0 ∨ r2 % 4 = 1 ∨ r2 % 4 = 2 ∨ r2 % 4 = 3 by omega) with e | e | e | e <;> rw [e] <;> exact ⟨_, rfl, by decide, by decide⟩
  · refine Ok.guard (Dv_of (b := 91) hm.1 (natAbs_lt (by omega) (by omega)) (by decide) (by decide)) (Ok.mk ⟨Int.emod_nonneg _ (by omega), ?_⟩)
    have := Int.emod_lt_of_pos (r1 * (46337 * 10 ^ (9 : Int).toNat + 461)) hm.1
    omega
/-! #### the writing of a rule -/
def ruleText (r : Int × List (List Int)) : Str := Txt.join (" " : Str) (Str.ofString (toString r.1) :: r.2.map textOf)
theorem base_num {b : Int} (h : 0 ≤ b) : TL.tl (Str.ofString (toString b)) = TL.numL b.toNat := by
  obtain ⟨n, rfl⟩ : ∃ n : Nat, b = n := ⟨b.toNat, by omega⟩
  exact TL.tl_num n
theorem base_inj {a b : Int} (ha : 0 ≤ a) (hb : 0 ≤ b) (h : Str.ofString (toString a) = Str.ofString (toString b)) : a = b := by
  have := congrArg TL.tl h
  rw [base_num ha, base_num hb] at this
  have := TL.numL_inj this
  omega
theorem base_len {b : Int} (h : 0 ≤ b) (h2 : b ≤ 16) : (Str.ofString (toString b)).length ≤ 2 := by
  rw [TL.len_tl, base_num h]
  exact TL.numL_len (by decide) (by omega)
theorem parts_free {r : Int × List (List Int)} (g : GoodRule r) : ∀ p ∈ Str.ofString (toString r.1) :: r.2.map textOf, 32 ∉ TL.tl p := by
  intro p hp
  have := g.lo
  have := g.hi
  rcases List.mem_cons.mp hp with e | e
  · rw [e, base_num (by omega)]; exact TL.numL_free (by decide)
  · obtain ⟨w, hw, rfl⟩ := List.mem_map.mp e
    rw [tl_textOf]
    intro hm
    obtain ⟨d, hd, e⟩ := List.mem_map.mp hm
    have := (g.figs w hw).1 d hd
    exact sg_ne this.1 (by omega) e
theorem split_rule {r : Int × List (List Int)} (g : GoodRule r) : Txt.split (ruleText r) (" " : Str) = Str.ofString (toString r.1) :: r.2.map textOf :=
  TL.split_join (s := 32) (S := []) (by decide +kernel) (by decide +kernel) (List.cons_ne_nil _ _) (parts_free g)
theorem words_sum {r : Int × List (List Int)} (g : GoodRule r) : ((Str.ofString (toString r.1) :: r.2.map textOf).map (·.length)).sum ≤ 18 := by
  have h1 := base_len (show 0 ≤ r.1 by have := g.lo; omega) g.hi
  rw [List.map_cons, List.sum_cons]
  have h2 : ∀ ws : List (List Int), (∀ w ∈ ws, w.length ≤ 4) → ((ws.map textOf).map (·.length)).sum ≤ 4 * ws.length := by
    intro ws
    induction ws with
    | nil => intro _; exact Nat.le_refl _
    | cons w ws ih =>
      intro h
      have a := h w List.mem_cons_self
      have b := ih fun z hz => h z (List.mem_cons_of_mem _ hz)
      rw [List.map_cons, List.map_cons, List.sum_cons, textOf_len, List.length_cons]
      omega
  have := h2 r.2 fun w hw => (g.figs w hw).2.2
  have := g.few
  omega
theorem joinL_len (S : List Nat) : ∀ ls : List (List Nat), (TL.joinL S ls).length ≤ (ls.map (·.length)).sum + S.length * ls.length
  | [] => Nat.zero_le _
  | [p] => by simp [TL.joinL]
  | p :: q :: r => by
    show (p ++ (S ++ TL.joinL S (q :: r))).length ≤ _
    have := joinL_len S (q :: r)
    rw [List.length_append, List.length_append, List.map_cons, List.sum_cons, List.length_cons (a := p), Nat.mul_succ]
    omega
theorem ruleText_len {r : Int × List (List Int)} (g : GoodRule r) : (ruleText r).length ≤ 100 := by
  unfold ruleText
  rw [TL.join_eq, TL.len_tl, TL.tl_join]
  refine Nat.le_trans (joinL_len _ _) ?_
  have h1 := words_sum g
  have h2 := g.few
  rw [List.map_map, show (List.map ((fun x : List Nat => x.length) ∘ TL.tl) (Str.ofString (toString r.1) :: r.2.map textOf)) = (Str.ofString (toString r.1) :: r.2.map textOf).map (·.length) from List.map_congr_left fun x _ => (TL.len_tl x).symm, List.length_map, List.length_cons, List.length_map, show (TL.tl (" " : Str)).length = 1 from by decide +kernel]
  omega
theorem log_small {b : Int} (h : 0 ≤ b) (h2 : b ≤ 16) : b.natAbs.log2 < 1920 := by
  have : b.natAbs ≤ 16 := by omega
  have := Nat.log2_le_self b.natAbs
  omega
theorem sp_len : (" " : Str).length = 1 := by decide +kernel
theorem show_rule_eq {r : Int × List (List Int)} (g : GoodRule r) : show_rule r = some (ruleText r) := by
  have h0 := g.lo
  have h1 := g.hi
  have h2 := g.few
  unfold show_rule
  rw [is_rule_eq g, Option.bind_some, if_neg (by decide), if_pos (log_small (by omega) h1)]
  rw [forK_fmM (p := fun _ => true) (g := textOf) (B := 16777216) _ _ (fun acc x next hx hl2 => by
    have := g.figs x hx
    rw [show_rule_c1, figures_text_eq h1 this.1 (by omega), Option.bind_some, if_pos hl2, if_pos rfl]) (by rw [List.length_nil]; omega), filter_true, List.nil_append]
  have h3 := words_sum g
  rw [show_rule_k2, if_pos (by rw [List.length_singleton, List.length_map]; omega), List.singleton_append, if_pos (by rw [List.length_cons, List.length_map, sp_len]; omega)]
  rfl
theorem bases_eq {b : Int} (h : 2 ≤ b) (h2 : b ≤ 16) : (irange 2 17).filter (fun t => decide (t = b)) = [b] := by
  rcases (show b = 2 ∨ b = 3 ∨ b = 4 ∨ b = 5 ∨ b = 6 ∨ b = 7 ∨ b = 8 ∨ b = 9 ∨ b = 10 ∨ b = 11 ∨ b = 12 ∨ b = 13 ∨ b = 14 ∨ b = 15 ∨ b = 16 by omega) with rfl | rfl | rfl | rfl | rfl | rfl | rfl | rfl | rfl | rfl | rfl | rfl | rfl | rfl | rfl <;> decide
theorem read_rule_eq {r : Int × List (List Int)} (g : GoodRule r) : read_rule (ruleText r) = some r := by
  have h0 := g.lo
  have h1 := g.hi
  have h2 := g.few
  unfold read_rule
  have hl := ruleText_len g
  rw [if_pos (by omega)]
  rw [forK_fmM (p := fun t => decide (t = r.1)) (g := fun t => t) (B := 16777216) _ _ (fun acc x next hx hl2 => by
    have hx := irange_mem.mp hx
    rw [read_rule_c1, if_pos (log_small (by omega) (by omega)), split_rule g, atI0, Option.bind_some]
    by_cases e : x = r.1
    · rw [if_pos (decide_eq_true (by rw [e])), if_pos (decide_eq_true e), if_pos hl2]
    · rw [if_neg (by rw [decide_eq_true_eq]; exact fun z => e (base_inj (by omega) (by omega) z)), if_neg (by rw [decide_eq_true_eq]; exact e)]) (by rw [List.length_nil, irange_len]; decide)]
  rw [bases_eq h0 h1, List.map_id', List.nil_append, read_rule_k2, if_neg (by rw [Bool.not_eq_true, eqT_no]; exact List.cons_ne_nil _ _), atI0, Option.bind_some, split_rule g, cut_drop (by decide) (by rw [List.length_cons]; omega)]
  show forK _ (List.drop 1 _) _ _ = _
  rw [List.drop_one, List.tail_cons]
  rw [forK_fmM (p := fun _ => true) (g := fun t => (read_figures r.1 t).getD []) (B := 16777216) _ _ (fun acc x next hx hl2 => by
    obtain ⟨w, hw, rfl⟩ := List.mem_map.mp hx
    have := g.figs w hw
    rw [read_rule_c3, atI0, Option.bind_some, read_figures_eq h0 h1 this.1 (List.length_pos_iff.mp this.2.1) (by omega), Option.bind_some, if_pos hl2, if_pos rfl]; rfl) (by rw [List.length_nil, List.length_map]; omega), filter_true, List.nil_append, List.map_map]
  rw [show r.2.map ((fun t => (read_figures r.1 t).getD []) ∘ textOf) = r.2 from by
    conv => rhs; rw [← List.map_id r.2]
    refine List.map_congr_left fun w hw => ?_
    have := g.figs w hw
    show (read_figures r.1 (textOf w)).getD [] = w
    rw [read_figures_eq h0 h1 this.1 (List.length_pos_iff.mp this.2.1) (by omega)]; rfl]
  rw [read_rule_k4, is_rule_eq (rule := (r.1, r.2)) g, Option.bind_some, if_neg (by decide)]
theorem ruleText_inj {r r' : Int × List (List Int)} (g : GoodRule r) (g' : GoodRule r') (h : ruleText r = ruleText r') : r = r' := by
  have := read_rule_eq g
  rw [h, read_rule_eq g'] at this
  exact (Option.some.inj this).symm
/-! #### the writing of a number -/
theorem show_number_eq {b n : Int} (h : 2 ≤ b) (h2 : b ≤ 16) (h0 : 0 ≤ n) (hn : n < 2 ^ 8000) : show_number b n = some (textOf (digs b n)) := by
  have hl : (digs b n).length ≤ 9000 := Nat.le_trans (digs_lenF h 8000 n h0 (lg_le hn)) (by decide)
  obtain ⟨d, t, e, _, hf⟩ := digs_Num h h0
  unfold show_number
  rw [figures_of_eq h h2 h0 hn, Option.bind_some, figures_text_eq h2 hf hl, Option.bind_some]
theorem read_number_eq {b n : Int} (h : 2 ≤ b) (h2 : b ≤ 16) (h0 : 0 ≤ n) (hn : n < 2 ^ 8000) : read_number b (textOf (digs b n)) = some n := by
  have hl : (digs b n).length ≤ 9000 := Nat.le_trans (digs_lenF h 8000 n h0 (lg_le hn)) (by decide)
  have hN := digs_Num h h0
  have hnb := number_by_eq h h2 hN hl
  rw [val_digs h h0] at hnb
  obtain ⟨d, t, e, ht, hf⟩ := hN
  unfold read_number
  rw [is_base_eq h h2, Option.bind_some, if_neg (by decide), read_figures_eq h h2 hf (by rw [e]; exact List.cons_ne_nil _ _) hl, Option.bind_some, hnb, Option.bind_some]
  by_cases hc : 1 < ((digs b n).length : Int)
  · rw [if_pos (decide_eq_true hc)]
    rw [e, atI0, Option.bind_some, if_neg (by
      rw [decide_eq_true_eq]
      rcases ht with ht | ht
      · rw [e, ht] at hc; exact absurd hc (by simp)
      · exact ht)]
  · rw [if_neg (by rw [decide_eq_true_eq]; exact hc)]
/-! #### the law -/
theorem ltT_nodup {xs : List (List Int)} (h : xs.Pairwise fun a b => ltT a b = true) : xs.Nodup :=
  h.imp fun {a b} h e => by rw [e, ltT_irr] at h; cases h
theorem law_true (ns : List Int) : law ns = some true := by
  unfold law
  obtain ⟨N, hN⟩ : ∃ N : Int, N = (if (if (60 : Int) < (ns.length : Int) then (60 : Int) else (ns.length : Int)) > (8 : Int) then (if (60 : Int) < (ns.length : Int) then (60 : Int) else (ns.length : Int)) else (8 : Int)) := ⟨_, rfl⟩
  rw [← hN]
  have hN60 : 0 ≤ N ∧ N ≤ 60 := by rw [hN]; split <;> split <;> omega
  refine Ok.eq (Ok.guard ⟨by omega, by omega⟩ ?_)
  refine forK_okI (P := fun pre (s : List (Str × (Int × List (List Int)))) => s.length ≤ pre.length ∧ ∀ p ∈ s, GoodRule p.2 ∧ p.1 = ruleText p.2) ⟨Nat.le_refl _, fun z hz => nomatch hz⟩ (fun pre t1 post x1 next1 e hP hNx => ?_) (fun s hP => ?_)
  · obtain ⟨q1, q2⟩ := hP
    have ht : t1 ∈ irange 0 N := by rw [e]; simp
    have ht := irange_mem.mp ht
    have hl : pre.length < 60 := by
      have := congrArg List.length e
      rw [irange_len, List.length_append, List.length_cons] at this
      omega
    rw [law_b1]
    refine (cell_ok ht.1 (by omega)).bind fun r1 _ => ?_
    refine (mixed_ok ht.1 (by omega)).bind fun r2 _ => ?_
    refine law_rule_ok.bind fun r3 g => ?_
    have h0 := g.lo
    have h1 := g.hi
    have h2 := g.few
    rw [forK_fmM (p := fun _ => true) (g := fun t => t) (B := 16777216) _ _ (fun acc x next hx hl2 => by rw [law_c3, if_pos hl2, if_pos rfl]) (by rw [List.length_nil]; omega), filter_true, List.nil_append, List.map_id']
    rw [law_k4, if_pos (log_small (by omega) h1)]
    rw [forK_fmM (p := fun _ => true) (g := textOf) (B := 16777216) _ _ (fun acc x next hx hl2 => by
      have := g.figs x hx
      rw [law_c5, text_eq h1 this.1 (by omega), Option.bind_some, if_pos hl2, if_pos rfl]) (by rw [List.length_nil]; omega), filter_true, List.nil_append]
    have h3 := words_sum g
    have e2 : Txt.join (" " : Str) ([Str.ofString (toString r3.1)] ++ r3.2.map textOf) = ruleText r3 := rfl
    rw [law_k6, if_pos (by rw [List.length_singleton, List.length_map]; omega), if_pos (by rw [List.singleton_append, List.length_cons, List.length_map, sp_len]; omega), e2]
    rw [show ((r3.1, r3.2) : Int × List (List Int)) = r3 from rfl, show_rule_eq g, Option.bind_some, if_neg (by rw [decide_eq_true rfl]; decide), if_neg (by rw [eqT_iff.mpr rfl]; decide)]
    have e3 : (getT x1 (ruleText r3)).getD r3 = r3 := by
      unfold getT
      cases hf : x1.find? fun x => decide (x.1 = ruleText r3) with
      | none => rfl
      | some p =>
        have hm := List.mem_of_find?_eq_some hf
        have hp : p.1 = ruleText r3 := of_decide_eq_true (by have h9 := List.find?_some hf; exact h9)
        obtain ⟨gp, ep⟩ := q2 p hm
        exact ruleText_inj gp g (ep.symm.trans hp)
    rw [e3, if_neg (by rw [eqT_iff.mpr rfl]; decide), if_pos (by omega), read_rule_eq g, Option.bind_some, if_pos (ltT_nodup g.sorted), if_neg (by rw [eqT_iff.mpr rfl]; decide), if_pos (by omega)]
    have hn : (r3.2 ++ [[(0 : Int)]]).length ≤ 5 := by rw [List.length_append, List.length_singleton]; omega
    obtain ⟨M, hM⟩ : ∃ M, M = (r3.2 ++ [[(0 : Int)]]).length := ⟨_, rfl⟩
    rw [← hM]
    refine forK_okI (P := fun pre (s : List (List Int)) => s.length = M ∧ ∀ z ∈ s, z.length ≤ 4 + pre.length) ⟨hM.symm, fun z hz => ?_⟩ (fun pre2 t4 post2 s2 next2 e4 hP2 hN2 => ?_) (fun s2 _ => ?_)
    · rcases List.mem_append.mp hz with hz | hz
      · have := g.figs z hz
        rw [List.length_nil]; omega
      · rw [List.mem_singleton.mp hz, List.length_singleton]; omega
    · have ht4 : t4 ∈ List.range M := by rw [e4]; simp
      have ht4 := List.mem_range.mp ht4
      have hl2 : pre2.length < 5 := by
        have := congrArg List.length e4
        rw [List.length_range, List.length_append, List.length_cons] at this
        omega
      rw [law_b7, List.getElem?_eq_getElem (by rw [hP2.1]; exact ht4), Option.bind_some]
      have hz := hP2.2 _ (List.getElem_mem (by rw [hP2.1]; exact ht4 : t4 < s2.length))
      refine Ok.guard (by omega) (hN2 _ ⟨by rw [List.length_set]; exact hP2.1, fun z hm => ?_⟩)
      rw [List.length_append, List.length_singleton]
      rcases List.mem_or_eq_of_mem_set hm with h | h
      · have := hP2.2 z h; omega
      · rw [h, List.length_append, List.length_singleton]; omega
    · rw [law_e8]
      refine (mixed_ok (by decide) (by decide)).bind fun r7 _ => ?_
      refine (law_number_ok (by decide) (by decide)).bind fun n hn => ?_
      have hn8 : n < 2 ^ 8000 := Int.lt_of_lt_of_le hn.2 (pow_mono (by decide) (by decide))
      have hl : (digs r3.1 n).length ≤ 9000 := Nat.le_trans (digs_lenF h0 8000 n hn.1 (lg_le hn8)) (by decide)
      obtain ⟨d, t, _, _, hf⟩ := digs_Num h0 hn.1
      rw [law_figs_eq h0 h1 hn.1 hn8, Option.bind_some, text_eq h1 hf hl, Option.bind_some, show_number_eq h0 h1 hn.1 hn8, Option.bind_some, if_neg (by rw [decide_eq_true rfl]; decide), read_number_eq h0 h1 hn.1 hn8, Option.bind_some, if_neg (by rw [decide_eq_true rfl]; decide), show_rule_eq g, Option.bind_some, read_rule_eq g, Option.bind_some, if_neg (by rw [eqT_iff.mpr rfl]; decide)]
      refine hNx _ ⟨?_, ?_⟩
      · unfold putT
        split
        · rw [List.length_map, List.length_append]; omega
        · rw [List.length_append, List.length_append, List.length_singleton, List.length_singleton]; omega
      · intro p hp
        have e2 : Txt.join (" " : Str) ([Str.ofString (toString r3.1)] ++ r3.2.map textOf) = ruleText r3 := rfl
        rw [e2] at hp
        unfold putT at hp
        split at hp
        · obtain ⟨y, hy, rfl⟩ := List.mem_map.mp hp
          split
          · next h => exact ⟨g, h⟩
          · exact q2 y hy
        · rcases List.mem_append.mp hp with h | h
          · exact q2 p h
          · rw [List.mem_singleton.mp h]; exact ⟨g, rfl⟩
  · rw [law_e2]; exact Ok.mk rfl

theorem all_mk {l : PySem.W.OpenLaw} {w : World} {K : PySem.W.Frag} {h : Heap} {mg : Str → Option Value} {fa : Addr}
    (X : K.In h) (G : h.Ns mainGlobals mg) (hfa : mg "law" = some (.ref fa))
    {f__law_cell : Addr} {od__law_cell an__law_cell : Option Addr} {sl__law_cell : Array (Option Value)} {oc__law_cell kV__law_cell dc__law_cell pm__law_cell cd__law_cell ct__law_cell : Value}
    (a__law_cell : PySem.W.nsIn K mainGlobals "_law_cell" = some (some (.ref f__law_cell)))
    (l__law_cell : K.lookup f__law_cell = some ⟨oc__law_cell, od__law_cell, .func (PySem.W.fnOf "_law_cell" "_law_cell" (defArgs s__law_cell) (defBody s__law_cell) (defScope s__law_cell) .none kV__law_cell dc__law_cell pm__law_cell an__law_cell cd__law_cell ct__law_cell), sl__law_cell⟩)
    (c__law_cell : PySem.W.codeIn K cd__law_cell "_law_cell" = true) (k__law_cell : PySem.W.keepIn K (.ref f__law_cell) = true)
    {f__law_figures : Addr} {od__law_figures an__law_figures : Option Addr} {sl__law_figures : Array (Option Value)} {oc__law_figures kV__law_figures dc__law_figures pm__law_figures cd__law_figures ct__law_figures : Value}
    (a__law_figures : PySem.W.nsIn K mainGlobals "_law_figures" = some (some (.ref f__law_figures)))
    (l__law_figures : K.lookup f__law_figures = some ⟨oc__law_figures, od__law_figures, .func (PySem.W.fnOf "_law_figures" "_law_figures" (defArgs s__law_figures) (defBody s__law_figures) (defScope s__law_figures) .none kV__law_figures dc__law_figures pm__law_figures an__law_figures cd__law_figures ct__law_figures), sl__law_figures⟩)
    (c__law_figures : PySem.W.codeIn K cd__law_figures "_law_figures" = true) (k__law_figures : PySem.W.keepIn K (.ref f__law_figures) = true)
    {f__law_mixed : Addr} {od__law_mixed an__law_mixed : Option Addr} {sl__law_mixed : Array (Option Value)} {oc__law_mixed kV__law_mixed dc__law_mixed pm__law_mixed cd__law_mixed ct__law_mixed : Value}
    (a__law_mixed : PySem.W.nsIn K mainGlobals "_law_mixed" = some (some (.ref f__law_mixed)))
    (l__law_mixed : K.lookup f__law_mixed = some ⟨oc__law_mixed, od__law_mixed, .func (PySem.W.fnOf "_law_mixed" "_law_mixed" (defArgs s__law_mixed) (defBody s__law_mixed) (defScope s__law_mixed) .none kV__law_mixed dc__law_mixed pm__law_mixed an__law_mixed cd__law_mixed ct__law_mixed), sl__law_mixed⟩)
    (c__law_mixed : PySem.W.codeIn K cd__law_mixed "_law_mixed" = true) (k__law_mixed : PySem.W.keepIn K (.ref f__law_mixed) = true)
    {f__law_number : Addr} {od__law_number an__law_number : Option Addr} {sl__law_number : Array (Option Value)} {oc__law_number kV__law_number dc__law_number pm__law_number cd__law_number ct__law_number : Value}
    (a__law_number : PySem.W.nsIn K mainGlobals "_law_number" = some (some (.ref f__law_number)))
    (l__law_number : K.lookup f__law_number = some ⟨oc__law_number, od__law_number, .func (PySem.W.fnOf "_law_number" "_law_number" (defArgs s__law_number) (defBody s__law_number) (defScope s__law_number) .none kV__law_number dc__law_number pm__law_number an__law_number cd__law_number ct__law_number), sl__law_number⟩)
    (c__law_number : PySem.W.codeIn K cd__law_number "_law_number" = true) (k__law_number : PySem.W.keepIn K (.ref f__law_number) = true)
    {f__law_rule : Addr} {od__law_rule an__law_rule : Option Addr} {sl__law_rule : Array (Option Value)} {oc__law_rule kV__law_rule dc__law_rule pm__law_rule cd__law_rule ct__law_rule : Value}
    (a__law_rule : PySem.W.nsIn K mainGlobals "_law_rule" = some (some (.ref f__law_rule)))
    (l__law_rule : K.lookup f__law_rule = some ⟨oc__law_rule, od__law_rule, .func (PySem.W.fnOf "_law_rule" "_law_rule" (defArgs s__law_rule) (defBody s__law_rule) (defScope s__law_rule) .none kV__law_rule dc__law_rule pm__law_rule an__law_rule cd__law_rule ct__law_rule), sl__law_rule⟩)
    (c__law_rule : PySem.W.codeIn K cd__law_rule "_law_rule" = true) (k__law_rule : PySem.W.keepIn K (.ref f__law_rule) = true)
    {f__law_text : Addr} {od__law_text an__law_text : Option Addr} {sl__law_text : Array (Option Value)} {oc__law_text kV__law_text dc__law_text pm__law_text cd__law_text ct__law_text : Value}
    (a__law_text : PySem.W.nsIn K mainGlobals "_law_text" = some (some (.ref f__law_text)))
    (l__law_text : K.lookup f__law_text = some ⟨oc__law_text, od__law_text, .func (PySem.W.fnOf "_law_text" "_law_text" (defArgs s__law_text) (defBody s__law_text) (defScope s__law_text) .none kV__law_text dc__law_text pm__law_text an__law_text cd__law_text ct__law_text), sl__law_text⟩)
    (c__law_text : PySem.W.codeIn K cd__law_text "_law_text" = true) (k__law_text : PySem.W.keepIn K (.ref f__law_text) = true)
    {f_is_whole : Addr} {od_is_whole an_is_whole : Option Addr} {sl_is_whole : Array (Option Value)} {oc_is_whole kV_is_whole dc_is_whole pm_is_whole cd_is_whole ct_is_whole : Value}
    (a_is_whole : PySem.W.nsIn K mainGlobals "is_whole" = some (some (.ref f_is_whole)))
    (l_is_whole : K.lookup f_is_whole = some ⟨oc_is_whole, od_is_whole, .func (PySem.W.fnOf "is_whole" "is_whole" (defArgs s_is_whole) (defBody s_is_whole) (defScope s_is_whole) .none kV_is_whole dc_is_whole pm_is_whole an_is_whole cd_is_whole ct_is_whole), sl_is_whole⟩)
    (c_is_whole : PySem.W.codeIn K cd_is_whole "is_whole" = true) (k_is_whole : PySem.W.keepIn K (.ref f_is_whole) = true)
    {f_is_base : Addr} {od_is_base an_is_base : Option Addr} {sl_is_base : Array (Option Value)} {oc_is_base kV_is_base dc_is_base pm_is_base cd_is_base ct_is_base : Value}
    (a_is_base : PySem.W.nsIn K mainGlobals "is_base" = some (some (.ref f_is_base)))
    (l_is_base : K.lookup f_is_base = some ⟨oc_is_base, od_is_base, .func (PySem.W.fnOf "is_base" "is_base" (defArgs s_is_base) (defBody s_is_base) (defScope s_is_base) .none kV_is_base dc_is_base pm_is_base an_is_base cd_is_base ct_is_base), sl_is_base⟩)
    (c_is_base : PySem.W.codeIn K cd_is_base "is_base" = true) (k_is_base : PySem.W.keepIn K (.ref f_is_base) = true)
    {f_is_figure : Addr} {od_is_figure an_is_figure : Option Addr} {sl_is_figure : Array (Option Value)} {oc_is_figure kV_is_figure dc_is_figure pm_is_figure cd_is_figure ct_is_figure : Value}
    (a_is_figure : PySem.W.nsIn K mainGlobals "is_figure" = some (some (.ref f_is_figure)))
    (l_is_figure : K.lookup f_is_figure = some ⟨oc_is_figure, od_is_figure, .func (PySem.W.fnOf "is_figure" "is_figure" (defArgs s_is_figure) (defBody s_is_figure) (defScope s_is_figure) .none kV_is_figure dc_is_figure pm_is_figure an_is_figure cd_is_figure ct_is_figure), sl_is_figure⟩)
    (c_is_figure : PySem.W.codeIn K cd_is_figure "is_figure" = true) (k_is_figure : PySem.W.keepIn K (.ref f_is_figure) = true)
    {f_are_figures : Addr} {od_are_figures an_are_figures : Option Addr} {sl_are_figures : Array (Option Value)} {oc_are_figures kV_are_figures dc_are_figures pm_are_figures cd_are_figures ct_are_figures : Value}
    (a_are_figures : PySem.W.nsIn K mainGlobals "are_figures" = some (some (.ref f_are_figures)))
    (l_are_figures : K.lookup f_are_figures = some ⟨oc_are_figures, od_are_figures, .func (PySem.W.fnOf "are_figures" "are_figures" (defArgs s_are_figures) (defBody s_are_figures) (defScope s_are_figures) .none kV_are_figures dc_are_figures pm_are_figures an_are_figures cd_are_figures ct_are_figures), sl_are_figures⟩)
    (c_are_figures : PySem.W.codeIn K cd_are_figures "are_figures" = true) (k_are_figures : PySem.W.keepIn K (.ref f_are_figures) = true)
    {f_need_base : Addr} {od_need_base an_need_base : Option Addr} {sl_need_base : Array (Option Value)} {oc_need_base kV_need_base dc_need_base pm_need_base cd_need_base ct_need_base : Value}
    (a_need_base : PySem.W.nsIn K mainGlobals "need_base" = some (some (.ref f_need_base)))
    (l_need_base : K.lookup f_need_base = some ⟨oc_need_base, od_need_base, .func (PySem.W.fnOf "need_base" "need_base" (defArgs s_need_base) (defBody s_need_base) (defScope s_need_base) .none kV_need_base dc_need_base pm_need_base an_need_base cd_need_base ct_need_base), sl_need_base⟩)
    (c_need_base : PySem.W.codeIn K cd_need_base "need_base" = true) (k_need_base : PySem.W.keepIn K (.ref f_need_base) = true)
    {f_worth : Addr} {od_worth an_worth : Option Addr} {sl_worth : Array (Option Value)} {oc_worth kV_worth dc_worth pm_worth cd_worth ct_worth : Value}
    (a_worth : PySem.W.nsIn K mainGlobals "worth" = some (some (.ref f_worth)))
    (l_worth : K.lookup f_worth = some ⟨oc_worth, od_worth, .func (PySem.W.fnOf "worth" "worth" (defArgs s_worth) (defBody s_worth) (defScope s_worth) .none kV_worth dc_worth pm_worth an_worth cd_worth ct_worth), sl_worth⟩)
    (c_worth : PySem.W.codeIn K cd_worth "worth" = true) (k_worth : PySem.W.keepIn K (.ref f_worth) = true)
    {f_number_by : Addr} {od_number_by an_number_by : Option Addr} {sl_number_by : Array (Option Value)} {oc_number_by kV_number_by dc_number_by pm_number_by cd_number_by ct_number_by : Value}
    (a_number_by : PySem.W.nsIn K mainGlobals "number_by" = some (some (.ref f_number_by)))
    (l_number_by : K.lookup f_number_by = some ⟨oc_number_by, od_number_by, .func (PySem.W.fnOf "number_by" "number_by" (defArgs s_number_by) (defBody s_number_by) (defScope s_number_by) .none kV_number_by dc_number_by pm_number_by an_number_by cd_number_by ct_number_by), sl_number_by⟩)
    (c_number_by : PySem.W.codeIn K cd_number_by "number_by" = true) (k_number_by : PySem.W.keepIn K (.ref f_number_by) = true)
    {f_read_figures : Addr} {od_read_figures an_read_figures : Option Addr} {sl_read_figures : Array (Option Value)} {oc_read_figures kV_read_figures dc_read_figures pm_read_figures cd_read_figures ct_read_figures : Value}
    (a_read_figures : PySem.W.nsIn K mainGlobals "read_figures" = some (some (.ref f_read_figures)))
    (l_read_figures : K.lookup f_read_figures = some ⟨oc_read_figures, od_read_figures, .func (PySem.W.fnOf "read_figures" "read_figures" (defArgs s_read_figures) (defBody s_read_figures) (defScope s_read_figures) .none kV_read_figures dc_read_figures pm_read_figures an_read_figures cd_read_figures ct_read_figures), sl_read_figures⟩)
    (c_read_figures : PySem.W.codeIn K cd_read_figures "read_figures" = true) (k_read_figures : PySem.W.keepIn K (.ref f_read_figures) = true)
    {f_read_number : Addr} {od_read_number an_read_number : Option Addr} {sl_read_number : Array (Option Value)} {oc_read_number kV_read_number dc_read_number pm_read_number cd_read_number ct_read_number : Value}
    (a_read_number : PySem.W.nsIn K mainGlobals "read_number" = some (some (.ref f_read_number)))
    (l_read_number : K.lookup f_read_number = some ⟨oc_read_number, od_read_number, .func (PySem.W.fnOf "read_number" "read_number" (defArgs s_read_number) (defBody s_read_number) (defScope s_read_number) .none kV_read_number dc_read_number pm_read_number an_read_number cd_read_number ct_read_number), sl_read_number⟩)
    (c_read_number : PySem.W.codeIn K cd_read_number "read_number" = true) (k_read_number : PySem.W.keepIn K (.ref f_read_number) = true)
    {f_is_stretch : Addr} {od_is_stretch an_is_stretch : Option Addr} {sl_is_stretch : Array (Option Value)} {oc_is_stretch kV_is_stretch dc_is_stretch pm_is_stretch cd_is_stretch ct_is_stretch : Value}
    (a_is_stretch : PySem.W.nsIn K mainGlobals "is_stretch" = some (some (.ref f_is_stretch)))
    (l_is_stretch : K.lookup f_is_stretch = some ⟨oc_is_stretch, od_is_stretch, .func (PySem.W.fnOf "is_stretch" "is_stretch" (defArgs s_is_stretch) (defBody s_is_stretch) (defScope s_is_stretch) .none kV_is_stretch dc_is_stretch pm_is_stretch an_is_stretch cd_is_stretch ct_is_stretch), sl_is_stretch⟩)
    (c_is_stretch : PySem.W.codeIn K cd_is_stretch "is_stretch" = true) (k_is_stretch : PySem.W.keepIn K (.ref f_is_stretch) = true)
    {f_is_rule : Addr} {od_is_rule an_is_rule : Option Addr} {sl_is_rule : Array (Option Value)} {oc_is_rule kV_is_rule dc_is_rule pm_is_rule cd_is_rule ct_is_rule : Value}
    (a_is_rule : PySem.W.nsIn K mainGlobals "is_rule" = some (some (.ref f_is_rule)))
    (l_is_rule : K.lookup f_is_rule = some ⟨oc_is_rule, od_is_rule, .func (PySem.W.fnOf "is_rule" "is_rule" (defArgs s_is_rule) (defBody s_is_rule) (defScope s_is_rule) .none kV_is_rule dc_is_rule pm_is_rule an_is_rule cd_is_rule ct_is_rule), sl_is_rule⟩)
    (c_is_rule : PySem.W.codeIn K cd_is_rule "is_rule" = true) (k_is_rule : PySem.W.keepIn K (.ref f_is_rule) = true)
    {f_read_rule : Addr} {od_read_rule an_read_rule : Option Addr} {sl_read_rule : Array (Option Value)} {oc_read_rule kV_read_rule dc_read_rule pm_read_rule cd_read_rule ct_read_rule : Value}
    (a_read_rule : PySem.W.nsIn K mainGlobals "read_rule" = some (some (.ref f_read_rule)))
    (l_read_rule : K.lookup f_read_rule = some ⟨oc_read_rule, od_read_rule, .func (PySem.W.fnOf "read_rule" "read_rule" (defArgs s_read_rule) (defBody s_read_rule) (defScope s_read_rule) .none kV_read_rule dc_read_rule pm_read_rule an_read_rule cd_read_rule ct_read_rule), sl_read_rule⟩)
    (c_read_rule : PySem.W.codeIn K cd_read_rule "read_rule" = true) (k_read_rule : PySem.W.keepIn K (.ref f_read_rule) = true)
    {f_need_from : Addr} {od_need_from an_need_from : Option Addr} {sl_need_from : Array (Option Value)} {oc_need_from kV_need_from dc_need_from pm_need_from cd_need_from ct_need_from : Value}
    (a_need_from : PySem.W.nsIn K mainGlobals "need_from" = some (some (.ref f_need_from)))
    (l_need_from : K.lookup f_need_from = some ⟨oc_need_from, od_need_from, .func (PySem.W.fnOf "need_from" "need_from" (defArgs s_need_from) (defBody s_need_from) (defScope s_need_from) .none kV_need_from dc_need_from pm_need_from an_need_from cd_need_from ct_need_from), sl_need_from⟩)
    (c_need_from : PySem.W.codeIn K cd_need_from "need_from" = true) (k_need_from : PySem.W.keepIn K (.ref f_need_from) = true)
    {f_written : Addr} {od_written an_written : Option Addr} {sl_written : Array (Option Value)} {oc_written kV_written dc_written pm_written cd_written ct_written : Value}
    (a_written : PySem.W.nsIn K mainGlobals "written" = some (some (.ref f_written)))
    (l_written : K.lookup f_written = some ⟨oc_written, od_written, .func (PySem.W.fnOf "written" "written" (defArgs s_written) (defBody s_written) (defScope s_written) .none kV_written dc_written pm_written an_written cd_written ct_written), sl_written⟩)
    (c_written : PySem.W.codeIn K cd_written "written" = true) (k_written : PySem.W.keepIn K (.ref f_written) = true)
    {f_figures_of : Addr} {od_figures_of an_figures_of : Option Addr} {sl_figures_of : Array (Option Value)} {oc_figures_of kV_figures_of dc_figures_of pm_figures_of cd_figures_of ct_figures_of : Value}
    (a_figures_of : PySem.W.nsIn K mainGlobals "figures_of" = some (some (.ref f_figures_of)))
    (l_figures_of : K.lookup f_figures_of = some ⟨oc_figures_of, od_figures_of, .func (PySem.W.fnOf "figures_of" "figures_of" (defArgs s_figures_of) (defBody s_figures_of) (defScope s_figures_of) .none kV_figures_of dc_figures_of pm_figures_of an_figures_of cd_figures_of ct_figures_of), sl_figures_of⟩)
    (c_figures_of : PySem.W.codeIn K cd_figures_of "figures_of" = true) (k_figures_of : PySem.W.keepIn K (.ref f_figures_of) = true)
    {f_figures_text : Addr} {od_figures_text an_figures_text : Option Addr} {sl_figures_text : Array (Option Value)} {oc_figures_text kV_figures_text dc_figures_text pm_figures_text cd_figures_text ct_figures_text : Value}
    (a_figures_text : PySem.W.nsIn K mainGlobals "figures_text" = some (some (.ref f_figures_text)))
    (l_figures_text : K.lookup f_figures_text = some ⟨oc_figures_text, od_figures_text, .func (PySem.W.fnOf "figures_text" "figures_text" (defArgs s_figures_text) (defBody s_figures_text) (defScope s_figures_text) .none kV_figures_text dc_figures_text pm_figures_text an_figures_text cd_figures_text ct_figures_text), sl_figures_text⟩)
    (c_figures_text : PySem.W.codeIn K cd_figures_text "figures_text" = true) (k_figures_text : PySem.W.keepIn K (.ref f_figures_text) = true)
    {f_show_number : Addr} {od_show_number an_show_number : Option Addr} {sl_show_number : Array (Option Value)} {oc_show_number kV_show_number dc_show_number pm_show_number cd_show_number ct_show_number : Value}
    (a_show_number : PySem.W.nsIn K mainGlobals "show_number" = some (some (.ref f_show_number)))
    (l_show_number : K.lookup f_show_number = some ⟨oc_show_number, od_show_number, .func (PySem.W.fnOf "show_number" "show_number" (defArgs s_show_number) (defBody s_show_number) (defScope s_show_number) .none kV_show_number dc_show_number pm_show_number an_show_number cd_show_number ct_show_number), sl_show_number⟩)
    (c_show_number : PySem.W.codeIn K cd_show_number "show_number" = true) (k_show_number : PySem.W.keepIn K (.ref f_show_number) = true)
    {f_show_rule : Addr} {od_show_rule an_show_rule : Option Addr} {sl_show_rule : Array (Option Value)} {oc_show_rule kV_show_rule dc_show_rule pm_show_rule cd_show_rule ct_show_rule : Value}
    (a_show_rule : PySem.W.nsIn K mainGlobals "show_rule" = some (some (.ref f_show_rule)))
    (l_show_rule : K.lookup f_show_rule = some ⟨oc_show_rule, od_show_rule, .func (PySem.W.fnOf "show_rule" "show_rule" (defArgs s_show_rule) (defBody s_show_rule) (defScope s_show_rule) .none kV_show_rule dc_show_rule pm_show_rule an_show_rule cd_show_rule ct_show_rule), sl_show_rule⟩)
    (c_show_rule : PySem.W.codeIn K cd_show_rule "show_rule" = true) (k_show_rule : PySem.W.keepIn K (.ref f_show_rule) = true)
    {f_law : Addr} {od_law an_law : Option Addr} {sl_law : Array (Option Value)} {oc_law kV_law dc_law pm_law cd_law ct_law : Value}
    (a_law : PySem.W.nsIn K mainGlobals "law" = some (some (.ref f_law)))
    (l_law : K.lookup f_law = some ⟨oc_law, od_law, .func (PySem.W.fnOf "law" "law" (defArgs s_law) (defBody s_law) (defScope s_law) .none kV_law dc_law pm_law an_law cd_law ct_law), sl_law⟩)
    (c_law : PySem.W.codeIn K cd_law "law" = true) (k_law : PySem.W.keepIn K (.ref f_law) = true)
    {t_LEAST_BASE : Tok} (g_LEAST_BASE : PySem.W.nsIn K mainGlobals "LEAST_BASE" = some (some (.int 2 t_LEAST_BASE)))
    {t_MOST_BASE : Tok} (g_MOST_BASE : PySem.W.nsIn K mainGlobals "MOST_BASE" = some (some (.int 16 t_MOST_BASE)))
    {t_MOST_FIGURES : Tok} (g_MOST_FIGURES : PySem.W.nsIn K mainGlobals "MOST_FIGURES" = some (some (.int 4 t_MOST_FIGURES)))
    {t_MOST_STRETCHES : Tok} (g_MOST_STRETCHES : PySem.W.nsIn K mainGlobals "MOST_STRETCHES" = some (some (.int 4 t_MOST_STRETCHES)))
    {t_SIGNS : Tok} (g_SIGNS : PySem.W.nsIn K mainGlobals "SIGNS" = some (some (.str ("0123456789abcdef" : Str) t_SIGNS)))
    (z_abs : PySem.W.nsIn K mainGlobals "abs" = some none)
    (z_bool : PySem.W.nsIn K mainGlobals "bool" = some none)
    (z_int : PySem.W.nsIn K mainGlobals "int" = some none)
    (z_isinstance : PySem.W.nsIn K mainGlobals "isinstance" = some none)
    (z_len : PySem.W.nsIn K mainGlobals "len" = some none)
    (z_list : PySem.W.nsIn K mainGlobals "list" = some none)
    (z_max : PySem.W.nsIn K mainGlobals "max" = some none)
    (z_min : PySem.W.nsIn K mainGlobals "min" = some none)
    (z_range : PySem.W.nsIn K mainGlobals "range" = some none)
    (z_sorted : PySem.W.nsIn K mainGlobals "sorted" = some none)
    (z_str : PySem.W.nsIn K mainGlobals "str" = some none)
    (z_tuple : PySem.W.nsIn K mainGlobals "tuple" = some none) :
    ∃ fd : FuncData, (∀ (s : Shared) (v : Value), BindsTo s fd ⟨[v], []⟩ [("script", v)]) ∧ ∀ base : Heap, K.In base → base.Ns mainGlobals mg → FnOk l.prog w K mg base CX0 7 fa fd ["script"] (sp_law K) := by
  have e := hfa.symm.trans (PySem.W.mg_of X G a_law)
  cases e
  let T : Txt K mg := {
    f__law_cell := ⟨_, _, fun_mk l__law_cell c__law_cell k__law_cell, PySem.W.mg_of X G a__law_cell, (fun_mk (st := s__law_cell) l__law_cell c__law_cell k__law_cell).binds (ps := ["script", "k"]) (fun _ _ _ _ _ _ us hl => match us, hl with | [_, _], _ => rfl)⟩,
    f__law_figures := ⟨_, _, fun_mk l__law_figures c__law_figures k__law_figures, PySem.W.mg_of X G a__law_figures, (fun_mk (st := s__law_figures) l__law_figures c__law_figures k__law_figures).binds (ps := ["base", "n"]) (fun _ _ _ _ _ _ us hl => match us, hl with | [_, _], _ => rfl)⟩,
    f__law_mixed := ⟨_, _, fun_mk l__law_mixed c__law_mixed k__law_mixed, PySem.W.mg_of X G a__law_mixed, (fun_mk (st := s__law_mixed) l__law_mixed c__law_mixed k__law_mixed).binds (ps := ["cell", "k"]) (fun _ _ _ _ _ _ us hl => match us, hl with | [_, _], _ => rfl)⟩,
    f__law_number := ⟨_, _, fun_mk l__law_number c__law_number k__law_number, PySem.W.mg_of X G a__law_number, (fun_mk (st := s__law_number) l__law_number c__law_number k__law_number).binds (ps := ["cell", "k"]) (fun _ _ _ _ _ _ us hl => match us, hl with | [_, _], _ => rfl)⟩,
    f__law_rule := ⟨_, _, fun_mk l__law_rule c__law_rule k__law_rule, PySem.W.mg_of X G a__law_rule, (fun_mk (st := s__law_rule) l__law_rule c__law_rule k__law_rule).binds (ps := ["cell"]) (fun _ _ _ _ _ _ us hl => match us, hl with | [_], _ => rfl)⟩,
    f__law_text := ⟨_, _, fun_mk l__law_text c__law_text k__law_text, PySem.W.mg_of X G a__law_text, (fun_mk (st := s__law_text) l__law_text c__law_text k__law_text).binds (ps := ["figures"]) (fun _ _ _ _ _ _ us hl => match us, hl with | [_], _ => rfl)⟩,
    f_is_whole := ⟨_, _, fun_mk l_is_whole c_is_whole k_is_whole, PySem.W.mg_of X G a_is_whole, (fun_mk (st := s_is_whole) l_is_whole c_is_whole k_is_whole).binds (ps := ["thing"]) (fun _ _ _ _ _ _ us hl => match us, hl with | [_], _ => rfl)⟩,
    f_is_base := ⟨_, _, fun_mk l_is_base c_is_base k_is_base, PySem.W.mg_of X G a_is_base, (fun_mk (st := s_is_base) l_is_base c_is_base k_is_base).binds (ps := ["thing"]) (fun _ _ _ _ _ _ us hl => match us, hl with | [_], _ => rfl)⟩,
    f_is_figure := ⟨_, _, fun_mk l_is_figure c_is_figure k_is_figure, PySem.W.mg_of X G a_is_figure, (fun_mk (st := s_is_figure) l_is_figure c_is_figure k_is_figure).binds (ps := ["base", "thing"]) (fun _ _ _ _ _ _ us hl => match us, hl with | [_, _], _ => rfl)⟩,
    f_are_figures := ⟨_, _, fun_mk l_are_figures c_are_figures k_are_figures, PySem.W.mg_of X G a_are_figures, (fun_mk (st := s_are_figures) l_are_figures c_are_figures k_are_figures).binds (ps := ["base", "thing"]) (fun _ _ _ _ _ _ us hl => match us, hl with | [_, _], _ => rfl)⟩,
    f_need_base := ⟨_, _, fun_mk l_need_base c_need_base k_need_base, PySem.W.mg_of X G a_need_base, (fun_mk (st := s_need_base) l_need_base c_need_base k_need_base).binds (ps := ["thing"]) (fun _ _ _ _ _ _ us hl => match us, hl with | [_], _ => rfl)⟩,
    f_worth := ⟨_, _, fun_mk l_worth c_worth k_worth, PySem.W.mg_of X G a_worth, (fun_mk (st := s_worth) l_worth c_worth k_worth).binds (ps := ["base", "figures"]) (fun _ _ _ _ _ _ us hl => match us, hl with | [_, _], _ => rfl)⟩,
    f_number_by := ⟨_, _, fun_mk l_number_by c_number_by k_number_by, PySem.W.mg_of X G a_number_by, (fun_mk (st := s_number_by) l_number_by c_number_by k_number_by).binds (ps := ["base", "figures"]) (fun _ _ _ _ _ _ us hl => match us, hl with | [_, _], _ => rfl)⟩,
    f_read_figures := ⟨_, _, fun_mk l_read_figures c_read_figures k_read_figures, PySem.W.mg_of X G a_read_figures, (fun_mk (st := s_read_figures) l_read_figures c_read_figures k_read_figures).binds (ps := ["base", "word"]) (fun _ _ _ _ _ _ us hl => match us, hl with | [_, _], _ => rfl)⟩,
    f_read_number := ⟨_, _, fun_mk l_read_number c_read_number k_read_number, PySem.W.mg_of X G a_read_number, (fun_mk (st := s_read_number) l_read_number c_read_number k_read_number).binds (ps := ["base", "text"]) (fun _ _ _ _ _ _ us hl => match us, hl with | [_, _], _ => rfl)⟩,
    f_is_stretch := ⟨_, _, fun_mk l_is_stretch c_is_stretch k_is_stretch, PySem.W.mg_of X G a_is_stretch, (fun_mk (st := s_is_stretch) l_is_stretch c_is_stretch k_is_stretch).binds (ps := ["base", "thing"]) (fun _ _ _ _ _ _ us hl => match us, hl with | [_, _], _ => rfl)⟩,
    f_is_rule := ⟨_, _, fun_mk l_is_rule c_is_rule k_is_rule, PySem.W.mg_of X G a_is_rule, (fun_mk (st := s_is_rule) l_is_rule c_is_rule k_is_rule).binds (ps := ["thing"]) (fun _ _ _ _ _ _ us hl => match us, hl with | [_], _ => rfl)⟩,
    f_read_rule := ⟨_, _, fun_mk l_read_rule c_read_rule k_read_rule, PySem.W.mg_of X G a_read_rule, (fun_mk (st := s_read_rule) l_read_rule c_read_rule k_read_rule).binds (ps := ["text"]) (fun _ _ _ _ _ _ us hl => match us, hl with | [_], _ => rfl)⟩,
    f_need_from := ⟨_, _, fun_mk l_need_from c_need_from k_need_from, PySem.W.mg_of X G a_need_from, (fun_mk (st := s_need_from) l_need_from c_need_from k_need_from).binds (ps := ["thing", "least"]) (fun _ _ _ _ _ _ us hl => match us, hl with | [_, _], _ => rfl)⟩,
    f_written := ⟨_, _, fun_mk l_written c_written k_written, PySem.W.mg_of X G a_written, (fun_mk (st := s_written) l_written c_written k_written).binds (ps := ["base", "n"]) (fun _ _ _ _ _ _ us hl => match us, hl with | [_, _], _ => rfl)⟩,
    f_figures_of := ⟨_, _, fun_mk l_figures_of c_figures_of k_figures_of, PySem.W.mg_of X G a_figures_of, (fun_mk (st := s_figures_of) l_figures_of c_figures_of k_figures_of).binds (ps := ["base", "n"]) (fun _ _ _ _ _ _ us hl => match us, hl with | [_, _], _ => rfl)⟩,
    f_figures_text := ⟨_, _, fun_mk l_figures_text c_figures_text k_figures_text, PySem.W.mg_of X G a_figures_text, (fun_mk (st := s_figures_text) l_figures_text c_figures_text k_figures_text).binds (ps := ["figures"]) (fun _ _ _ _ _ _ us hl => match us, hl with | [_], _ => rfl)⟩,
    f_show_number := ⟨_, _, fun_mk l_show_number c_show_number k_show_number, PySem.W.mg_of X G a_show_number, (fun_mk (st := s_show_number) l_show_number c_show_number k_show_number).binds (ps := ["base", "n"]) (fun _ _ _ _ _ _ us hl => match us, hl with | [_, _], _ => rfl)⟩,
    f_show_rule := ⟨_, _, fun_mk l_show_rule c_show_rule k_show_rule, PySem.W.mg_of X G a_show_rule, (fun_mk (st := s_show_rule) l_show_rule c_show_rule k_show_rule).binds (ps := ["rule"]) (fun _ _ _ _ _ _ us hl => match us, hl with | [_], _ => rfl)⟩,
    f_law := ⟨_, _, fun_mk l_law c_law k_law, PySem.W.mg_of X G a_law, (fun_mk (st := s_law) l_law c_law k_law).binds (ps := ["script"]) (fun _ _ _ _ _ _ us hl => match us, hl with | [_], _ => rfl)⟩,
    c_LEAST_BASE := ⟨t_LEAST_BASE, PySem.W.mg_of X G g_LEAST_BASE⟩,
    c_MOST_BASE := ⟨t_MOST_BASE, PySem.W.mg_of X G g_MOST_BASE⟩,
    c_MOST_FIGURES := ⟨t_MOST_FIGURES, PySem.W.mg_of X G g_MOST_FIGURES⟩,
    c_MOST_STRETCHES := ⟨t_MOST_STRETCHES, PySem.W.mg_of X G g_MOST_STRETCHES⟩,
    c_SIGNS := ⟨t_SIGNS, PySem.W.mg_of X G g_SIGNS⟩,
    z_abs := PySem.W.mg_none_of X G z_abs,
    z_bool := PySem.W.mg_none_of X G z_bool,
    z_int := PySem.W.mg_none_of X G z_int,
    z_isinstance := PySem.W.mg_none_of X G z_isinstance,
    z_len := PySem.W.mg_none_of X G z_len,
    z_list := PySem.W.mg_none_of X G z_list,
    z_max := PySem.W.mg_none_of X G z_max,
    z_min := PySem.W.mg_none_of X G z_min,
    z_range := PySem.W.mg_none_of X G z_range,
    z_sorted := PySem.W.mg_none_of X G z_sorted,
    z_str := PySem.W.mg_none_of X G z_str,
    z_tuple := PySem.W.mg_none_of X G z_tuple }
  exact ⟨T.f_law.fd, fun s v => .of_eq rfl, fun base _ _ => ok_law T⟩
end My
open PySem PySem.W PyProof.Rows
set_option maxHeartbeats 0 in
theorem PySem.Challenge.cw_lackstretch_k37_rules_and_numbers_writte_holds : PySem.Challenge.rw_lackstretch_k37_rules_and_numbers_writte.Holds := by
  w_on; o_law; k_head; (case hw => w_witness2)
  k_fill
  refine L2.walk_of (l := PySem.Challenge.rw_lackstretch_k37_rules_and_numbers_writte) (n := 63) (k := 7) (x := "script") (CX := fun _ => L2.CX0) (sp := fun w => My.sp_law _) rfl (by decide) rfl ⟨rfl, by decide, by decide⟩ (fun w h Y => PySem.W.kIn_of Y) ?F (fun _ _ a ns hl _ hS => ⟨a, ns, rfl, hS, My.law_true ns, fun _ => rfl⟩) (fun _ _ _ _ _ h => h)
  case F =>
    intro w mg fa h KX G hmg
    refine' My.all_mk KX G hmg ?a__law_cell ?l__law_cell ?c__law_cell ?k__law_cell ?a__law_figures ?l__law_figures ?c__law_figures ?k__law_figures ?a__law_mixed ?l__law_mixed ?c__law_mixed ?k__law_mixed ?a__law_number ?l__law_number ?c__law_number ?k__law_number ?a__law_rule ?l__law_rule ?c__law_rule ?k__law_rule ?a__law_text ?l__law_text ?c__law_text ?k__law_text ?a_is_whole ?l_is_whole ?c_is_whole ?k_is_whole ?a_is_base ?l_is_base ?c_is_base ?k_is_base ?a_is_figure ?l_is_figure ?c_is_figure ?k_is_figure ?a_are_figures ?l_are_figures ?c_are_figures ?k_are_figures ?a_need_base ?l_need_base ?c_need_base ?k_need_base ?a_worth ?l_worth ?c_worth ?k_worth ?a_number_by ?l_number_by ?c_number_by ?k_number_by ?a_read_figures ?l_read_figures ?c_read_figures ?k_read_figures ?a_read_number ?l_read_number ?c_read_number ?k_read_number ?a_is_stretch ?l_is_stretch ?c_is_stretch ?k_is_stretch ?a_is_rule ?l_is_rule ?c_is_rule ?k_is_rule ?a_read_rule ?l_read_rule ?c_read_rule ?k_read_rule ?a_need_from ?l_need_from ?c_need_from ?k_need_from ?a_written ?l_written ?c_written ?k_written ?a_figures_of ?l_figures_of ?c_figures_of ?k_figures_of ?a_figures_text ?l_figures_text ?c_figures_text ?k_figures_text ?a_show_number ?l_show_number ?c_show_number ?k_show_number ?a_show_rule ?l_show_rule ?c_show_rule ?k_show_rule ?a_law ?l_law ?c_law ?k_law ?g_LEAST_BASE ?g_MOST_BASE ?g_MOST_FIGURES ?g_MOST_STRETCHES ?g_SIGNS ?z_abs ?z_bool ?z_int ?z_isinstance ?z_len ?z_list ?z_max ?z_min ?z_range ?z_sorted ?z_str ?z_tuple
    (case a__law_cell => k_is); (case l__law_cell => k_is); (case c__law_cell => k_is); (case k__law_cell => k_is); (case a__law_figures => k_is); (case l__law_figures => k_is); (case c__law_figures => k_is); (case k__law_figures => k_is); (case a__law_mixed => k_is); (case l__law_mixed => k_is); (case c__law_mixed => k_is); (case k__law_mixed => k_is); (case a__law_number => k_is); (case l__law_number => k_is); (case c__law_number => k_is); (case k__law_number => k_is); (case a__law_rule => k_is); (case l__law_rule => k_is); (case c__law_rule => k_is); (case k__law_rule => k_is); (case a__law_text => k_is); (case l__law_text => k_is); (case c__law_text => k_is); (case k__law_text => k_is); (case a_is_whole => k_is); (case l_is_whole => k_is); (case c_is_whole => k_is); (case k_is_whole => k_is); (case a_is_base => k_is); (case l_is_base => k_is); (case c_is_base => k_is); (case k_is_base => k_is); (case a_is_figure => k_is); (case l_is_figure => k_is); (case c_is_figure => k_is); (case k_is_figure => k_is); (case a_are_figures => k_is); (case l_are_figures => k_is); (case c_are_figures => k_is); (case k_are_figures => k_is); (case a_need_base => k_is); (case l_need_base => k_is); (case c_need_base => k_is); (case k_need_base => k_is); (case a_worth => k_is); (case l_worth => k_is); (case c_worth => k_is); (case k_worth => k_is); (case a_number_by => k_is); (case l_number_by => k_is); (case c_number_by => k_is); (case k_number_by => k_is); (case a_read_figures => k_is); (case l_read_figures => k_is); (case c_read_figures => k_is); (case k_read_figures => k_is); (case a_read_number => k_is); (case l_read_number => k_is); (case c_read_number => k_is); (case k_read_number => k_is); (case a_is_stretch => k_is); (case l_is_stretch => k_is); (case c_is_stretch => k_is); (case k_is_stretch => k_is); (case a_is_rule => k_is); (case l_is_rule => k_is); (case c_is_rule => k_is); (case k_is_rule => k_is); (case a_read_rule => k_is); (case l_read_rule => k_is); (case c_read_rule => k_is); (case k_read_rule => k_is); (case a_need_from => k_is); (case l_need_from => k_is); (case c_need_from => k_is); (case k_need_from => k_is); (case a_written => k_is); (case l_written => k_is); (case c_written => k_is); (case k_written => k_is); (case a_figures_of => k_is); (case l_figures_of => k_is); (case c_figures_of => k_is); (case k_figures_of => k_is); (case a_figures_text => k_is); (case l_figures_text => k_is); (case c_figures_text => k_is); (case k_figures_text => k_is); (case a_show_number => k_is); (case l_show_number => k_is); (case c_show_number => k_is); (case k_show_number => k_is); (case a_show_rule => k_is); (case l_show_rule => k_is); (case c_show_rule => k_is); (case k_show_rule => k_is); (case a_law => k_is); (case l_law => k_is); (case c_law => k_is); (case k_law => k_is); (case g_LEAST_BASE => k_is); (case g_MOST_BASE => k_is); (case g_MOST_FIGURES => k_is); (case g_MOST_STRETCHES => k_is); (case g_SIGNS => k_is); (case z_abs => k_is); (case z_bool => k_is); (case z_int => k_is); (case z_isinstance => k_is); (case z_len => k_is); (case z_list => k_is); (case z_max => k_is); (case z_min => k_is); (case z_range => k_is); (case z_sorted => k_is); (case z_str => k_is); (case z_tuple => k_is)
