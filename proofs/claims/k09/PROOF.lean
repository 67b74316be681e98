import PyProof.Rows.All
import Wide.All
import OpenK.AllK
import Wide.FinOn
import HandS.ForMost
import HandS.Wide
import HandS.WideMore
import HandS.Style
import HandS.Evl
import HandS.Deep
import HandS.SortOrd
import HandS.IsInst
import HandS.TupLe
import HandS.TupAny
import HandS.Conv
import HandS.More
import KE.SortData
import KE.DataCmp
import HandS.Text
import HandS.Dict
import HandS.Iter
import PyProof.ReprRoads
import HandS.Exc
import HandS.ExcOwn
import HandS.ExcIs
import HandS.ExcValue
import HandS.WordsExc
import PySem.Challenge.RW_lackstretch_k09_no_rules_no_stands_no_fi
set_option Elab.async false
set_option linter.all false
set_option maxRecDepth 100000
set_option maxHeartbeats 4000000
/-! ### my base: typed data in the heap -/
namespace My
open PySem PySem.Spec PyProof.Rows L2

/-! #### data that stands in a frozen heap -/
mutual
inductive RD (F : Hp) : V → PyData → Prop
  | non : RD F .non .none
  | bl (b : Bool) : RD F (.bl b) (.bool b)
  | int (i : Int) : RD F (.int i) (.int i)
  | str (x : Str) : RD F (.str x) (.str x)
  | lst {a : Addr} {us : List V} {ds : List PyData} : F a = some (.lst us) → RDs F us ds → RD F (.ref a) (.list ds)
  | tup {a : Addr} {us : List V} {ds : List PyData} : F a = some (.tup us) → RDs F us ds → RD F (.ref a) (.tuple ds)
  | dic {a : Addr} {kvs : List (Key × V)} {ds : List (PyData × PyData)} : F a = some (.dK kvs) → RKs F kvs ds → RD F (.ref a) (.dict ds)
inductive RDs (F : Hp) : List V → List PyData → Prop
  | nil : RDs F [] []
  | cons {v : V} {us : List V} {d : PyData} {ds : List PyData} : RD F v d → RDs F us ds → RDs F (v :: us) (d :: ds)
inductive RKs (F : Hp) : List (Key × V) → List (PyData × PyData) → Prop
  | nil : RKs F [] []
  | int {i : Int} {v : V} {d : PyData} {kvs : List (Key × V)} {ds : List (PyData × PyData)} : RD F v d → RKs F kvs ds → RKs F ((.inl i, v) :: kvs) ((.int i, d) :: ds)
  | str {x : Str} {v : V} {d : PyData} {kvs : List (Key × V)} {ds : List (PyData × PyData)} : RD F v d → RKs F kvs ds → RKs F ((.inr x, v) :: kvs) ((.str x, d) :: ds)
end

def Sub (F H : Hp) : Prop := ∀ a o, F a = some o → H a = some o
theorem Sub.refl (H : Hp) : Sub H H := fun _ _ h => h
theorem Sub.trans {H H1 H2 : Hp} (a : Sub H H1) (b : Sub H1 H2) : Sub H H2 := fun x o h => b x o (a x o h)
theorem Sub.new {H : Hp} {p : Addr} {o : HO} (h : H p = none) : Sub H (upd H p o) := fun a u e => by
  rw [upd_ne (ne_of_none e h)]; exact e
theorem Sub.upd {F H : Hp} {p : Addr} {o : HO} (s : Sub F H) : Sub (upd F p o) (upd H p o) := fun a u e => by
  by_cases h : a = p
  · subst h; rw [upd_same] at e ⊢; exact e
  · rw [upd_ne h] at e ⊢; exact s a u e
theorem Sub.mut {F H : Hp} {p : Addr} {o : HO} (s : Sub F H) (h : F p = none) : Sub F (L2.upd H p o) := fun a u e => by
  rw [upd_ne (ne_of_none e h)]; exact s a u e
theorem Sub.none {F H : Hp} {p : Addr} (s : Sub F H) (h : H p = none) : F p = none := by
  cases e : F p with
  | none => rfl
  | some o => rw [s p o e] at h; cases h

mutual
theorem RD.mono {F N : Hp} (s : Sub F N) : ∀ {d : PyData} {v : V}, RD F v d → RD N v d
  | _, _, .non => .non
  | _, _, .bl b => .bl b
  | _, _, .int i => .int i
  | _, _, .str x => .str x
  | _, _, .lst h r => .lst (s _ _ h) (RDs.mono s r)
  | _, _, .tup h r => .tup (s _ _ h) (RDs.mono s r)
  | _, _, .dic h r => .dic (s _ _ h) (RKs.mono s r)
theorem RDs.mono {F N : Hp} (s : Sub F N) : ∀ {ds : List PyData} {us : List V}, RDs F us ds → RDs N us ds
  | _, _, .nil => .nil
  | _, _, .cons h r => .cons (RD.mono s h) (RDs.mono s r)
theorem RKs.mono {F N : Hp} (s : Sub F N) : ∀ {ds : List (PyData × PyData)} {us : List (Key × V)}, RKs F us ds → RKs N us ds
  | _, _, .nil => .nil
  | _, _, .int h r => .int (RD.mono s h) (RKs.mono s r)
  | _, _, .str h r => .str (RD.mono s h) (RKs.mono s r)
end
mutual
theorem RD.dpL {F H : Hp} {K : PySem.W.Frag} (s : Sub F H) : ∀ {d : PyData} {v : V}, d.canLay0 = true → RD F v d → Dp K H v d
  | _, _, _, .non => .non
  | _, _, _, .bl b => .bl b
  | _, _, _, .int i => .int i
  | _, _, _, .str x => .str x
  | _, _, l, .lst h r => .lst (.inl (.inl (s _ _ h))) (RDs.dpL s (by simpa [PyData.canLay0] using l) r)
  | _, _, l, .tup h r => .tup (.inl (.inl (s _ _ h))) (RDs.dpL s (by simpa [PyData.canLay0] using l) r)
  | _, _, l, .dic h r => by simp [PyData.canLay0] at l
theorem RDs.dpL {F H : Hp} {K : PySem.W.Frag} (s : Sub F H) : ∀ {ds : List PyData} {us : List V}, PyData.canLayAll0 ds = true → RDs F us ds → DpAll K H us ds
  | _, _, _, .nil => .nil
  | _, _, l, .cons h r => by
    simp only [PyData.canLayAll0, Bool.and_eq_true] at l
    exact .cons (RD.dpL s l.1 h) (RDs.dpL s l.2 r)
end
theorem RDs.len {F : Hp} : ∀ {us : List V} {ds : List PyData}, RDs F us ds → us.length = ds.length
  | _, _, .nil => rfl
  | _, _, .cons _ r => by simp [RDs.len r]
theorem RDs.append {F : Hp} : ∀ {us ws : List V} {ds es : List PyData}, RDs F us ds → RDs F ws es → RDs F (us ++ ws) (ds ++ es)
  | _, _, _, _, .nil, s => s
  | _, _, _, _, .cons h r, s => .cons h (RDs.append r s)
theorem RDs.get {F : Hp} : ∀ {us : List V} {ds : List PyData} {i : Nat} {d : PyData}, RDs F us ds → ds[i]? = some d → ∃ u, us[i]? = some u ∧ RD F u d
  | _, _, _, _, .nil, e => by simp at e
  | _, _, 0, _, .cons h _, e => by simp at e; subst e; exact ⟨_, rfl, h⟩
  | _, _, i + 1, _, .cons _ r, e => by
    obtain ⟨u, h1, h2⟩ := RDs.get (i := i) r (by simpa using e)
    exact ⟨u, by simpa using h1, h2⟩
theorem RDs.get' {F : Hp} {us : List V} {ds : List PyData} {i : Nat} {u : V} (r : RDs F us ds) (e : us[i]? = some u) : ∃ d, ds[i]? = some d ∧ RD F u d := by
  have hl := r.len
  have h1 : i < us.length := (List.getElem?_eq_some_iff.mp e).1
  obtain ⟨u', e', h⟩ := r.get (i := i) (d := ds[i]'(by omega)) (List.getElem?_eq_getElem (by omega))
  rw [e] at e'; cases e'
  exact ⟨_, List.getElem?_eq_getElem (by omega), h⟩
theorem RDs.take {F : Hp} : ∀ {us : List V} {ds : List PyData} (n : Nat), RDs F us ds → RDs F (us.take n) (ds.take n)
  | _, _, 0, _ => by simp; exact .nil
  | _, _, _ + 1, .nil => .nil
  | _, _, n + 1, .cons h r => .cons h (RDs.take n r)
theorem RDs.drop {F : Hp} : ∀ {us : List V} {ds : List PyData} (n : Nat), RDs F us ds → RDs F (us.drop n) (ds.drop n)
  | _, _, 0, r => r
  | _, _, _ + 1, .nil => .nil
  | _, _, n + 1, .cons _ r => RDs.drop n r
theorem RDs.reverse {F : Hp} {us : List V} {ds : List PyData} (r : RDs F us ds) : RDs F us.reverse ds.reverse := by
  induction us generalizing ds with
  | nil => cases r; exact .nil
  | cons u us ih =>
    cases r with
    | cons h r => rw [List.reverse_cons, List.reverse_cons]; exact (ih r).append (.cons h .nil)
theorem RDs.set {F : Hp} : ∀ {us : List V} {ds : List PyData} {u : V} {d : PyData} (n : Nat), RDs F us ds → RD F u d → RDs F (us.set n u) (ds.set n d)
  | _, _, _, _, _, .nil, _ => .nil
  | _, _, _, _, 0, .cons _ r, h => .cons h r
  | _, _, _, _, n + 1, .cons h' r, h => .cons h' (RDs.set n r h)
theorem RDs.eraseIdx {F : Hp} : ∀ {us : List V} {ds : List PyData} (n : Nat), RDs F us ds → RDs F (us.eraseIdx n) (ds.eraseIdx n)
  | _, _, _, .nil => by simp; exact .nil
  | _, _, 0, .cons _ r => r
  | _, _, n + 1, .cons h r => .cons h (RDs.eraseIdx n r)

/-! #### typed data -/
class TD (α : Type) where
  d : α → PyData
/-- .. of a bounded depth, without dicts -/
class TB (α : Type) [TD α] where
  dep : Nat
  lay : ∀ x : α, (TD.d x).canLay0 = true
  dle : ∀ x : α, (TD.d x).depth ≤ dep
instance : TD Int := ⟨.int⟩
instance : TD Bool := ⟨.bool⟩
instance : TD Unit := ⟨fun _ => .none⟩
instance : TD Str := ⟨.str⟩
instance : TD PyData := ⟨fun x => x⟩
instance {α : Type} [TD α] : TD (List α) := ⟨fun xs => .list (xs.map TD.d)⟩
instance {α β : Type} [TD α] [TD β] : TD (α × β) := ⟨fun p => .tuple [TD.d p.1, TD.d p.2]⟩
instance {α : Type} [TD α] : TD (Option α) := ⟨fun o => match o with | some x => TD.d x | none => .none⟩
instance : TB Int := ⟨0, fun _ => by show PyData.canLay0 (.int _) = true; rfl, fun _ => by show PyData.depth (.int _) ≤ 0; exact Nat.zero_le _⟩
instance : TB Bool := ⟨0, fun _ => by show PyData.canLay0 (.bool _) = true; rfl, fun _ => by show PyData.depth (.bool _) ≤ 0; exact Nat.zero_le _⟩
instance : TB Unit := ⟨0, fun _ => by show PyData.canLay0 (.none) = true; rfl, fun _ => by show PyData.depth (.none) ≤ 0; exact Nat.zero_le _⟩
theorem layAll {α : Type} [TD α] [TB α] : ∀ xs : List α, PyData.canLayAll0 (xs.map TD.d) = true
  | [] => by simp [PyData.canLayAll0]
  | x :: xs => by simp [PyData.canLayAll0, TB.lay x, layAll xs]
theorem depAll {α : Type} [TD α] [TB α] : ∀ xs : List α, PyData.depthAll (xs.map TD.d) ≤ TB.dep α
  | [] => by simp [PyData.depthAll]
  | x :: xs => by
    have h1 := depAll xs
    have h2 := TB.dle x
    simp only [List.map_cons, PyData.depthAll]
    omega
instance {α : Type} [TD α] [TB α] : TB (List α) := ⟨TB.dep α + 1, fun xs => by show PyData.canLay0 (.list _) = true; simp only [PyData.canLay0]; exact layAll xs, fun xs => by
  have := depAll xs
  show PyData.depth (.list _) ≤ _
  simp only [PyData.depth]; omega⟩
instance {α β : Type} [TD α] [TB α] [TD β] [TB β] : TB (α × β) := ⟨TB.dep α + TB.dep β + 1, fun p => by show PyData.canLay0 (.tuple [_, _]) = true; simp [PyData.canLay0, PyData.canLayAll0, TB.lay], fun p => by
  have h1 := TB.dle p.1
  have h2 := TB.dle p.2
  show PyData.depth (.tuple [_, _]) ≤ _
  simp only [PyData.depth, PyData.depthAll]; omega⟩
instance {α : Type} [TD α] [TB α] : TB (Option α) := ⟨TB.dep α, fun o => by cases o; exact rfl; exact TB.lay (α := α) _, fun o => by cases o; exact Nat.zero_le _; exact TB.dle (α := α) _⟩
abbrev R {α : Type} [TD α] (F : Hp) (v : V) (x : α) : Prop := RD F v (TD.d x)
abbrev Rs {α : Type} [TD α] (F : Hp) (us : List V) (xs : List α) : Prop := RDs F us (xs.map TD.d)


theorem TD.shaped {α : Type} [TD α] [TB α] (h : TB.dep α ≤ 60) (x : α) : SeqAt.shaped (TD.d x) = true := by
  have h1 := TB.dle x
  show ((TD.d x).canLay0 && decide ((TD.d x).depth ≤ 64)) = true
  rw [Bool.and_eq_true]
  exact ⟨TB.lay x, decide_eq_true (by omega)⟩
class TE' (α : Type) [TD α] where
  eqv : ∀ x y : α, PyData.eqv (TD.d x) (TD.d y) = true ↔ x = y
def eqT {α : Type} [TD α] (x y : α) : Bool := PyData.eqv (TD.d x) (TD.d y)
def memT {α : Type} [TD α] (x : α) (xs : List α) : Bool := xs.any fun y => eqT y x
theorem eqT_iff {α : Type} [TD α] [TE' α] {x y : α} : eqT x y = true ↔ x = y := TE'.eqv x y
theorem eqT_no {α : Type} [TD α] [TE' α] {x y : α} : eqT x y = false ↔ x ≠ y := by rw [← Bool.not_eq_true, eqT_iff]
theorem memT_iff {α : Type} [TD α] [TE' α] {x : α} {xs : List α} : memT x xs = true ↔ x ∈ xs := by
  unfold memT
  rw [List.any_eq_true]
  exact ⟨fun ⟨y, h1, h2⟩ => by rw [← eqT_iff.mp h2]; exact h1, fun h => ⟨x, h, eqT_iff.mpr rfl⟩⟩
theorem memT_no {α : Type} [TD α] [TE' α] {x : α} {xs : List α} : memT x xs = false ↔ x ∉ xs := by rw [← Bool.not_eq_true, memT_iff]
theorem eqvT {α : Type} [TD α] (x y : α) : PyData.eqv (TD.d x) (TD.d y) = eqT x y := rfl
instance : TE' Int := ⟨fun x y => by show (x == y) = true ↔ _; simp⟩
instance : TE' Bool := ⟨fun x y => by show (x == y) = true ↔ _; simp⟩
instance : TE' Str := ⟨fun x y => by show (x == y) = true ↔ _; simp⟩
instance : TE' Unit := ⟨fun x y => by simp [TD.d, PyData.eqv]⟩
theorem eqvAll_map {α : Type} [TD α] [TE' α] : ∀ xs ys : List α, PyData.eqvAll (xs.map TD.d) (ys.map TD.d) = true ↔ xs = ys
  | [], [] => by simp [PyData.eqvAll]
  | [], y :: ys => by simp [PyData.eqvAll]
  | x :: xs, [] => by simp [PyData.eqvAll]
  | x :: xs, y :: ys => by
    simp only [List.map_cons, PyData.eqvAll, Bool.and_eq_true, eqvAll_map xs ys, TE'.eqv, List.cons.injEq]
instance {α : Type} [TD α] [TE' α] : TE' (List α) := ⟨fun xs ys => by
  show PyData.eqv (.list _) (.list _) = true ↔ _
  simp only [PyData.eqv]; exact eqvAll_map xs ys⟩
instance {α β : Type} [TD α] [TE' α] [TD β] [TE' β] : TE' (α × β) := ⟨fun p q => by
  show PyData.eqv (.tuple [_, _]) (.tuple [_, _]) = true ↔ _
  obtain ⟨a, b⟩ := p; obtain ⟨c, e⟩ := q
  simp [PyData.eqv, PyData.eqvAll, TE'.eqv]⟩
/-- data that is never None -/
class NN (α : Type) [TD α] where
  nn : ∀ x : α, (PyData.eqv (TD.d x) .none = false ∧ PyData.eqv .none (TD.d x) = false) ∧ TD.d x ≠ .none
instance : NN Int := ⟨fun _ => ⟨⟨rfl, rfl⟩, fun h => nomatch h⟩⟩
instance : NN Str := ⟨fun _ => ⟨⟨rfl, rfl⟩, fun h => nomatch h⟩⟩
instance : NN Bool := ⟨fun _ => ⟨⟨rfl, rfl⟩, fun h => nomatch h⟩⟩
instance {α : Type} [TD α] : NN (List α) := ⟨fun _ => ⟨⟨rfl, rfl⟩, fun h => nomatch h⟩⟩
instance {α β : Type} [TD α] [TD β] : NN (α × β) := ⟨fun _ => ⟨⟨rfl, rfl⟩, fun h => nomatch h⟩⟩
instance {α : Type} [TD α] [TE' α] [NN α] : TE' (Option α) := ⟨fun p q => by
  cases p with
  | none => cases q with
    | none => show PyData.eqv .none .none = true ↔ _; simp [PyData.eqv]
    | some y => show PyData.eqv .none (TD.d y) = true ↔ _; rw [(NN.nn y).1.2]; simp
  | some x => cases q with
    | none => show PyData.eqv (TD.d x) .none = true ↔ _; rw [(NN.nn x).1.1]; simp
    | some y => show PyData.eqv (TD.d x) (TD.d y) = true ↔ _; rw [TE'.eqv]; simp⟩

/-! #### how heaps grow -/
abbrev NA : Addr → Prop := fun _ => False
structure Gr (A : Addr → Prop) (F H N H' : Hp) : Prop where
  keep : ∀ a o, ¬ A a → H a = some o → H' a = some o
  there : ∀ a, H a ≠ none → H' a ≠ none
  ex : Sub F N
  sub : Sub N H'
  own : ∀ a, H a ≠ none → F a = none → N a = none
section
variable {A : Addr → Prop} {F0 H0 F H N H' : Hp} {p : Addr} {o : HO} {us : List V}
theorem Gr.refl (s : Sub F H) : Gr A F H F H := ⟨fun _ _ _ h => h, fun _ h => h, Sub.refl F, s, fun _ _ h => h⟩
theorem Gr.trans (G : Gr A F0 H0 F H) (g : Gr A F H N H') : Gr A F0 H0 N H' :=
  ⟨fun a o na h => g.keep a o na (G.keep a o na h), fun a h => g.there a (G.there a h), G.ex.trans g.ex, g.sub, fun a h f => g.own a (G.there a h) (G.own a h f)⟩
theorem Gr.na (g : Gr NA F H N H') : Gr A F H N H' := ⟨fun a o _ h => g.keep a o id h, g.there, g.ex, g.sub, g.own⟩
theorem Gr.step (G : Gr A F0 H0 F H) (g : Gr NA F H N H') : Gr A F0 H0 N H' := G.trans g.na
theorem Gr.fresh (G : Gr A F0 H0 F H) (hp : H p = none) : H0 p = none := by
  cases e : H0 p with
  | none => rfl
  | some o => exact absurd hp (G.there p (by rw [e]; exact (fun z => nomatch z)))
theorem Gr.new (s : Sub F H) (hp : H p = none) : Gr NA F H (upd F p o) (upd H p o) :=
  ⟨fun a u _ h => Sub.new hp a u h, fun a h => by
    cases e : H a with
    | none => exact absurd e h
    | some u => rw [Sub.new hp a u e]; exact (fun z => nomatch z), Sub.new (s.none hp), s.upd, fun a h f => by
    have : a ≠ p := fun z => by subst z; exact h hp
    rw [upd_ne this]; exact f⟩
theorem Gr.newO (s : Sub F H) (hp : H p = none) : Gr NA F H F (upd H p o) :=
  ⟨fun a u _ h => Sub.new hp a u h, fun a h => by
    cases e : H a with
    | none => exact absurd e h
    | some u => rw [Sub.new hp a u e]; exact (fun z => nomatch z), Sub.refl F, s.trans (Sub.new hp), fun a h f => f⟩
theorem Gr.mut (G : Gr A F0 H0 F H) (h0 : H0 p = none) (f : F p = none) : Gr A F0 H0 F (upd H p o) :=
  ⟨fun a u na h => by rw [upd_ne (ne_of_none h h0)]; exact G.keep a u na h, fun a h => by
    by_cases e : a = p
    · subst e; rw [upd_same]; exact (fun z => nomatch z)
    · rw [upd_ne e]; exact G.there a h, G.ex, G.sub.mut f, G.own⟩
theorem Gr.frz (G : Gr A F0 H0 F H) (ho : H p = some o) (h0 : H0 p = none) (f : F p = none) : Gr A F0 H0 (upd F p o) H :=
  ⟨G.keep, G.there, G.ex.trans (Sub.new f), fun a u e => by
    by_cases z : a = p
    · subst z; rw [upd_same] at e; cases e; exact ho
    · rw [upd_ne z] at e; exact G.sub a u e, fun a h e => by
    have : a ≠ p := fun z => by subst z; exact h h0
    rw [upd_ne this]; exact G.own a h e⟩
/-- a flat answer: the frozen part may stay as it was -/
theorem Gr.flat {Fc : Hp} (g : Gr NA Fc H N H') (s : Sub F H) : Gr NA F H F H' := ⟨g.keep, g.there, Sub.refl F, fun a o e => g.keep a o id (s a o e), fun _ _ f => f⟩
/-- an owned list -/
theorem Gr.flatA {Fc : Hp} (g : Gr A Fc H N H') (s : Sub F H) (nf : ∀ a, A a → F a = none) : Gr A F H F H' := ⟨g.keep, g.there, Sub.refl F, fun a o e => g.keep a o (fun h => by rw [nf a h] at e; exact nomatch e) (s a o e), fun _ _ f => f⟩
structure Ow (H0 F H : Hp) (p : Addr) (us : List V) : Prop where
  at_ : H p = some (.lst us)
  nf : F p = none
  n0 : H0 p = none
theorem Ow.new (G : Gr A F0 H0 F H) (hp : H p = none) : Ow H0 F (upd H p (.lst us)) p us := ⟨upd_same, G.sub.none hp, G.fresh hp⟩
theorem Ow.step (w : Ow H0 F H p us) (g : Gr NA F H N H') : Ow H0 N H' p us := ⟨g.keep p _ id w.at_, g.own p (by rw [w.at_]; exact (fun z => nomatch z)) w.nf, w.n0⟩
theorem Ow.mut {ws : List V} (w : Ow H0 F H p us) : Ow H0 F (upd H p (.lst ws)) p ws := ⟨upd_same, w.nf, w.n0⟩
theorem Ow.other {q : Addr} {ws : List V} (w : Ow H0 F H p us) (h : q ≠ p) : Ow H0 F (upd H q (.lst ws)) p us := ⟨by rw [upd_ne h.symm]; exact w.at_, w.nf, w.n0⟩
theorem Ow.ne_new {q : Addr} (w : Ow H0 F H p us) (hq : H q = none) : p ≠ q := ne_of_none w.at_ hq
theorem Ow.mutG (w : Ow H0 F H p us) (G : Gr A F0 H0 F H) : Gr A F0 H0 F (upd H p o) := G.mut w.n0 w.nf
theorem Ow.frz (w : Ow H0 F H p us) (G : Gr A F0 H0 F H) : Gr A F0 H0 (upd F p (.lst us)) H := G.frz w.at_ w.n0 w.nf
theorem Ow.sub (w : Ow H0 F H p us) (s : Sub F H) : Sub (upd F p (.lst us)) H := fun a u e => by
    by_cases z : a = p
    · subst z; rw [upd_same] at e; cases e; exact w.at_
    · rw [upd_ne z] at e; exact s a u e
theorem Ow.ex (w : Ow H0 F H p us) : Sub F (upd F p (.lst us)) := Sub.new w.nf
end

/-! #### taking facts apart -/
section
variable {α β : Type} [TD α] [TD β] {F H : Hp} {v : V}
theorem int_of {x : Int} (h : R F v x) : v = .int x := by cases h; rfl
theorem bl_of {x : Bool} (h : R F v x) : v = .bl x := by cases h; rfl
theorem non_of {x : Unit} (h : R F v x) : v = .non := by cases h; rfl
theorem lst_of {xs : List α} (h : R F v xs) : ∃ a us, v = .ref a ∧ F a = some (.lst us) ∧ Rs F us xs := by
  cases h with | lst h r => exact ⟨_, _, rfl, h, r⟩
theorem lst_ref {a : Addr} {xs : List α} (h : R F (.ref a) xs) : ∃ us, F a = some (.lst us) ∧ Rs F us xs := by
  obtain ⟨b, us, e, fa, fr⟩ := lst_of h
  cases e
  exact ⟨us, fa, fr⟩
theorem tup2_of {p : α × β} (h : R F v p) : ∃ a v1 v2, v = .ref a ∧ F a = some (.tup [v1, v2]) ∧ R F v1 p.1 ∧ R F v2 p.2 := by
  cases h with | tup h r => cases r with | cons h1 r => cases r with | cons h2 r => cases r; exact ⟨_, _, _, rfl, h, h1, h2⟩
theorem mk_lst {a : Addr} {us : List V} {xs : List α} (h : F a = some (.lst us)) (r : Rs F us xs) : R F (.ref a) xs := .lst h r
theorem mk_tup2 {a : Addr} {v1 v2 : V} {p : α × β} (h : F a = some (.tup [v1, v2])) (h1 : R F v1 p.1) (h2 : R F v2 p.2) : R F (.ref a) p := .tup h (.cons h1 (.cons h2 .nil))
theorem Rs_len {us : List V} {xs : List α} (r : Rs F us xs) : us.length = xs.length := by rw [r.len, List.length_map]
theorem Rs_nil : Rs (α := α) F [] [] := .nil
theorem Rs_cons {u : V} {us : List V} {x : α} {xs : List α} (h : R F u x) (r : Rs F us xs) : Rs F (u :: us) (x :: xs) := .cons h r
theorem Rs_app {us ws : List V} {xs ys : List α} (r : Rs F us xs) (s : Rs F ws ys) : Rs F (us ++ ws) (xs ++ ys) := by
  unfold Rs; rw [List.map_append]; exact r.append s
theorem Rs_snoc {us : List V} {u : V} {xs : List α} {x : α} (r : Rs F us xs) (h : R F u x) : Rs F (us ++ [u]) (xs ++ [x]) := Rs_app r (.cons h .nil)
theorem Rs_rev {us : List V} {xs : List α} (r : Rs F us xs) : Rs F us.reverse xs.reverse := by
  unfold Rs; rw [List.map_reverse]; exact r.reverse
theorem Rs_mono {N : Hp} {us : List V} {xs : List α} (s : Sub F N) (r : Rs F us xs) : Rs N us xs := RDs.mono s r
theorem Rs_int {us : List V} {xs : List Int} (r : Rs F us xs) : us = xs.map V.int := by
  induction xs generalizing us with
  | nil => cases r; rfl
  | cons x xs ih => cases r with | cons h r => cases h; rw [List.map_cons, ih r]
theorem int_Rs : ∀ xs : List Int, Rs F (xs.map V.int) xs
  | [] => .nil
  | x :: xs => .cons (.int x) (int_Rs xs)
end
/-- xs[i], the item and its fact -/
def ixOk {α : Type} (xs : List α) (i : Int) (x : α) : Prop := atI xs i = some x
theorem Rs_at {α : Type} [TD α] {F : Hp} {us : List V} {xs : List α} (r : Rs F us xs) {i : Int} {x : α} (h : atI xs i = some x) : ∃ u, atI us i = some u ∧ R F u x := by
  unfold atI at h ⊢
  rw [Rs_len r]
  cases e : ixN xs.length i with
  | none => rw [e] at h; cases h
  | some k =>
    rw [e] at h
    have h' : xs[k]? = some x := h
    obtain ⟨u, h1, h2⟩ := RDs.get (i := k) (d := TD.d x) r (by rw [List.getElem?_map, h']; rfl)
    exact ⟨u, h1, h2⟩

/-! #### mirrors: loops -/
def forK {S α ρ : Type} (f : S → α → (S → Option ρ) → Option ρ) : List α → S → (S → Option ρ) → Option ρ
  | [], s, K => K s
  | x :: xs, s, K => f s x fun s' => forK f xs s' K
def whileK {S ρ : Type} (f : S → (S → Option ρ) → Option ρ) : Nat → S → Option ρ
  | 0, _ => none
  | m + 1, s => f s (whileK f m)
def fuel : Nat := 1000000
theorem forK_c {S α ρ : Type} {f : S → α → (S → Option ρ) → Option ρ} {x : α} {xs : List α} {s : S} {K : S → Option ρ} {r : ρ} (h : forK f (x :: xs) s K = some r) : f s x (fun s' => forK f xs s' K) = some r := h
theorem forK_n {S α ρ : Type} {f : S → α → (S → Option ρ) → Option ρ} {s : S} {K : S → Option ρ} {r : ρ} (h : forK f [] s K = some r) : K s = some r := h
theorem whileK_s {S ρ : Type} {f : S → (S → Option ρ) → Option ρ} {m : Nat} {s : S} {r : ρ} (h : whileK f (m + 1) s = some r) : f s (whileK f m) = some r := h
def irange (lo hi : Int) : List Int := (List.range (hi - lo).toNat).map fun i : Nat => lo + (i : Int)
section
variable {α ρ : Type} {c : Prop} [Decidable c] {a b : Option ρ} {r : ρ}
theorem itep (h : (if c then a else b) = some r) (hc : c) : a = some r := by rw [if_pos hc] at h; exact h
theorem iten (h : (if c then a else b) = some r) (hc : ¬ c) : b = some r := by rw [if_neg hc] at h; exact h
theorem guardp (h : (if c then a else none) = some r) : c ∧ a = some r := by
  by_cases hc : c
  · exact ⟨hc, itep h hc⟩
  · rw [if_neg hc] at h; cases h
theorem bindp {x : Option α} {f : α → Option ρ} (h : x.bind f = some r) : ∃ y, x = some y ∧ f y = some r := by
  cases x with
  | none => cases h
  | some y => exact ⟨y, rfl, h⟩
theorem ifD {c : Bool} {A B : Prop} (h1 : c = true → A) (h2 : c = false → B) : if c = true then A else B := by
  cases c with
  | true => rw [if_pos rfl]; exact h1 rfl
  | false => rw [if_neg Bool.false_ne_true]; exact h2 rfl
theorem dT {c : Prop} [Decidable c] (h : decide c = true) : c := of_decide_eq_true h
theorem dF {c : Prop} [Decidable c] (h : decide c = false) : ¬ c := of_decide_eq_false h
theorem ndT {c : Prop} [Decidable c] (h : (!decide c) = true) : ¬ c := of_decide_eq_false (by rw [Bool.not_eq_true'] at h; exact h)
theorem ndF {c : Prop} [Decidable c] (h : (!decide c) = false) : c := of_decide_eq_true (by rw [Bool.not_eq_false'] at h; exact h)
theorem bF {c : Bool} (h : c = false) : ¬ c = true := by rw [h]; exact Bool.false_ne_true
end

/-! #### loops read -/
section
variable {K : PySem.W.Frag} {g : TG} {tb : TS} {D : Ends} {σ : L2.St} {H : Hp} {α : Type} [TD α]
theorem while_m {c : TT} (W : Nat → L2.St → Hp → Prop) (m : Nat) (h0 : W m σ H) (hz : ∀ σ H, ¬ W 0 σ H)
    (hs : ∀ m σ H, W (m + 1) σ H → c σ H fun b H1 => if b = true then tb { D with nx := W m, ct := W m, bk := D.nx } σ H1 else D.nx σ H1) (mono : ∀ σ H Q Q', (∀ b H1, Q b H1 → Q' b H1) → c σ H Q → c σ H Q') : tWhile c tb D σ H := by
  refine ⟨W, ⟨m, h0⟩, fun m σ H h => ?_⟩
  cases m with
  | zero => exact absurd h (hz σ H)
  | succ m =>
    refine mono σ H _ _ (fun b H1 q => ?_) (hs m σ H h)
    cases b with
    | true => exact ⟨W m, fun σ' H' h => ⟨m, Nat.lt_succ_self m, h⟩, q⟩
    | false => exact q
theorem while_n {c : TT} (W : Nat → L2.St → Hp → Prop) (m : Nat) (h0 : W m σ H) (hz : ∀ σ H, ¬ W 0 σ H)
    (hs : ∀ m σ H, W (m + 1) σ H → c σ H fun b H1 => if b = true then ∃ N : L2.St → Hp → Prop, (∀ σ' H', N σ' H' → ∃ m', m' < m + 1 ∧ W m' σ' H') ∧ tb { D with nx := N, ct := N, bk := D.nx } σ H1 else D.nx σ H1) : tWhile c tb D σ H := by
  refine ⟨W, ⟨m, h0⟩, fun m σ H h => ?_⟩
  cases m with
  | zero => exact absurd h (hz σ H)
  | succ m => exact hs m σ H h
theorem drop_cons {α : Type} {xs : List α} {i : Nat} {x : α} (h : xs[i]? = some x) : xs.drop i = x :: xs.drop (i + 1) := by
  obtain ⟨h1, h2⟩ := List.getElem?_eq_some_iff.mp h
  rw [← h2]; exact List.drop_eq_getElem_cons h1
theorem for_lst {a : Addr} {us : List V} {xs : List α} {F : Hp} (W : List α → L2.St → Hp → Prop) (fr : Rs F us xs) (h0 : W xs σ H) (hf : ∀ ts σ H, W ts σ H → H a = some (.lst us))
    (hs : ∀ x ts v σ H, R F v x → W (x :: ts) σ H → g v σ H fun σ2 H2 => tb { D with nx := W ts, ct := W ts, bk := D.nx } σ2 H2) (hd : ∀ σ H, W [] σ H → D.nx σ H) :
    ∃ W : Nat → Nat → L2.St → Hp → Prop, (∃ m, W 0 m σ H) ∧ ∀ i m σ H, W i m σ H →
      ((Itl K a).stop i H ∧ D.nx σ H) ∨ ((Itl K a).go i H ∧ ∃ N : L2.St → Hp → Prop, (∀ σ' H', N σ' H' → ∃ m', m' < m ∧ W (i + 1) m' σ' H') ∧ ∀ x H', (Itl K a).yld i H x H' → g x σ H' fun σ2 H2 => tb { D with nx := N, ct := N, bk := D.nx } σ2 H2) := by
  have hl := Rs_len fr
  refine for_list (xs := us) (fun i σ H => W (xs.drop i) σ H) (by rw [List.drop_zero]; exact h0) (fun i σ H _ h => .inl (.inl (hf _ σ H h))) (fun i v σ H e h => ?_) fun σ H h => ?_
  · obtain ⟨d, e1, e2⟩ := fr.get' e
    have h1 : i < xs.length := by have := (List.getElem?_eq_some_iff.mp e).1; omega
    have e3 : xs[i]? = some xs[i] := List.getElem?_eq_getElem h1
    rw [List.getElem?_map, e3] at e1
    cases e1
    have h' : W (xs.drop i) σ H := h
    rw [drop_cons e3] at h'
    exact hs _ _ v σ H e2 h'
  · have h' : W (xs.drop us.length) σ H := h
    rw [hl, List.drop_length] at h'
    exact hd σ H h'
theorem irange_len (lo hi : Int) : (irange lo hi).length = (hi - lo).toNat := by unfold irange; simp
theorem irange_get {lo hi : Int} {i : Nat} (h : i < (hi - lo).toNat) : (irange lo hi)[i]? = some (lo + i) := by unfold irange; simp [h]
def irangeC (lo hi c : Int) : List Int := (List.range (Builtin.Range.rangeSize lo hi c).toNat).map fun i : Nat => lo + (i : Int) * c
theorem irangeC_len (lo hi c : Int) : (irangeC lo hi c).length = (Builtin.Range.rangeSize lo hi c).toNat := by unfold irangeC; simp
theorem irangeC_get {lo hi c : Int} {i : Nat} (h : i < (Builtin.Range.rangeSize lo hi c).toNat) : (irangeC lo hi c)[i]? = some (lo + (i : Int) * c) := by unfold irangeC; simp [h]
def RgD (i j c : Int) : Prop := c ≠ 0 ∧ c.natAbs < 1073741824 ∧ Builtin.Range.small i j c = true ∧ 0 ≤ Builtin.Range.rangeSize i j c
instance (i j c : Int) : Decidable (RgD i j c) := inferInstanceAs (Decidable (_ ∧ _))
theorem RgD.ok {i j c : Int} (h : RgD i j c) : RgC i j c (Builtin.Range.rangeSize i j c).toNat := ⟨h.1, h.2.1, h.2.2.1, (Int.toNat_of_nonneg h.2.2.2).symm⟩
theorem for_rngC {lo hi c : Int} (W : List Int → L2.St → Hp → Prop) (h0 : W (irangeC lo hi c) σ H)
    (hs : ∀ x ts σ H, W (x :: ts) σ H → g (.int x) σ H fun σ2 H2 => tb { D with nx := W ts, ct := W ts, bk := D.nx } σ2 H2) (hd : ∀ σ H, W [] σ H → D.nx σ H) :
    ∃ W : Nat → Nat → L2.St → Hp → Prop, (∃ m, W 0 m σ H) ∧ ∀ i m σ H, W i m σ H →
      ((Itc lo c (Builtin.Range.rangeSize lo hi c).toNat).stop i H ∧ D.nx σ H) ∨ ((Itc lo c (Builtin.Range.rangeSize lo hi c).toNat).go i H ∧ ∃ N : L2.St → Hp → Prop, (∀ σ' H', N σ' H' → ∃ m', m' < m ∧ W (i + 1) m' σ' H') ∧ ∀ x H', (Itc lo c (Builtin.Range.rangeSize lo hi c).toNat).yld i H x H' → g x σ H' fun σ2 H2 => tb { D with nx := N, ct := N, bk := D.nx } σ2 H2) := by
  refine for_rangeC (fun i σ H => W ((irangeC lo hi c).drop i) σ H) (by rw [List.drop_zero]; exact h0) (fun i σ H hi' h => ?_) fun σ H h => ?_
  · have h' : W ((irangeC lo hi c).drop i) σ H := h
    rw [drop_cons (irangeC_get hi')] at h'
    exact hs _ _ σ H h'
  · have h' : W ((irangeC lo hi c).drop (Builtin.Range.rangeSize lo hi c).toNat) σ H := h
    rw [← irangeC_len, List.drop_length] at h'
    exact hd σ H h'
theorem for_rng {lo hi : Int} {n : Nat} (hn : n = (hi - lo).toNat) (W : List Int → L2.St → Hp → Prop) (h0 : W (irange lo hi) σ H)
    (hs : ∀ x ts σ H, W (x :: ts) σ H → g (.int x) σ H fun σ2 H2 => tb { D with nx := W ts, ct := W ts, bk := D.nx } σ2 H2) (hd : ∀ σ H, W [] σ H → D.nx σ H) :
    ∃ W : Nat → Nat → L2.St → Hp → Prop, (∃ m, W 0 m σ H) ∧ ∀ i m σ H, W i m σ H →
      ((Itr lo n).stop i H ∧ D.nx σ H) ∨ ((Itr lo n).go i H ∧ ∃ N : L2.St → Hp → Prop, (∀ σ' H', N σ' H' → ∃ m', m' < m ∧ W (i + 1) m' σ' H') ∧ ∀ x H', (Itr lo n).yld i H x H' → g x σ H' fun σ2 H2 => tb { D with nx := N, ct := N, bk := D.nx } σ2 H2) := by
  subst hn
  refine for_range (fun i σ H => W ((irange lo hi).drop i) σ H) (by rw [List.drop_zero]; exact h0) (fun i σ H hi' h => ?_) fun σ H h => ?_
  · have h' : W ((irange lo hi).drop i) σ H := h
    rw [drop_cons (irange_get hi')] at h'
    exact hs _ _ σ H h'
  · have h' : W ((irange lo hi).drop (hi - lo).toNat) σ H := h
    rw [← irange_len, List.drop_length] at h'
    exact hd σ H h'
variable {tt : TT} {te : TE} {vs : List Nat} {H1 : Hp} {Dl : Addr} {Qd : Hp → Prop}
theorem lc_lst {a : Addr} {us : List V} {xs : List α} {F : Hp} (W : List α → Hp → Prop) (fr : Rs F us xs) (h0 : W xs (upd H1 Dl (.lst []))) (hf : ∀ ts H, W ts H → H a = some (.lst us))
    (hs : ∀ x ts v H, R F v x → W (x :: ts) H → g v (wipe σ vs) H fun σ2 H2 => wipe σ2 vs = wipe σ vs ∧ tt σ2 H2 fun b H3 =>
        if b = true then te σ2 H3 fun y H4 => ∃ acc, H4 Dl = some (HO.lst acc) ∧ acc.length < sizeLine ∧ W ts (upd H4 Dl (HO.lst (acc ++ [y]))) else W ts H3) (hd : ∀ H, W [] H → Qd H) :
    ∃ W : Nat → Nat → Hp → Prop, (∃ m, W 0 m (upd H1 Dl (HO.lst []))) ∧ ∀ (i m : Nat) (H : Hp), W i m H → (Itl K a).stop i H ∧ Qd H ∨
      (Itl K a).go i H ∧ ∃ Nx : Hp → Prop, (∀ (H' : Hp), Nx H' → ∃ m', m' < m ∧ W (i + 1) m' H') ∧ ∀ (x : V) (H' : Hp), (Itl K a).yld i H x H' →
        g x (wipe σ vs) H' fun σ2 H2 => wipe σ2 vs = wipe σ vs ∧ tt σ2 H2 fun b H3 => if b = true then te σ2 H3 fun y H4 => ∃ acc, H4 Dl = some (HO.lst acc) ∧ acc.length < sizeLine ∧ Nx (upd H4 Dl (HO.lst (acc ++ [y]))) else Nx H3 := by
  have hl := Rs_len fr
  refine lc_list (xs := us) (fun i H => W (xs.drop i) H) (by rw [List.drop_zero]; exact h0) (fun i H _ h => .inl (.inl (hf _ H h))) (fun i v H e h => ?_) fun H h => ?_
  · obtain ⟨d, e1, e2⟩ := fr.get' e
    have h1 : i < xs.length := by have := (List.getElem?_eq_some_iff.mp e).1; omega
    have e3 : xs[i]? = some xs[i] := List.getElem?_eq_getElem h1
    rw [List.getElem?_map, e3] at e1
    cases e1
    have h' : W (xs.drop i) H := h
    rw [drop_cons e3] at h'
    exact hs _ _ v H e2 h'
  · have h' : W (xs.drop us.length) H := h
    rw [hl, List.drop_length] at h'
    exact hd H h'
/-- with which value it is -/
theorem lc_lstM {a : Addr} {us : List V} {xs : List α} {F : Hp} (W : List α → Hp → Prop) (fr : Rs F us xs) (h0 : W xs (upd H1 Dl (.lst []))) (hf : ∀ ts H, W ts H → H a = some (.lst us))
    (hs : ∀ x ts v H, R F v x → v ∈ us → W (x :: ts) H → g v (wipe σ vs) H fun σ2 H2 => wipe σ2 vs = wipe σ vs ∧ tt σ2 H2 fun b H3 =>
        if b = true then te σ2 H3 fun y H4 => ∃ acc, H4 Dl = some (HO.lst acc) ∧ acc.length < sizeLine ∧ W ts (upd H4 Dl (HO.lst (acc ++ [y]))) else W ts H3) (hd : ∀ H, W [] H → Qd H) :
    ∃ W : Nat → Nat → Hp → Prop, (∃ m, W 0 m (upd H1 Dl (HO.lst []))) ∧ ∀ (i m : Nat) (H : Hp), W i m H → (Itl K a).stop i H ∧ Qd H ∨
      (Itl K a).go i H ∧ ∃ Nx : Hp → Prop, (∀ (H' : Hp), Nx H' → ∃ m', m' < m ∧ W (i + 1) m' H') ∧ ∀ (x : V) (H' : Hp), (Itl K a).yld i H x H' →
        g x (wipe σ vs) H' fun σ2 H2 => wipe σ2 vs = wipe σ vs ∧ tt σ2 H2 fun b H3 => if b = true then te σ2 H3 fun y H4 => ∃ acc, H4 Dl = some (HO.lst acc) ∧ acc.length < sizeLine ∧ Nx (upd H4 Dl (HO.lst (acc ++ [y]))) else Nx H3 := by
  have hl := Rs_len fr
  refine lc_list (xs := us) (fun i H => W (xs.drop i) H) (by rw [List.drop_zero]; exact h0) (fun i H _ h => .inl (.inl (hf _ H h))) (fun i v H e h => ?_) fun H h => ?_
  · obtain ⟨d, e1, e2⟩ := fr.get' e
    have h1 : i < xs.length := by have := (List.getElem?_eq_some_iff.mp e).1; omega
    have e3 : xs[i]? = some xs[i] := List.getElem?_eq_getElem h1
    rw [List.getElem?_map, e3] at e1
    cases e1
    have h' : W (xs.drop i) H := h
    rw [drop_cons e3] at h'
    exact hs _ _ v H e2 (List.mem_of_getElem? e) h'
  · have h' : W (xs.drop us.length) H := h
    rw [hl, List.drop_length] at h'
    exact hd H h'
theorem lc_rng {lo hi : Int} {n : Nat} (hn : n = (hi - lo).toNat) (W : List Int → Hp → Prop) (h0 : W (irange lo hi) (upd H1 Dl (.lst [])))
    (hs : ∀ x ts H, W (x :: ts) H → g (.int x) (wipe σ vs) H fun σ2 H2 => wipe σ2 vs = wipe σ vs ∧ tt σ2 H2 fun b H3 =>
        if b = true then te σ2 H3 fun y H4 => ∃ acc, H4 Dl = some (HO.lst acc) ∧ acc.length < sizeLine ∧ W ts (upd H4 Dl (HO.lst (acc ++ [y]))) else W ts H3) (hd : ∀ H, W [] H → Qd H) :
    ∃ W : Nat → Nat → Hp → Prop, (∃ m, W 0 m (upd H1 Dl (HO.lst []))) ∧ ∀ (i m : Nat) (H : Hp), W i m H → (Itr lo n).stop i H ∧ Qd H ∨
      (Itr lo n).go i H ∧ ∃ Nx : Hp → Prop, (∀ (H' : Hp), Nx H' → ∃ m', m' < m ∧ W (i + 1) m' H') ∧ ∀ (x : V) (H' : Hp), (Itr lo n).yld i H x H' →
        g x (wipe σ vs) H' fun σ2 H2 => wipe σ2 vs = wipe σ vs ∧ tt σ2 H2 fun b H3 => if b = true then te σ2 H3 fun y H4 => ∃ acc, H4 Dl = some (HO.lst acc) ∧ acc.length < sizeLine ∧ Nx (upd H4 Dl (HO.lst (acc ++ [y]))) else Nx H3 := by
  subst hn
  refine lc_range (fun i H => W ((irange lo hi).drop i) H) (by rw [List.drop_zero]; exact h0) (fun i H hi' h => ?_) fun H h => ?_
  · have h' : W ((irange lo hi).drop i) H := h
    rw [drop_cons (irange_get hi')] at h'
    exact hs _ _ H h'
  · have h' : W ((irange lo hi).drop (hi - lo).toNat) H := h
    rw [← irange_len, List.drop_length] at h'
    exact hd H h'
end

/-! #### operators of my own -/
section
variable {X : Cx}
def rEqT (α : Type) [TD α] [TE' α] : R2 := fun x y H Q => ∃ (F : Hp) (a b : α), Sub F H ∧ R F x a ∧ R F y b ∧ Q (.bl (eqT a b)) H
def rNeT (α : Type) [TD α] [TE' α] : R2 := fun x y H Q => ∃ (F : Hp) (a b : α), Sub F H ∧ R F x a ∧ R F y b ∧ Q (.bl (!eqT a b)) H
theorem op_eqT {α : Type} [TD α] [TB α] [TE' α] (hd : TB.dep α ≤ 60) (hu : X.A.units + 64 < cLine) : OpR X (compareOp .Eq) (rEqT α) := by
  intro pins s σ H x y v u Q I rx ry h
  obtain ⟨F, a, b, sb, ha, hb, q⟩ := h
  exact op_eqD hu pins s σ H x y v u Q I rx ry ⟨_, _, ha.dpL sb (TB.lay a), hb.dpL sb (TB.lay b), TD.shaped hd a, TD.shaped hd b, by rw [eqvT]; exact q⟩
theorem op_neT {α : Type} [TD α] [TB α] [TE' α] (hd : TB.dep α ≤ 60) (hu : X.A.units + 64 < cLine) : OpR X (compareOp .NotEq) (rNeT α) := by
  intro pins s σ H x y v u Q I rx ry h
  obtain ⟨F, a, b, sb, ha, hb, q⟩ := h
  exact op_neD hu pins s σ H x y v u Q I rx ry ⟨_, _, ha.dpL sb (TB.lay a), hb.dpL sb (TB.lay b), TD.shaped hd a, TD.shaped hd b, by rw [eqvT]; exact q⟩
theorem any_eq {α : Type} [TD α] (x : α) (xs : List α) : ((xs.map TD.d).any fun z => PyData.eqv z (TD.d x)) = memT x xs := by
  unfold memT
  rw [List.any_map]
  rfl
def rInT (α : Type) [TD α] [TE' α] : R2 := fun x y H Q => ∃ (F : Hp) (a : α) (b : List α), Sub F H ∧ R F x a ∧ R F y b ∧ Q (.bl (memT a b)) H
def rNiT (α : Type) [TD α] [TE' α] : R2 := fun x y H Q => ∃ (F : Hp) (a : α) (b : List α), Sub F H ∧ R F x a ∧ R F y b ∧ Q (.bl (!memT a b)) H
theorem op_inT {α : Type} [TD α] [TB α] [TE' α] (hd : TB.dep α ≤ 50) (hu : X.A.units + 65 < cLine) : OpR X (compareOp .In) (rInT α) := by
  intro pins s σ H x y v u Q I rx ry h
  obtain ⟨F, a, b, sb, ha, hb, q⟩ := h
  exact op_inD hu pins s σ H x y v u Q I rx ry ⟨_, _, ha.dpL sb (TB.lay a), hb.dpL sb (TB.lay b), TD.shaped (by omega) a, TD.shaped (α := List α) (by show TB.dep α + 1 ≤ 60; omega) b, by rw [any_eq]; exact q⟩
theorem op_niT {α : Type} [TD α] [TB α] [TE' α] (hd : TB.dep α ≤ 50) (hu : X.A.units + 65 < cLine) : OpR X (compareOp .NotIn) (rNiT α) := by
  intro pins s σ H x y v u Q I rx ry h
  obtain ⟨F, a, b, sb, ha, hb, q⟩ := h
  exact op_notInD hu pins s σ H x y v u Q I rx ry ⟨_, _, ha.dpL sb (TB.lay a), hb.dpL sb (TB.lay b), TD.shaped (by omega) a, TD.shaped (α := List α) (by show TB.dep α + 1 ≤ 60; omega) b, by rw [any_eq]; exact q⟩
end
theorem hu64 {A : Around} {k : Nat} (hr : Room k A) : A.units + 64 < cLine := by have := hr.un; omega
theorem hu65 {A : Around} {k : Nat} (hr : Room k A) : A.units + 65 < cLine := by have := hr.un; omega
theorem szl {n : Nat} (h : n < 16777216) : n < sizeLine := by rw [sizeLine_eq]; exact h
theorem szle {n : Nat} (h : n ≤ 16777216) : n ≤ sizeLine := by rw [sizeLine_eq]; exact h

/-- a divisor, two factors that the model carries -/
def Dv (j : Int) : Prop := 0 < j ∧ j.natAbs.log2 < 9000
instance (j : Int) : Decidable (Dv j) := inferInstanceAs (Decidable (_ ∧ _))
theorem Dv.w {i j : Int} (h : Dv j) : CDivW i j := h
theorem Dv.p {j : Int} (h : Dv j) : 0 < j := h.1
theorem Dv.of {j : Int} (h : 0 < j) (h2 : j < 2 ^ 9000) : Dv j := by
  refine ⟨h, ?_⟩
  have e : j.natAbs < 2 ^ 9000 := by omega
  rw [Nat.log2_lt (by omega)]; exact e
def Mv (i j : Int) : Prop := i.natAbs.log2 + j.natAbs.log2 < 1000000
instance (i j : Int) : Decidable (Mv i j) := inferInstanceAs (Decidable (_ < _))
theorem Mv.w {i j : Int} (h : Mv i j) : CMulW i j := h


/-! #### readings opened one layer -/
section
variable {K : PySem.W.Frag} {σ : L2.St} {H : Hp} {D : Ends} {t u : TS} {te ta tb tc : TE} {tt tu : TT} {g : TG} {r r' : R2} {Q : VK} {QB : Bool → Hp → Prop} {QA : List V → Hp → Prop} {tA : TA}
theorem x_seq (h : t { D with nx := u D } σ H) : tSeq t u D σ H := h
theorem x_yes (h : QB true H) : tYes σ H QB := h
theorem x_nopart {QO : Option Int → Hp → Prop} (h : QO none H) : tNoPart σ H QO := h
theorem x_c {v : V} (h : Q v H) : tC v σ H Q := h
theorem x_gn {i : Nat} {v : V} {QS : L2.St → Hp → Prop} (h : QS (σ.set i (some v)) H) : gName i v σ H QS := h
theorem x_next (h : D.nx σ H) : tNext D σ H := h
theorem x_par {i j : Nat} (h : tA σ H fun vs H1 => ∃ v w, vs = [v, w] ∧ D.nx ((σ.set i (some v)).set j (some w)) H1) : tPar i j tA D σ H := h
theorem x_if (h : tt σ H fun b H1 => if b = true then t D σ H1 else u D σ H1) : tIfS tt t u D σ H := h
theorem x_asg (h : te σ H fun x H1 => g x σ H1 D.nx) : tAsg te g D σ H := h
theorem x_drop (h : te σ H fun _ H1 => D.nx σ H1) : tDrop te D σ H := h
theorem x_ret (h : te σ H D.rt) : tRet te D σ H := h
theorem x_op (h : ta σ H fun x H1 => tb σ H1 fun y H2 => r x y H2 Q) : tOp r ta tb σ H Q := h
theorem x_un {r : V → Hp → VK → Prop} (h : ta σ H fun x H1 => r x H1 Q) : tUn r ta σ H Q := h
theorem x_cmp {p : Int → Int → Bool} (h : ta σ H fun x H1 => tb σ H1 fun y H2 => ∃ i j, x = .int i ∧ y = .int j ∧ Q (.bl (p i j)) H2) : tCmp p ta tb σ H Q := h
theorem x_cons {tr : TA} (h : ta σ H fun x H1 => tr σ H1 fun xs H2 => QA (x :: xs) H2) : tCons ta tr σ H QA := h
theorem x_lst (h : tA σ H fun xs H1 => xs.length ≤ sizeLine ∧ ∀ p, H1 p = none → Q (.ref p) (upd H1 p (.lst xs))) : tLst tA σ H Q := h
theorem x_tup (h : tA σ H fun xs H1 => xs.length ≤ sizeLine ∧ ∀ p, H1 p = none → Q (.ref p) (upd H1 p (.tup xs))) : tTup tA σ H Q := h
theorem x_call {sp : Sp} {dvs : List V} {E : XK} (h : tA σ H fun vs H1 => sp (vs ++ dvs) H1 Q E) : tCall sp dvs E tA σ H Q := h
theorem x_cb {r : List V → Hp → VK → Prop} (h : tA σ H fun vs H1 => r vs H1 Q) : tCB r tA σ H Q := h
theorem x_B (h : te σ H fun x H1 => ∃ c, x = .bl c ∧ QB c H1) : tB te σ H QB := h
theorem x_test (h : te σ H fun x H1 => ∃ c, x = .bl c ∧ QB c H1) : tTest te σ H QB := h
theorem x_not (h : tt σ H fun c H1 => QB (!c) H1) : tNot tt σ H QB := h
theorem x_and (h : tt σ H fun c H1 => if c = true then tu σ H1 QB else QB false H1) : tAnd tt tu σ H QB := h
theorem x_or (h : tt σ H fun c H1 => if c = true then QB true H1 else tu σ H1 QB) : tOr tt tu σ H QB := h
theorem x_andV (h : ta σ H fun x H1 => ∃ c, x = .bl c ∧ if c = true then tb σ H1 Q else Q (.bl false) H1) : tAndV ta tb σ H Q := h
theorem x_orV (h : ta σ H fun x H1 => ∃ c, x = .bl c ∧ if c = true then Q (.bl true) H1 else tb σ H1 Q) : tOrV ta tb σ H Q := h
theorem x_notV (h : ta σ H fun x H1 => ∃ c, x = .bl c ∧ Q (.bl (!c)) H1) : tNotV ta σ H Q := h
theorem x_chain (h : ta σ H fun x H1 => tb σ H1 fun y H2 => r x y H2 fun z H3 => ∃ k, z = .bl k ∧ (if k = true then tc σ H3 fun w' H4 => r' y w' H4 Q else Q (.bl false) H3)) : tChain r r' ta tb tc σ H Q := h
theorem x_ife (h : tt σ H fun c H1 => if c = true then ta σ H1 Q else tb σ H1 Q) : tIf tt ta tb σ H Q := h
theorem x_sl {r : V → Option Int → Option Int → Hp → VK → Prop} {tl th : TO} (h : te σ H fun x H1 => tl σ H1 fun l H2 => th σ H2 fun u H3 => r x l u H3 Q) : tSl r te tl th σ H Q := h
theorem x_part {QO : Option Int → Hp → Prop} (h : te σ H fun x H1 => ∃ i, x = .int i ∧ QO (some i) H1) : tPart te σ H QO := h
theorem x_revL (h : te σ H fun x H1 => ∃ a xs, x = .ref a ∧ SqL K H1 a xs ∧ ∀ p, H1 p = none → Q (.ref p) (upd H1 p (.lst xs.reverse))) : tRevL K te σ H Q := h
theorem x_bm {T : String} {r : V → List V → Hp → VK → Prop} (h : te σ H fun x H1 => tyV K T x H1 ∧ tA σ H1 fun xs H2 => r x xs H2 Q) : tBM K T r te tA σ H Q := h
theorem x_bm0 {T : String} {r : V → List V → Hp → VK → Prop} (h : te σ H fun x H1 => tyV K T x H1 ∧ r x [] H1 Q) : tBM0 K T r te σ H Q := h
theorem x_isN (h : ta σ H fun x H1 => Q (.bl (decide (x = .non))) H1) : tIsN ta σ H Q := h
theorem x_notN (h : ta σ H fun x H1 => Q (.bl (!decide (x = .non))) H1) : tNotN ta σ H Q := h
theorem x_isN' (h : ta σ H fun x H1 => ∃ b, decide (x = .non) = b ∧ Q (.bl b) H1) : tIsN ta σ H Q := by
  have e : (fun (x : V) (H1 : Hp) => ∃ b, decide (x = .non) = b ∧ Q (.bl b) H1) = fun x H1 => Q (.bl (decide (x = .non))) H1 := funext fun x => funext fun H1 => propext ⟨fun ⟨b, e, q⟩ => by rw [e]; exact q, fun q => ⟨_, rfl, q⟩⟩
  rw [e] at h
  exact h
theorem x_notN' (h : ta σ H fun x H1 => ∃ b, (!decide (x = .non)) = b ∧ Q (.bl b) H1) : tNotN ta σ H Q := by
  have e : (fun (x : V) (H1 : Hp) => ∃ b, (!decide (x = .non)) = b ∧ Q (.bl b) H1) = fun x H1 => Q (.bl (!decide (x = .non))) H1 := funext fun x => funext fun H1 => propext ⟨fun ⟨b, e, q⟩ => by rw [e]; exact q, fun q => ⟨_, rfl, q⟩⟩
  rw [e] at h
  exact h
theorem x_rng1 {R : It → Hp → Prop} (h : tA σ H fun vs H1 => ∃ j : Int, vs = [.int j] ∧ -(2 ^ 62) ≤ j ∧ j < 2 ^ 62 ∧ R (Itr 0 j.toNat) H1) : iRng1 tA σ H R := h
theorem x_rng2 {R : It → Hp → Prop} (h : tA σ H fun vs H1 => ∃ i j : Int, vs = [.int i, .int j] ∧ (-(2 ^ 62) ≤ i ∧ i < 2 ^ 62 ∧ -(2 ^ 62) ≤ j ∧ j < 2 ^ 62) ∧ R (Itr i (j - i).toNat) H1) : iRng2 tA σ H R := h
theorem x_rng3 {R : It → Hp → Prop} (h : tA σ H fun vs H1 => ∃ (i j c : Int) (n : Nat), vs = [.int i, .int j, .int c] ∧ RgC i j c n ∧ R (Itc i c n) H1) : iRng3 tA σ H R := h
theorem x_iter {R : It → Hp → Prop} (h : te σ H fun x H1 => ∃ a, x = .ref a ∧ (∃ xs, SqL K H1 a xs) ∧ R (Itl K a) H1) : iList K te σ H R := h
theorem x_for {wi : TI} (h : wi σ H fun J H1 => ∃ W : Nat → Nat → L2.St → Hp → Prop, (∃ m, W 0 m σ H1) ∧ ∀ i m σ H, W i m σ H →
  (J.stop i H ∧ D.nx σ H) ∨ (J.go i H ∧ ∃ N : L2.St → Hp → Prop, (∀ σ' H', N σ' H' → ∃ m', m' < m ∧ W (i + 1) m' σ' H') ∧ ∀ x H', J.yld i H x H' → g x σ H' fun σ2 H2 => t { D with nx := N, ct := N, bk := D.nx } σ2 H2)) : tFor wi g t D σ H := h
theorem x_lc {wi : TI} {vs : List Nat} (h : wi σ H fun J H1 => ∀ Dl, H1 Dl = none → ∃ W : Nat → Nat → Hp → Prop, (∃ m, W 0 m (upd H1 Dl (.lst []))) ∧ ∀ i m H, W i m H → J.stop i H ∧ Q (.ref Dl) H ∨ J.go i H ∧ ∃ Nx : Hp → Prop, (∀ (H' : Hp), Nx H' → ∃ m', m' < m ∧ W (i + 1) m' H') ∧ ∀ (x : V) (H' : Hp), J.yld i H x H' →
        g x (wipe σ vs) H' fun σ2 H2 => wipe σ2 vs = wipe σ vs ∧ tt σ2 H2 fun b H3 => if b = true then te σ2 H3 fun y H4 => ∃ acc, H4 Dl = some (HO.lst acc) ∧ acc.length < sizeLine ∧ Nx (upd H4 Dl (HO.lst (acc ++ [y]))) else Nx H3) : tLc wi g tt te vs σ H Q := h
end

/-! #### order and sorted, of data of one type -/
class SO (α : Type) [TD α] where
  alike : ∀ x y : α, PySem.W.alike (TD.d x) (TD.d y) = true
  nn : ∀ x : α, TD.d x ≠ .none
  kind : (∀ x : α, ∃ y r, TD.d x = .tuple (y :: r)) ∨ ∀ (x : α) xs, TD.d x ≠ .tuple xs
instance : SO Int := ⟨fun _ _ => by simp [TD.d, PySem.W.alike], (fun _ h => nomatch h), .inr fun _ _ h => nomatch h⟩
theorem alikeAll_of {α : Type} [TD α] [SO α] : ∀ xs ys : List α, PySem.W.alikeAll (xs.map TD.d) (ys.map TD.d) = true
  | [], _ => by simp [PySem.W.alikeAll]
  | _ :: _, [] => by simp [PySem.W.alikeAll]
  | x :: xs, y :: ys => by
    rw [List.map_cons, List.map_cons, PySem.W.alikeAll, alikeAll_of xs ys, SO.alike]; rfl
instance {α : Type} [TD α] [SO α] : SO (List α) := ⟨fun xs ys => by
  show PySem.W.alike (.list _) (.list _) = true
  rw [PySem.W.alike]; exact alikeAll_of xs ys, (fun _ h => nomatch h), .inr fun _ _ h => nomatch h⟩
instance {α β : Type} [TD α] [SO α] [TD β] [SO β] : SO (α × β) := ⟨fun p q => by
  show PySem.W.alike (.tuple [_, _]) (.tuple [_, _]) = true
  simp [PySem.W.alike, PySem.W.alikeAll, SO.alike], (fun _ h => nomatch h), .inl fun p => ⟨_, _, rfl⟩⟩
def ltT {α : Type} [TD α] (x y : α) : Bool := PySem.W.dataLt (TD.d x) (TD.d y)
def sortT {α : Type} [TD α] (xs : List α) : List α := xs.mergeSort (PySem.W.dataLe false TD.d)
theorem sortT_len {α : Type} [TD α] (xs : List α) : (sortT xs).length = xs.length := List.length_mergeSort _
def rGeT (α : Type) [TD α] : R2 := fun x y H Q => ∃ (F : Hp) (a b : α), Sub F H ∧ R F x a ∧ R F y b ∧ Q (.bl (!ltT a b)) H
def rLeT' (α : Type) [TD α] : R2 := fun x y H Q => ∃ (F : Hp) (a b : α), Sub F H ∧ R F x a ∧ R F y b ∧ Q (.bl (!ltT b a)) H
def rLtT' (α : Type) [TD α] : R2 := fun x y H Q => ∃ (F : Hp) (a b : α), Sub F H ∧ R F x a ∧ R F y b ∧ Q (.bl (ltT a b)) H
def rGtT (α : Type) [TD α] : R2 := fun x y H Q => ∃ (F : Hp) (a b : α), Sub F H ∧ R F x a ∧ R F y b ∧ Q (.bl (ltT b a)) H
section
variable {X : Cx} {α : Type} [TD α] [TB α] [SO α]
theorem op_geT' (hd : TB.dep α ≤ 60) (hu : X.A.units + 64 < cLine) : OpR X (compareOp .GtE) (rGeT α) := by
  intro pins s σ H x y v u Q I rx ry h
  obtain ⟨F, a, b, sb, ha, hb, q⟩ := h
  obtain ⟨as, r1⟩ := Dp.reads I _ x v (ha.dpL (K := X.K) sb (TB.lay a)) rx
  obtain ⟨bs, r2⟩ := Dp.reads I _ y u (hb.dpL (K := X.K) sb (TB.lay b)) ry
  have h1 := TB.dle a
  exact PySem.W.ge_data r1 r2 (SO.alike a b) (SO.nn a) (by omega) ⟨.bl _, H, I, rfl, q⟩
theorem op_leT' (hd : TB.dep α ≤ 60) (hu : X.A.units + 64 < cLine) : OpR X (compareOp .LtE) (rLeT' α) := by
  intro pins s σ H x y v u Q I rx ry h
  obtain ⟨F, a, b, sb, ha, hb, q⟩ := h
  obtain ⟨as, r1⟩ := Dp.reads I _ x v (ha.dpL (K := X.K) sb (TB.lay a)) rx
  obtain ⟨bs, r2⟩ := Dp.reads I _ y u (hb.dpL (K := X.K) sb (TB.lay b)) ry
  have h1 := TB.dle a
  exact PySem.W.le_data r1 r2 (SO.alike a b) (SO.nn a) (by omega) ⟨.bl _, H, I, rfl, q⟩
theorem op_ltT' (hd : TB.dep α ≤ 60) (hu : X.A.units + 64 < cLine) : OpR X (compareOp .Lt) (rLtT' α) := by
  intro pins s σ H x y v u Q I rx ry h
  obtain ⟨F, a, b, sb, ha, hb, q⟩ := h
  obtain ⟨as, r1⟩ := Dp.reads I _ x v (ha.dpL (K := X.K) sb (TB.lay a)) rx
  obtain ⟨bs, r2⟩ := Dp.reads I _ y u (hb.dpL (K := X.K) sb (TB.lay b)) ry
  have h1 := TB.dle a
  exact PySem.W.lt_data r1 r2 (SO.alike a b) (SO.nn a) (by omega) ⟨.bl _, H, I, rfl, q⟩
theorem op_gtT' (hd : TB.dep α ≤ 60) (hu : X.A.units + 64 < cLine) : OpR X (compareOp .Gt) (rGtT α) := by
  intro pins s σ H x y v u Q I rx ry h
  obtain ⟨F, a, b, sb, ha, hb, q⟩ := h
  obtain ⟨as, r1⟩ := Dp.reads I _ x v (ha.dpL (K := X.K) sb (TB.lay a)) rx
  obtain ⟨bs, r2⟩ := Dp.reads I _ y u (hb.dpL (K := X.K) sb (TB.lay b)) ry
  have h1 := TB.dle a
  exact PySem.W.gt_data r1 r2 (SO.alike a b) (SO.nn a) (by omega) ⟨.bl _, H, I, rfl, q⟩
/-- the values stand for the items -/
theorem each_of {F : Hp} : ∀ {us : List V} {vs : List Value} {xs : List α}, Vals us vs → Rs F us xs → PySem.W.EachIs (fun v x => ∃ u, RelV u v ∧ R F u x) vs xs
  | _, _, [], r, q => by
    cases q
    cases r; exact .nil
  | _, _, x :: xs, r, q => by
    cases q with
    | cons h1 h2 => cases r with | cons r1 r2 => exact .cons ⟨_, r1, h1⟩ (each_of r2 h2)
theorem of_each {F : Hp} : ∀ {vs : List Value} {xs : List α}, PySem.W.EachIs (fun v x => ∃ u, RelV u v ∧ R F u x) vs xs → ∃ us, Vals us vs ∧ Rs F us xs
  | _, _, .nil => ⟨[], .nil, .nil⟩
  | _, _, .cons ⟨u, h1, h2⟩ t => by
    obtain ⟨us, a, b⟩ := of_each t
    exact ⟨u :: us, .cons h1 a, .cons h2 b⟩
def rSortedT (α : Type) [TD α] : List V → Hp → VK → Prop := fun vs H Q => ∃ (a : Addr) (us : List V) (F : Hp) (xs : List α), vs = [.ref a] ∧ H a = some (.lst us) ∧ Sub F H ∧ Rs F us xs ∧ xs.length ≤ 16777216 ∧
  ∀ p ws, H p = none → Rs F ws (sortT xs) → Q (.ref p) (upd H p (.lst ws))
theorem call_sortedT (hd : TB.dep α ≤ 60) (hu : X.A.units + 200 < cLine) : CallR X (.builtin "sorted") (rSortedT α) := by
  intro pins s σ H vs us0 Q I r h
  obtain ⟨a, us, F, xs, rfl, ha, sb, hr, hl, q⟩ := h
  have hS : SqL X.K H a us := .inl (.inl ha)
  obtain ⟨its, rv, hli, _⟩ := I.list hS
  rw [Vals.ref1 r]
  have e1 := each_of rv hr
  have reads : PySem.W.EachIs (fun v x => ∃ as, Reads s.heap v (TD.d x) as) its xs := e1.mono fun v x ⟨u, r1, r2⟩ => Dp.reads I _ u v (r2.dpL (K := X.K) sb (TB.lay x)) r1
  refine PySem.W.sorted_data (enc := TD.d) (R := fun v x => ∃ u, RelV u v ∧ R F u x) hli.isList e1 reads (PySem.W.AllAlike.of SO.alike) ?_ (by rw [sizeLine_eq]; exact hl) (fun x _ => ?_) fun out hlen eo => ?_
  · rcases SO.kind (α := α) with k | k
    · exact PySem.W.Sortable.tuples k
    · exact PySem.W.Sortable.others fun x => ⟨SO.nn x, k x⟩
  · have h1 := TB.dle x
    omega
  · obtain ⟨ws, w1, w2⟩ := of_each eo
    obtain ⟨ep, he'⟩ := PyProof.Rows.sortedAll_at s.heap its out.toArray
    have hz : ws.length ≤ sizeLine := by rw [Rs_len w2, sizeLine_eq]; show (sortT xs).length ≤ _; rw [sortT_len]; exact hl
    exact ⟨.ref _, upd H (s.heap.objs.size + 1) (.lst ws), I.laid (t' := s.toks) (fun _ _ => PyProof.Rows.sortedAll_old) (Nat.le_succ _) ⟨hz, out, ep, w1, he'⟩, rfl, q _ ws (I.hok.fresh (Nat.le_succ _)) w2⟩
end
theorem hu200 {A : Around} {k : Nat} (hr : Room (k + 1) A) : A.units + 200 < cLine := by have := hr.un; omega
theorem hu200' {A : Around} {k : Nat} (hr : Room k A) : A.units + 200 < cLine := by have := hr.un; omega

/-! #### readings at a K that is written -/
section
variable {X : Cx}
def rLenT (K : PySem.W.Frag) : List V → Hp → VK → Prop := fun xs H Q => ∃ p ys, xs = [V.ref p] ∧ (SqL K H p ys ∨ SqT K H p ys) ∧ Q (.int ys.length) H
theorem call_lenT : CallR X (.builtin "len") (rLenT X.K) := call_len_seq
def rListT (K : PySem.W.Frag) : List V → Hp → VK → Prop := fun xs H Q => ∃ p ys, xs = [V.ref p] ∧ (SqL K H p ys ∨ SqT K H p ys) ∧ ∀ l, H l = none → Q (.ref l) (upd H l (.lst ys))
theorem call_listT : CallR X (.type "list") (rListT X.K) := call_list_of
end

/-! #### simple expressions by a term -/
theorem gr_ex {F H H2 : Hp} (s : Sub F H) (e : Evl.Ex H H2) : Gr NA F H F H2 :=
  ⟨fun a o _ h => e a o h, fun a h => by
    cases q : H a with
    | none => exact absurd q h
    | some o => rw [e a o q]; exact (fun z => nomatch z), Sub.refl F, s.trans e, fun _ _ f => f⟩
theorem useEv {te : TE} {σ : L2.St} {H : Hp} {Q : VK} (v : V) (h : Evl.Ev te σ H v) (k : ∀ H2, Evl.Ex H H2 → Q v H2) : te σ H Q := h H (Evl.Ex.refl H) Q k
theorem useT {tt : TT} {σ : L2.St} {H : Hp} {Q : Bool → Hp → Prop} (b : Bool) (h : Evl.EvT tt σ H b) (k : ∀ H2, Evl.Ex H H2 → Q b H2) : tt σ H Q := h H (Evl.Ex.refl H) Q k
section
variable {K : PySem.W.Frag} {σ : L2.St} {H F : Hp} {ta tb : TE} {α : Type} [TD α]
theorem ev_cmp {p : Int → Int → Bool} {i j : Int} (ha : Evl.Ev ta σ H (.int i)) (hb : Evl.Ev tb σ H (.int j)) : Evl.Ev (tCmp p ta tb) σ H (.bl (p i j)) := fun H1 e Q q =>
  ha H1 e _ fun H2 e2 => hb H2 (e.trans e2) _ fun H3 e3 => ⟨i, j, rfl, rfl, q H3 (e2.trans e3)⟩
theorem isN_opt [NN α] {v : V} {o : Option α} (h : R F v o) : decide (v = .non) = o.isNone := by
  cases o with
  | none => cases (show RD F v .none from h); rfl
  | some x =>
    have h' : RD F v (TD.d x) := h
    have hn : v ≠ .non := fun e => by
      subst e
      generalize hd : TD.d x = d at h'
      cases h'
      exact (NN.nn x).2 hd
    rw [decide_eq_false hn]; rfl
theorem ev_isN [NN α] {v : V} {o : Option α} (ha : Evl.Ev ta σ H v) (h : R F v o) : Evl.Ev (tIsN ta) σ H (.bl o.isNone) := fun H1 e Q q =>
  ha H1 e _ fun H2 e2 => by
    show Q (.bl (decide (v = .non))) H2
    rw [isN_opt h]; exact q H2 e2
theorem ev_notN [NN α] {v : V} {o : Option α} (ha : Evl.Ev ta σ H v) (h : R F v o) : Evl.Ev (tNotN ta) σ H (.bl (!o.isNone)) := fun H1 e Q q =>
  ha H1 e _ fun H2 e2 => by
    show Q (.bl (!decide (v = .non))) H2
    rw [isN_opt h]; exact q H2 e2
theorem ev_eqVar [TE' α] {v w : V} {x y : α} (ha : Evl.Ev ta σ H v) (hb : Evl.Ev tb σ H w) (hx : R H v x) (hy : R H w y) : Evl.Ev (tOp (rEqT α) ta tb) σ H (.bl (eqT x y)) := fun H1 e Q q =>
  ha H1 e _ fun H2 e2 => hb H2 (e.trans e2) _ fun H3 e3 => ⟨H3, x, y, Sub.refl _, hx.mono ((e.trans e2).trans e3), hy.mono ((e.trans e2).trans e3), q H3 (e2.trans e3)⟩
theorem ev_neqVar [TE' α] {v w : V} {x y : α} (ha : Evl.Ev ta σ H v) (hb : Evl.Ev tb σ H w) (hx : R H v x) (hy : R H w y) : Evl.Ev (tOp (rNeT α) ta tb) σ H (.bl (!eqT x y)) := fun H1 e Q q =>
  ha H1 e _ fun H2 e2 => hb H2 (e.trans e2) _ fun H3 e3 => ⟨H3, x, y, Sub.refl _, hx.mono ((e.trans e2).trans e3), hy.mono ((e.trans e2).trans e3), q H3 (e2.trans e3)⟩
theorem ev_eqNil [TE' α] {v : V} {x : List α} (ha : Evl.Ev ta σ H v) (hx : R H v x) : Evl.Ev (tOp (rEqT (List α)) ta (tLst tNil)) σ H (.bl (eqT x [])) := fun H1 e Q q =>
  ha H1 e _ fun H2 e2 => ⟨Nat.zero_le _, fun p hp => ⟨_, x, [], Sub.refl _, hx.mono ((e.trans e2).trans (Evl.Ex.new hp)), mk_lst upd_same Rs_nil, q _ (e2.trans (Evl.Ex.new hp))⟩⟩
theorem ev_neqNil [TE' α] {v : V} {x : List α} (ha : Evl.Ev ta σ H v) (hx : R H v x) : Evl.Ev (tOp (rNeT (List α)) ta (tLst tNil)) σ H (.bl (!eqT x [])) := fun H1 e Q q =>
  ha H1 e _ fun H2 e2 => ⟨Nat.zero_le _, fun p hp => ⟨_, x, [], Sub.refl _, hx.mono ((e.trans e2).trans (Evl.Ex.new hp)), mk_lst upd_same Rs_nil, q _ (e2.trans (Evl.Ex.new hp))⟩⟩
theorem ev_lenT {a : Addr} {us : List V} {xs : List α} (ha : Evl.Ev ta σ H (.ref a)) (h : H a = some (.lst us)) (r : Rs F us xs) :
    Evl.Ev (tCB (rLenT K) (tCons ta tNil)) σ H (.int (xs.length : Int)) := fun H1 e Q q =>
  ha H1 e _ fun H2 e2 => ⟨a, us, rfl, .inl (.inl (.inl (e2 _ _ (e _ _ h)))), by rw [Rs_len r]; exact q H2 e2⟩
end
section
variable {A : Addr → Prop} {F0 H0 F H N H' : Hp} {p : Addr} {o : HO} {us : List V}
theorem Ow.frzo {q : Addr} {ws : List V} (w : Ow H0 F H p us) (h : p ≠ q) (x : Ow H0 F H q ws) : Ow H0 (upd F q (.lst ws)) H p us := ⟨w.at_, by rw [upd_ne h]; exact w.nf, w.n0⟩
end
/-! #### slices, stores -/
def cutT {α : Type} (xs : List α) (lo hi : Option Int) : List α := (xs.drop (HT.sIx xs.length 0 lo)).take (HT.sIx xs.length xs.length hi - HT.sIx xs.length 0 lo)
section
variable {F : Hp} {α : Type} [TD α] {us : List V} {xs : List α}
theorem Rs_take (n : Nat) (r : Rs F us xs) : Rs F (us.take n) (xs.take n) := by unfold Rs; rw [List.map_take]; exact r.take n
theorem Rs_drop (n : Nat) (r : Rs F us xs) : Rs F (us.drop n) (xs.drop n) := by unfold Rs; rw [List.map_drop]; exact r.drop n
theorem Rs_cut {lo hi : Option Int} (r : Rs F us xs) : Rs F (cutV us lo hi) (cutT xs lo hi) := by
  unfold cutV cutT; rw [Rs_len r]; exact Rs_take _ (Rs_drop _ r)
theorem Rs_set {u : V} {x : α} {j : Nat} (r : Rs F us xs) (h : R F u x) : Rs F (us.set j u) (xs.set j x) := by unfold Rs; rw [List.map_set]; exact r.set j h
theorem Rs_ins {u : V} {x : α} {n : Nat} (r : Rs F us xs) (h : R F u x) : Rs F (us.take n ++ [u] ++ us.drop n) (xs.take n ++ [x] ++ xs.drop n) := Rs_app (Rs_app (Rs_take n r) (Rs_cons h Rs_nil)) (Rs_drop n r)
theorem Rs_rep (r : Rs F us xs) : ∀ {n : Nat}, Rs F (List.replicate n us).flatten (List.replicate n xs).flatten
  | 0 => .nil
  | n + 1 => by rw [List.replicate_succ, List.replicate_succ, List.flatten_cons, List.flatten_cons]; exact Rs_app r (Rs_rep r)
end
def Rg1 (j : Int) : Prop := -(2 ^ 62) ≤ j ∧ j < 2 ^ 62
instance (j : Int) : Decidable (Rg1 j) := inferInstanceAs (Decidable (_ ∧ _))
theorem Rg1.lo {j : Int} (h : Rg1 j) : -(2 ^ 62) ≤ j := h.1
theorem Rg1.hi {j : Int} (h : Rg1 j) : j < 2 ^ 62 := h.2
def Rg2 (i j : Int) : Prop := -(2 ^ 62) ≤ i ∧ i < 2 ^ 62 ∧ -(2 ^ 62) ≤ j ∧ j < 2 ^ 62
instance (i j : Int) : Decidable (Rg2 i j) := inferInstanceAs (Decidable (_ ∧ _))
theorem Rg2.ok {i j : Int} (h : Rg2 i j) : -(2 ^ 62) ≤ i ∧ i < 2 ^ 62 ∧ -(2 ^ 62) ≤ j ∧ j < 2 ^ 62 := h
def InsOk (n : Nat) (i : Int) : Prop := n < 16777216 ∧ 0 ≤ i ∧ i < 2 ^ 63
instance (n : Nat) (i : Int) : Decidable (InsOk n i) := inferInstanceAs (Decidable (_ ∧ _))
theorem InsOk.a {n : Nat} {i : Int} (h : InsOk n i) : n < 16777216 := h.1
theorem InsOk.b {n : Nat} {i : Int} (h : InsOk n i) : 0 ≤ i := h.2.1
theorem InsOk.c {n : Nat} {i : Int} (h : InsOk n i) : i < 2 ^ 63 := h.2.2
def Rv (n : Nat) (k : Int) : Prop := (-(2 ^ 63) ≤ k ∧ k < 2 ^ 63) ∧ n * k.toNat ≤ 16777216
instance (n : Nat) (k : Int) : Decidable (Rv n k) := inferInstanceAs (Decidable (_ ∧ _))
theorem Rv.lo {n : Nat} {k : Int} (h : Rv n k) : -(2 ^ 63) ≤ k := h.1.1
theorem Rv.hi {n : Nat} {k : Int} (h : Rv n k) : k < 2 ^ 63 := h.1.2
theorem Rv.sz {n : Nat} {k : Int} (h : Rv n k) : n * k.toNat ≤ 16777216 := h.2
theorem no_none {P : Prop} {α : Type} {r : α} (h : none = some r) : P := nomatch h
theorem ret_true {b : Bool} {Q : VK} {H : Hp} (hm : some b = some true) (q : ∀ H', Q (.bl true) H') : Q (.bl b) H := by cases hm; exact q H
theorem pairp {α β : Type} {a c : α} {b d : β} (h : some (a, b) = some (c, d)) : a = c ∧ b = d := by cases h; exact ⟨rfl, rfl⟩

/-! #### a fresh answer is ours -/
def Fz (H : Hp) (v : V) : Prop := ∀ a, v = .ref a → H a = none
theorem own_of {A B : Addr → Prop} {α : Type} [TD α] {F0 H0 F H N H2 : Hp} {a : Addr} {us : List V} {xs : List α} (G : Gr A F0 H0 F H) (g : Gr B F H N H2) (z : H a = none) (h : N a = some (.lst us)) : Ow H0 F H2 a us :=
  ⟨g.sub _ _ h, G.sub.none z, G.fresh z⟩
theorem Rs_flatI {N F : Hp} {us : List V} {xs : List Int} (r : Rs N us xs) : Rs F us xs := by rw [Rs_int r]; exact int_Rs xs
theorem Rs_flatB {N F : Hp} : ∀ {us : List V} {xs : List Bool}, Rs N us xs → Rs F us xs
  | _, [], r => by cases r; exact .nil
  | _, x :: xs, r => by cases r with | cons h r => cases h; exact .cons (.bl _) (Rs_flatB r)

/-! #### a fresh answer with a list within -/
def NestFz (H N : Hp) (v : V) : Prop := ∀ t b p, v = .ref t → N t = some (.tup [b, .ref p]) → H p = none
def eraseP (N : Hp) (p : Addr) : Hp := fun a => if a = p then none else N a
theorem eraseP_ne {N : Hp} {p a : Addr} (h : a ≠ p) : eraseP N p a = N a := if_neg h
theorem eraseP_same {N : Hp} {p : Addr} : eraseP N p p = none := if_pos rfl
theorem Gr.eraseP {A : Addr → Prop} {F H N H2 : Hp} {p : Addr} (g : Gr A F H N H2) (s : Sub F H) (z : H p = none) : Gr A F H (eraseP N p) H2 :=
  ⟨g.keep, g.there, fun a o e => by
    have : a ≠ p := fun q => by rw [q, s.none z] at e; exact nomatch e
    rw [eraseP_ne this]; exact g.ex a o e, fun a o e => by
    by_cases q : a = p
    · rw [q, eraseP_same] at e; exact nomatch e
    · rw [eraseP_ne q] at e; exact g.sub a o e, fun a h f => by
    by_cases q : a = p
    · rw [q]; exact eraseP_same
    · rw [eraseP_ne q]; exact g.own a h f⟩
theorem own_ofN {A B : Addr → Prop} {F0 H0 F H N H2 : Hp} {a : Addr} {us : List V} (G : Gr A F0 H0 F H) (g : Gr B F H N H2) (z : H a = none) (h : N a = some (.lst us)) : Ow H0 (eraseP N a) H2 a us :=
  ⟨g.sub _ _ h, eraseP_same, G.fresh z⟩
theorem eraseP_tup {N : Hp} {p t : Addr} {us xs : List V} (h : N t = some (.tup xs)) (k : N p = some (.lst us)) : eraseP N p t = some (.tup xs) := by
  rw [eraseP_ne (fun q => by rw [q, k] at h; exact nomatch h)]; exact h
theorem Rs_eraseP {N : Hp} {p : Addr} {us : List V} {xs : List (List Int)} (k : N p = some (.lst us)) (r : Rs N us xs) : Rs (eraseP N p) us xs := by
  have one : ∀ (u : V) (x : List Int), u ∈ us → R N u x → R (eraseP N p) u x := by
    intro u x hu h
    obtain ⟨a, ws, rfl, fa, fr⟩ := lst_of h
    have e := Rs_int fr
    have hne : a ≠ p := fun q => by
      rw [q, k] at fa
      have fa : us = ws := by cases fa; rfl
      rw [fa, e] at hu
      obtain ⟨i, _, hi⟩ := List.mem_map.mp hu
      exact nomatch hi
    exact mk_lst (by rw [eraseP_ne hne]; exact fa) (Rs_flatI fr)
  have all : ∀ (vs : List V) (ys : List (List Int)), (∀ u ∈ vs, u ∈ us) → Rs N vs ys → Rs (eraseP N p) vs ys := by
    intro vs ys
    induction ys generalizing vs with
    | nil => intro _ r; cases r; exact .nil
    | cons y ys ih =>
      intro hs r
      cases r with
      | cons h r => exact Rs_cons (one _ _ (hs _ List.mem_cons_self) h) (ih _ (fun u hu => hs u (List.mem_cons_of_mem _ hu)) r)
  exact all us xs (fun u h => h) r
def PopOk (n : Nat) (i : Int) : Prop := 0 ≤ i ∧ i < n ∧ i < 2 ^ 63
instance (n : Nat) (i : Int) : Decidable (PopOk n i) := inferInstanceAs (Decidable (_ ∧ _))
theorem PopOk.ix {n : Nat} {i : Int} (h : PopOk n i) : seqIndex? i n = some i.toNat := by
  obtain ⟨h0, h1, _⟩ := h
  unfold seqIndex?
  simp [h0, h1] <;> omega
theorem PopOk.get {i : Int} {us : List V} (h : PopOk us.length i) : ∃ y, us[i.toNat]? = some y := ⟨_, List.getElem?_eq_getElem (by have := h.1; have := h.2.1; omega)⟩
theorem PopOk.lo {n : Nat} {i : Int} (h : PopOk n i) : -(2 ^ 63) ≤ i := by have := h.1; omega
theorem Rs_popAt {α : Type} [TD α] {F : Hp} {us : List V} {xs : List α} (r : Rs F us xs) {k : Nat} : Rs F (us.eraseIdx k) (xs.eraseIdx k) := by
  rw [List.eraseIdx_eq_take_drop_succ, List.eraseIdx_eq_take_drop_succ]
  exact Rs_app (Rs_take _ r) (Rs_drop _ r)

/-! #### the deck of the laws' draws -/
abbrev DkS := List (Int × Int × Int) × Int
def Deck (A : Addr → Prop) (H : Hp) (dk : Addr) (st : DkS) : Prop := ∃ (P : Addr) (pas : List Addr), H dk = some (.lst [.ref P, .int st.2]) ∧ H P = some (.lst (pas.map V.ref)) ∧
  Paired (fun pa (p : Int × Int × Int) => H pa = some (.lst [.int p.1, .int p.2.1, .int p.2.2])) pas st.1 ∧ (∀ a, A a ↔ a = dk ∨ a = P ∨ a ∈ pas) ∧ dk ≠ P ∧ dk ∉ pas ∧ P ∉ pas ∧ pas.Nodup
theorem paired_mono {α β : Type} {F G : α → β → Prop} {l : List α} {m : List β} (p : Paired F l m) (f : ∀ a b, a ∈ l → F a b → G a b) : Paired G l m := by
  induction p with
  | nil => exact .nil
  | cons h _ ih => exact .cons (f _ _ List.mem_cons_self h) (ih fun a b ha => f a b (List.mem_cons_of_mem _ ha))
theorem Deck.keep {A : Addr → Prop} {H H' : Hp} {dk : Addr} {st : DkS} (d : Deck A H dk st) (k : ∀ a o, A a → H a = some o → H' a = some o) : Deck A H' dk st := by
  obtain ⟨P, pas, h1, h2, h3, hA, r⟩ := d
  exact ⟨P, pas, k _ _ ((hA _).mpr (.inl rfl)) h1, k _ _ ((hA _).mpr (.inr (.inl rfl))) h2, paired_mono h3 fun a b ha h => k _ _ ((hA _).mpr (.inr (.inr ha))) h, hA, r⟩
theorem paired_left {α β : Type} {F : α → β → Prop} : ∀ {l : List α} {m : List β} {a : α}, Paired F l m → a ∈ l → ∃ b, F a b
  | _, _, _, .nil, h => nomatch h
  | _, _, a, .cons (a := x) h t, hm => by
    rcases List.mem_cons.mp hm with e | e
    · subst e; exact ⟨_, h⟩
    · exact paired_left t e
theorem Deck.there {A : Addr → Prop} {H : Hp} {dk a : Addr} {st : DkS} (d : Deck A H dk st) (h : A a) : H a ≠ none := by
  obtain ⟨P, pas, h1, h2, h3, hA, r⟩ := d
  rcases (hA a).mp h with e | e | e
  · subst e; rw [h1]; exact (fun z => nomatch z)
  · subst e; rw [h2]; exact (fun z => nomatch z)
  · obtain ⟨p, hp⟩ := paired_left h3 e
    rw [hp]; exact (fun z => nomatch z)
structure DkAt (A : Addr → Prop) (H0 F H : Hp) (dk : Addr) (st : DkS) : Prop where
  at_ : Deck A H dk st
  nf : ∀ a, A a → F a = none
  n0 : ∀ a, A a → H0 a ≠ none
section
variable {A : Addr → Prop} {F0 H0 F H N H' : Hp} {p dk : Addr} {o : HO} {us : List V} {st st2 : DkS}
theorem DkAt.mk0 (h : Deck A H dk st) (f : ∀ a, A a → F a = none) : DkAt A H F H dk st := ⟨h, f, fun _ => h.there⟩
theorem DkAt.step (d : DkAt A H0 F H dk st) (g : Gr NA F H N H') : DkAt A H0 N H' dk st := ⟨d.at_.keep fun a o _ h => g.keep a o id h, fun a h => g.own a (d.at_.there h) (d.nf a h), d.n0⟩
theorem DkAt.stepA (d : DkAt A H0 F H dk st) (g : Gr A F H N H') (x : Deck A H' dk st2) : DkAt A H0 N H' dk st2 := ⟨x, fun a h => g.own a (d.at_.there h) (d.nf a h), d.n0⟩
theorem DkAt.out (d : DkAt A H0 F H dk st) (w : Ow H0 F H p us) : ¬ A p := fun h => d.n0 p h w.n0
theorem DkAt.mut {ws : List V} (d : DkAt A H0 F H dk st) (w : Ow H0 F H p us) : DkAt A H0 F (upd H p (.lst ws)) dk st :=
  ⟨d.at_.keep fun a o h e => by rw [upd_ne (show a ≠ p from fun z => d.out w (by rw [← z]; exact h))]; exact e, d.nf, d.n0⟩
theorem DkAt.frz (d : DkAt A H0 F H dk st) (w : Ow H0 F H p us) : DkAt A H0 (upd F p (.lst us)) H dk st :=
  ⟨d.at_, fun a h => by rw [upd_ne (show a ≠ p from fun z => d.out w (by rw [← z]; exact h))]; exact d.nf a h, d.n0⟩
theorem Ow.stepA (w : Ow H0 F H p us) (g : Gr A F H N H') (h : ¬ A p) : Ow H0 N H' p us := ⟨g.keep p _ h w.at_, g.own p (by rw [w.at_]; exact (fun z => nomatch z)) w.nf, w.n0⟩
theorem Gr.mutA (G : Gr A F0 H0 F H) (h : A p) (f : F p = none) : Gr A F0 H0 F (upd H p o) :=
  ⟨fun a u na e => by rw [upd_ne (show a ≠ p from fun z => na (by rw [z]; exact h))]; exact G.keep a u na e, fun a e => by
    by_cases z : a = p
    · subst z; rw [upd_same]; exact (fun z => nomatch z)
    · rw [upd_ne z]; exact G.there a e, G.ex, G.sub.mut f, G.own⟩
end
/-! #### a list that is handed in and grown -/
abbrev HdS := List (Option (List Int) × Option (List Int))
def Held (A : Addr → Prop) (F H : Hp) (dk : Addr) (st : HdS) : Prop := (∃ us, H dk = some (.lst us) ∧ Rs F us st) ∧ F dk = none ∧ ∀ a, A a ↔ a = dk
structure HdAt (A : Addr → Prop) (H0 F H : Hp) (dk : Addr) (st : HdS) : Prop where
  at_ : ∃ us, H dk = some (.lst us) ∧ Rs F us st
  nf : F dk = none
  n0 : H0 dk ≠ none
  ia : ∀ a, A a ↔ a = dk
section
variable {A : Addr → Prop} {F0 H0 F H N H' : Hp} {p q dk : Addr} {o : HO} {us : List V} {st : HdS}
theorem HdAt.mk0 (h : Held A F H dk st) : HdAt A H F H dk st := ⟨h.1, h.2.1, by obtain ⟨⟨us, e, _⟩, _⟩ := h; rw [e]; exact (fun z => nomatch z), h.2.2⟩
theorem HdAt.held (h : HdAt A H0 F H dk st) : Held A F H dk st := ⟨h.at_, h.nf, h.ia⟩
theorem HdAt.step (d : HdAt A H0 F H dk st) (g : Gr NA F H N H') : HdAt A H0 N H' dk st := by
  obtain ⟨us, e, r⟩ := d.at_
  exact ⟨⟨us, g.keep dk _ id e, Rs_mono g.ex r⟩, g.own dk (by rw [e]; exact (fun z => nomatch z)) d.nf, d.n0, d.ia⟩
theorem HdAt.out (d : HdAt A H0 F H dk st) (w : Ow H0 F H p us) : p ≠ dk := fun e => d.n0 (by rw [← e]; exact w.n0)
theorem HdAt.mut {ws : List V} (d : HdAt A H0 F H dk st) (w : Ow H0 F H p us) : HdAt A H0 F (upd H p (.lst ws)) dk st := by
  obtain ⟨us, e, r⟩ := d.at_
  exact ⟨⟨us, by rw [upd_ne (d.out w).symm]; exact e, r⟩, d.nf, d.n0, d.ia⟩
theorem HdAt.frz (d : HdAt A H0 F H dk st) (w : Ow H0 F H p us) : HdAt A H0 (upd F p (.lst us)) H dk st := by
  obtain ⟨vs, e, r⟩ := d.at_
  exact ⟨⟨vs, e, Rs_mono w.ex r⟩, by rw [upd_ne (d.out w).symm]; exact d.nf, d.n0, d.ia⟩
theorem HdAt.app {v : V} {x : Option (List Int) × Option (List Int)} (d : HdAt A H0 F H dk st) (r : Rs F us st) (h : R F v x) : HdAt A H0 F (upd H dk (.lst (us ++ [v]))) dk (st ++ [x]) :=
  ⟨⟨_, upd_same, Rs_snoc r h⟩, d.nf, d.n0, d.ia⟩
theorem Gr.transO (G : Gr A F0 H0 F H) (g : Gr (fun a => a = p) F H N H') (h0 : H0 p = none) : Gr A F0 H0 N H' :=
  ⟨fun a o na e => g.keep a o (fun z => by rw [z, h0] at e; exact nomatch e) (G.keep a o na e), fun a e => g.there a (G.there a e), G.ex.trans g.ex, g.sub, fun a e f => g.own a (G.there a e) (G.own a e f)⟩
theorem DkAt.stepO {st : DkS} (d : DkAt A H0 F H dk st) (g : Gr (fun a => a = p) F H N H') (h0 : H0 p = none) : DkAt A H0 N H' dk st :=
  ⟨d.at_.keep fun a o h e => g.keep a o (fun z => d.n0 a h (by rw [z]; exact h0)) e, fun a h => g.own a (d.at_.there h) (d.nf a h), d.n0⟩
theorem Fz.up {v : V} (G : Gr A F0 H0 F H) (z : Fz H v) : Fz H0 v := fun a e => G.fresh (z a e)
end
theorem nonO_of {α : Type} [TD α] {F : Hp} {v : V} (h : R F v (none : Option α)) : v = .non := by cases (show RD F v .none from h); rfl
def optE {α ρ : Type} (o : Option α) (n : Option ρ) (s : α → Option ρ) : Option ρ := match o with | none => n | some x => s x
theorem optE_cases {α ρ : Type} {o : Option α} {n : Option ρ} {s : α → Option ρ} {z : ρ} (h : optE o n s = some z) : (o = none ∧ n = some z) ∨ ∃ x, o = some x ∧ s x = some z := by
  cases o with
  | none => exact .inl ⟨rfl, h⟩
  | some x => exact .inr ⟨x, rfl, h⟩

/-! #### a deck and a list that is handed in and grown, together -/
def AH (A : Addr → Prop) (h : Addr) : Addr → Prop := fun a => A a ∨ a = h
def HeldQ (A : Addr → Prop) (F H : Hp) (hd : Addr) (st : HdS) : Prop := (∃ us, H hd = some (.lst us) ∧ Rs F us st) ∧ F hd = none ∧ ¬ A hd
/-- the list that was handed in: it is changed in place, and stood ahead -/
structure OwP (A : Addr → Prop) (H0 F H : Hp) (p : Addr) (us : List V) : Prop where
  at_ : H p = some (.lst us)
  nf : F p = none
  n0 : H0 p ≠ none
  na : ¬ A p
section
variable {A : Addr → Prop} {F0 H0 F H N H' : Hp} {p q dk : Addr} {o : HO} {us ws : List V} {st st2 : DkS}
theorem OwP.step (w : OwP A H0 F H p us) (g : Gr NA F H N H') : OwP A H0 N H' p us := ⟨g.keep p _ id w.at_, g.own p (by rw [w.at_]; exact (fun z => nomatch z)) w.nf, w.n0, w.na⟩
theorem OwP.stepA (w : OwP A H0 F H p us) (g : Gr A F H N H') : OwP A H0 N H' p us := ⟨g.keep p _ w.na w.at_, g.own p (by rw [w.at_]; exact (fun z => nomatch z)) w.nf, w.n0, w.na⟩
theorem OwP.mut {xs : List V} (w : OwP A H0 F H p us) : OwP A H0 F (upd H p (.lst xs)) p xs := ⟨upd_same, w.nf, w.n0, w.na⟩
theorem OwP.other {xs : List V} (w : OwP A H0 F H p us) (h : q ≠ p) : OwP A H0 F (upd H q (.lst xs)) p us := ⟨by rw [upd_ne h.symm]; exact w.at_, w.nf, w.n0, w.na⟩
theorem OwP.ne_new (w : OwP A H0 F H p us) (hq : H q = none) : p ≠ q := ne_of_none w.at_ hq
theorem OwP.ne (w : OwP A H0 F H p us) (x : Ow H0 F H q ws) : p ≠ q := fun e => w.n0 (by rw [e]; exact x.n0)
theorem OwP.mutG (w : OwP A H0 F H p us) (G : Gr (AH A p) F0 H0 F H) : Gr (AH A p) F0 H0 F (upd H p o) := G.mutA (.inr rfl) w.nf
theorem OwP.frzo (w : OwP A H0 F H p us) (x : Ow H0 F H q ws) : OwP A H0 (upd F q (.lst ws)) H p us := ⟨w.at_, by rw [upd_ne (w.ne x)]; exact w.nf, w.n0, w.na⟩
theorem OwP.mk0 {hst : HdS} (h : HeldQ A F H p hst) : ∃ us, OwP A H F H p us ∧ Rs F us hst := by
  obtain ⟨⟨us, e, r⟩, nf, na⟩ := h
  exact ⟨us, ⟨e, nf, by rw [e]; exact (fun z => nomatch z), na⟩, r⟩
theorem OwP.held {hst : HdS} (w : OwP A H0 F H p us) (r : Rs F us hst) : HeldQ A F H p hst := ⟨⟨us, w.at_, r⟩, w.nf, w.na⟩
theorem Gr.wid (g : Gr A F H N H') : Gr (AH A p) F H N H' := ⟨fun a o na h => g.keep a o (fun z => na (.inl z)) h, g.there, g.ex, g.sub, g.own⟩
theorem Gr.widR (g : Gr (fun a => a = p) F H N H') : Gr (AH A p) F H N H' := ⟨fun a o na h => g.keep a o (fun z => na (.inr z)) h, g.there, g.ex, g.sub, g.own⟩
theorem Gr.transAH (G : Gr A F0 H0 F H) (g : Gr (AH A p) F H N H') (h0 : H0 p = none) : Gr A F0 H0 N H' :=
  ⟨fun a o na e => g.keep a o (fun z => z.elim na fun z => by rw [z, h0] at e; exact nomatch e) (G.keep a o na e), fun a e => g.there a (G.there a e), G.ex.trans g.ex, g.sub, fun a e f => g.own a (G.there a e) (G.own a e f)⟩
theorem DkAt.mutP {xs : List V} (d : DkAt A H0 F H dk st) (w : OwP A H0 F H p us) : DkAt A H0 F (upd H p (.lst xs)) dk st :=
  ⟨d.at_.keep fun a o h e => by rw [upd_ne (show a ≠ p from fun z => w.na (by rw [← z]; exact h))]; exact e, d.nf, d.n0⟩
theorem DkAt.stepP (d : DkAt A H0 F H dk st) (g : Gr (fun a => a = p) F H N H') (na : ¬ A p) : DkAt A H0 N H' dk st :=
  ⟨d.at_.keep fun a o h e => g.keep a o (fun z => na (by rw [← z]; exact h)) e, fun a h => g.own a (d.at_.there h) (d.nf a h), d.n0⟩
theorem DkAt.stepAH (d : DkAt A H0 F H dk st) (g : Gr (AH A p) F H N H') (x : Deck A H' dk st2) : DkAt A H0 N H' dk st2 := ⟨x, fun a h => g.own a (d.at_.there h) (d.nf a h), d.n0⟩
end
/-! #### sorted, and which values it is of -/
def rSortedM (α : Type) [TD α] : List V → Hp → VK → Prop := fun vs H Q => ∃ (a : Addr) (us : List V) (F : Hp) (xs : List α), vs = [.ref a] ∧ H a = some (.lst us) ∧ Sub F H ∧ Rs F us xs ∧ xs.length ≤ 16777216 ∧
  ∀ p ws, H p = none → Rs F ws (sortT xs) → (∀ w ∈ ws, w ∈ us) → Q (.ref p) (upd H p (.lst ws))

section
variable {X : Cx} {α : Type} [TD α] [TB α] [SO α]
theorem each_ofM {F : Hp} {ms : List V} : ∀ {us : List V} {vs : List Value} {xs : List α}, (∀ u ∈ us, u ∈ ms) → Vals us vs → Rs F us xs → PySem.W.EachIs (fun v x => ∃ u, RelV u v ∧ R F u x ∧ u ∈ ms) vs xs
  | _, _, [], _, r, q => by
    cases q
    cases r; exact .nil
  | _, _, x :: xs, hm, r, q => by
    cases q with
    | cons h1 h2 => cases r with | cons r1 r2 => exact .cons ⟨_, r1, h1, hm _ List.mem_cons_self⟩ (each_ofM (fun u hu => hm u (List.mem_cons_of_mem _ hu)) r2 h2)
theorem of_eachM {F : Hp} {ms : List V} : ∀ {vs : List Value} {xs : List α}, PySem.W.EachIs (fun v x => ∃ u, RelV u v ∧ R F u x ∧ u ∈ ms) vs xs → ∃ us, Vals us vs ∧ Rs F us xs ∧ ∀ u ∈ us, u ∈ ms
  | _, _, .nil => ⟨[], .nil, .nil, fun _ h => absurd h List.not_mem_nil⟩
  | _, _, .cons ⟨u, h1, h2, h3⟩ t => by
    obtain ⟨us, a, b, c⟩ := of_eachM t
    exact ⟨u :: us, .cons h1 a, .cons h2 b, fun w hw => (List.mem_cons.mp hw).elim (fun e => by rw [e]; exact h3) (c w)⟩
theorem call_sortedM (hd : TB.dep α ≤ 60) (hu : X.A.units + 200 < cLine) : CallR X (.builtin "sorted") (rSortedM α) := by
  intro pins s σ H vs us0 Q I r h
  obtain ⟨a, us, F, xs, rfl, ha, sb, hr, hl, q⟩ := h
  have hS : SqL X.K H a us := .inl (.inl ha)
  obtain ⟨its, rv, hli, _⟩ := I.list hS
  rw [Vals.ref1 r]
  have e1 := each_ofM (ms := us) (fun _ h => h) rv hr
  have reads : PySem.W.EachIs (fun v x => ∃ as, Reads s.heap v (TD.d x) as) its xs := e1.mono fun v x ⟨u, r1, r2, _⟩ => Dp.reads I _ u v (r2.dpL (K := X.K) sb (TB.lay x)) r1
  refine PySem.W.sorted_data (enc := TD.d) (R := fun v x => ∃ u, RelV u v ∧ R F u x ∧ u ∈ us) hli.isList e1 reads (PySem.W.AllAlike.of SO.alike) ?_ (by rw [sizeLine_eq]; exact hl) (fun x _ => ?_) fun out hlen eo => ?_
  · rcases SO.kind (α := α) with k | k
    · exact PySem.W.Sortable.tuples k
    · exact PySem.W.Sortable.others fun x => ⟨SO.nn x, k x⟩
  · have h1 := TB.dle x
    omega
  · obtain ⟨ws, w1, w2, w3⟩ := of_eachM eo
    obtain ⟨ep, he'⟩ := PyProof.Rows.sortedAll_at s.heap its out.toArray
    have hz : ws.length ≤ sizeLine := by rw [Rs_len w2, sizeLine_eq]; show (sortT xs).length ≤ _; rw [sortT_len]; exact hl
    exact ⟨.ref _, upd H (s.heap.objs.size + 1) (.lst ws), I.laid (t' := s.toks) (fun _ _ => PyProof.Rows.sortedAll_old) (Nat.le_succ _) ⟨hz, out, ep, w1, he'⟩, rfl, q _ ws (I.hok.fresh (Nat.le_succ _)) w2 w3⟩
end

/-- one draw -/
def mixD (x t many : Int) : Int :=
  let a := (x % 99999999977 + 700001 * t) % 99999999947
  let b := a * a % 99999999821
  let c := b * (b + 19) % 9999999967
  c / 13 % many
def _law_draw (st : DkS) (many : Int) : Option (Int × DkS) :=
  if Dv many then
    (st.1[(st.2 % (st.1.length : Int)).toNat]?).bind fun p =>
      if p.2.1 = 1 ∧ 0 < p.1 then some (p.1 % many, (st.1.set (st.2 % (st.1.length : Int)).toNat (p.1 / many, p.2.1, p.2.2), st.2 + 1))
      else some (mixD p.1 (p.2.2 + 1) many, (st.1.set (st.2 % (st.1.length : Int)).toNat (p.1, p.2.1, p.2.2 + 1), st.2 + 1))
  else none
def poolOf (cells : List Int) (k : Nat) : Int × Int × Int :=
  let cell := cells.getD k 0
  (cell, (if decide ((10 : Int) ^ (18 : Int).toNat ≤ cell) = true then 1 else 0), 31 * (k : Int))
def deckLen (cells : List Int) : Nat := max 1 (min 63 cells.length)
def mkDeck (cells : List Int) : DkS := ((List.range (deckLen cells)).map (poolOf cells), 0)

/-! #### a constant of the module -/
structure CAt (mg : Str → Option Value) (nm : Str) (i : Int) where
  t : Tok
  g : mg nm = some (.int i t)

/-! #### a def of the text, where it stands -/
structure FnAt (K : PySem.W.Frag) (mg : Str → Option Value) (nm : Str) (st : Stmt) (ps : List Str) where
  f : Addr
  fd : FuncData
  F : Fun K nm nm st f fd
  g : mg nm = some (.ref f)
  b : Binds K fd ps []
end My

namespace My
open PySem PySem.Spec PyProof.Rows L2
/-! #### data whose lists are all new -/
mutual
inductive RN (H0 F : Hp) : V → PyData → Prop
  | non : RN H0 F .non .none
  | bl (b : Bool) : RN H0 F (.bl b) (.bool b)
  | int (i : Int) : RN H0 F (.int i) (.int i)
  | str (x : Str) : RN H0 F (.str x) (.str x)
  | lst {a : Addr} {us : List V} {ds : List PyData} : H0 a = none → F a = some (.lst us) → RNs H0 F us ds → RN H0 F (.ref a) (.list ds)
  | tup {a : Addr} {us : List V} {ds : List PyData} : F a = some (.tup us) → RNs H0 F us ds → RN H0 F (.ref a) (.tuple ds)
inductive RNs (H0 F : Hp) : List V → List PyData → Prop
  | nil : RNs H0 F [] []
  | cons {v : V} {us : List V} {d : PyData} {ds : List PyData} : RN H0 F v d → RNs H0 F us ds → RNs H0 F (v :: us) (d :: ds)
end
mutual
theorem RN.rd {H0 F : Hp} : ∀ {d : PyData} {v : V}, RN H0 F v d → RD F v d
  | _, _, .non => .non
  | _, _, .bl b => .bl b
  | _, _, .int i => .int i
  | _, _, .str x => .str x
  | _, _, .lst _ h r => .lst h (RNs.rds r)
  | _, _, .tup h r => .tup h (RNs.rds r)
theorem RNs.rds {H0 F : Hp} : ∀ {ds : List PyData} {us : List V}, RNs H0 F us ds → RDs F us ds
  | _, _, .nil => .nil
  | _, _, .cons h r => .cons (RN.rd h) (RNs.rds r)
end
mutual
theorem RN.mono {H0 F N : Hp} (s : Sub F N) : ∀ {d : PyData} {v : V}, RN H0 F v d → RN H0 N v d
  | _, _, .non => .non
  | _, _, .bl b => .bl b
  | _, _, .int i => .int i
  | _, _, .str x => .str x
  | _, _, .lst n h r => .lst n (s _ _ h) (RNs.mono s r)
  | _, _, .tup h r => .tup (s _ _ h) (RNs.mono s r)
theorem RNs.mono {H0 F N : Hp} (s : Sub F N) : ∀ {ds : List PyData} {us : List V}, RNs H0 F us ds → RNs H0 N us ds
  | _, _, .nil => .nil
  | _, _, .cons h r => .cons (RN.mono s h) (RNs.mono s r)
end
mutual
/-- new ahead of a later heap, new ahead of an earlier one -/
theorem RN.up {H1 H0 F : Hp} (s : ∀ a, H1 a = none → H0 a = none) : ∀ {d : PyData} {v : V}, RN H1 F v d → RN H0 F v d
  | _, _, .non => .non
  | _, _, .bl b => .bl b
  | _, _, .int i => .int i
  | _, _, .str x => .str x
  | _, _, .lst n h r => .lst (s _ n) h (RNs.up s r)
  | _, _, .tup h r => .tup h (RNs.up s r)
theorem RNs.up {H1 H0 F : Hp} (s : ∀ a, H1 a = none → H0 a = none) : ∀ {ds : List PyData} {us : List V}, RNs H1 F us ds → RNs H0 F us ds
  | _, _, .nil => .nil
  | _, _, .cons h r => .cons (RN.up s h) (RNs.up s r)
end
theorem RNs.append {H0 F : Hp} : ∀ {us ws : List V} {ds es : List PyData}, RNs H0 F us ds → RNs H0 F ws es → RNs H0 F (us ++ ws) (ds ++ es)
  | _, _, _, _, .nil, s => s
  | _, _, _, _, .cons h r, s => .cons h (RNs.append r s)
mutual
theorem RN.of {H0 F : Hp} : ∀ {d d' : PyData} {v : V}, RN H0 F v d' → RD F v d → RN H0 F v d
  | _, _, _, .non, r => by cases r; exact .non
  | _, _, _, .bl b, r => by cases r; exact .bl b
  | _, _, _, .int i, r => by cases r; exact .int i
  | _, _, _, .str x, r => by cases r; exact .str x
  | _, _, _, .lst n h q, r => by
    cases r with
    | lst h' q' => rw [h] at h'; cases h'; exact .lst n h (RNs.of q q')
    | tup h' q' => rw [h] at h'; cases h'
    | dic h' q' => rw [h] at h'; cases h'
  | _, _, _, .tup h q, r => by
    cases r with
    | dic h' q' => rw [h] at h'; cases h'
    | lst h' q' => rw [h] at h'; cases h'
    | tup h' q' => rw [h] at h'; cases h'; exact .tup h (RNs.of q q')
theorem RNs.of {H0 F : Hp} : ∀ {ds ds' : List PyData} {us : List V}, RNs H0 F us ds' → RDs F us ds → RNs H0 F us ds
  | _, _, _, .nil, r => by cases r; exact .nil
  | _, _, _, .cons h q, r => by cases r with | cons h' q' => exact .cons (RN.of h h') (RNs.of q q')
end
theorem RNs.mem {H0 F : Hp} : ∀ {us : List V} {ds : List PyData} {u : V}, RNs H0 F us ds → u ∈ us → ∃ d, RN H0 F u d
  | _, _, _, .nil, h => absurd h List.not_mem_nil
  | _, _, u, .cons h r, hm => by
    rcases List.mem_cons.mp hm with e | e
    · subst e; exact ⟨_, h⟩
    · exact RNs.mem r e
theorem RNs.sub {H0 F : Hp} {us : List V} {ds : List PyData} (r : RNs H0 F us ds) : ∀ {ws : List V} {es : List PyData}, (∀ w ∈ ws, w ∈ us) → RDs F ws es → RNs H0 F ws es
  | _, _, _, .nil => .nil
  | _, _, k, .cons h q => by
    obtain ⟨d, hd⟩ := r.mem (k _ List.mem_cons_self)
    exact .cons (hd.of h) (RNs.sub r (fun w hw => k w (List.mem_cons_of_mem _ hw)) q)
abbrev NR {α : Type} [TD α] (H0 F : Hp) (v : V) (x : α) : Prop := RN H0 F v (TD.d x)
abbrev NRs {α : Type} [TD α] (H0 F : Hp) (us : List V) (xs : List α) : Prop := RNs H0 F us (xs.map TD.d)
section
variable {α β : Type} [TD α] [TD β] {H0 F N : Hp} {v u : V} {us ws : List V} {xs ys : List α} {x : α}
theorem NR_lst_of (h : NR H0 F v xs) : ∃ a us, v = .ref a ∧ F a = some (.lst us) ∧ NRs H0 F us xs ∧ H0 a = none := by
  cases h with | lst n h r => exact ⟨_, _, rfl, h, r, n⟩
theorem NR_tup2_of {p : α × β} (h : NR H0 F v p) : ∃ a v1 v2, v = .ref a ∧ F a = some (.tup [v1, v2]) ∧ NR H0 F v1 p.1 ∧ NR H0 F v2 p.2 := by
  cases h with | tup h r => cases r with | cons h1 r => cases r with | cons h2 r => cases r; exact ⟨_, _, _, rfl, h, h1, h2⟩
theorem NRs_nil : NRs (α := α) H0 F [] [] := .nil
theorem NRs_cons (h : NR H0 F u x) (r : NRs H0 F us xs) : NRs H0 F (u :: us) (x :: xs) := .cons h r
theorem NRs_snoc (r : NRs H0 F us xs) (h : NR H0 F u x) : NRs H0 F (us ++ [u]) (xs ++ [x]) := by
  unfold NRs; rw [List.map_append]; exact RNs.append r (.cons h .nil)
theorem NRs_mono (s : Sub F N) (r : NRs H0 F us xs) : NRs H0 N us xs := RNs.mono s r
theorem NRs_rs (r : NRs H0 F us xs) : Rs F us xs := RNs.rds r
theorem NR_r (r : NR H0 F v x) : R F v x := RN.rd r
theorem NRs_sub (r : NRs H0 F us xs) (k : ∀ w ∈ ws, w ∈ us) (q : Rs F ws ys) : NRs H0 F ws ys := RNs.sub r k q
theorem NRs_mem (r : NRs H0 F us xs) (k : u ∈ us) (q : R F u x) : NR H0 F u x := by
  obtain ⟨d, hd⟩ := RNs.mem r k
  exact hd.of q
theorem NRs_flatI {us : List V} {xs : List Int} (r : Rs F us xs) : NRs H0 F us xs := by
  induction xs generalizing us with
  | nil => cases r; exact .nil
  | cons x xs ih => cases r with | cons h r => cases h; exact .cons (.int _) (ih r)
theorem mkN_lst {a : Addr} (n : H0 a = none) (h : F a = some (.lst us)) (r : NRs H0 F us xs) : NR H0 F (.ref a) xs := .lst n h r
theorem mkN_tup2 {a : Addr} {v1 v2 : V} {p : α × β} (h : F a = some (.tup [v1, v2])) (h1 : NR H0 F v1 p.1) (h2 : NR H0 F v2 p.2) : NR H0 F (.ref a) p := .tup h (.cons h1 (.cons h2 .nil))
theorem NRs_cut {lo hi : Option Int} (r : NRs H0 F us xs) : NRs H0 F (cutV us lo hi) (cutT xs lo hi) :=
  NRs_sub r (fun w hw => by unfold cutV at hw; exact List.mem_of_mem_drop (List.mem_of_mem_take hw)) (Rs_cut (NRs_rs r))
end

/-! #### a list of lists that is all ours -/
structure OwL (H0 F H : Hp) (p : Addr) (as : List Addr) (xs : List (List Int)) : Prop where
  at_ : H p = some (.lst (as.map V.ref))
  it : Paired (fun a (x : List Int) => H a = some (.lst (x.map V.int))) as xs
  nd : (p :: as).Nodup
  nf : ∀ a ∈ p :: as, F a = none
  n0 : ∀ a ∈ p :: as, H0 a = none
theorem prd_mono {α β : Type} {F G : α → β → Prop} {l : List α} {m : List β} (p : Paired F l m) (f : ∀ a b, a ∈ l → F a b → G a b) : Paired G l m := paired_mono p f
theorem prd_get {α β : Type} {F : α → β → Prop} : ∀ {l : List α} {m : List β} {i : Nat} {b : β}, Paired F l m → m[i]? = some b → ∃ a, l[i]? = some a ∧ F a b
  | _, _, _, _, .nil, e => by simp at e
  | _, _, 0, _, .cons h _, e => by simp at e; subst e; exact ⟨_, rfl, h⟩
  | _, _, i + 1, _, .cons _ t, e => by
    obtain ⟨a, h1, h2⟩ := prd_get (i := i) t (by simpa using e)
    exact ⟨a, by simpa using h1, h2⟩
theorem prd_getL {α β : Type} {F : α → β → Prop} : ∀ {l : List α} {m : List β} {i : Nat} {a : α}, Paired F l m → l[i]? = some a → ∃ b, m[i]? = some b ∧ F a b
  | _, _, _, _, .nil, e => by simp at e
  | _, _, 0, _, .cons h _, e => by simp at e; subst e; exact ⟨_, rfl, h⟩
  | _, _, i + 1, _, .cons _ t, e => by
    obtain ⟨a, h1, h2⟩ := prd_getL (i := i) t (by simpa using e)
    exact ⟨a, by simpa using h1, h2⟩
theorem prd_len {α β : Type} {F : α → β → Prop} : ∀ {l : List α} {m : List β}, Paired F l m → l.length = m.length
  | _, _, .nil => rfl
  | _, _, .cons _ t => by simp [prd_len t]
theorem prd_left {α β : Type} {F : α → β → Prop} : ∀ {l : List α} {m : List β} {a : α}, Paired F l m → a ∈ l → ∃ b, b ∈ m ∧ F a b
  | _, _, _, .nil, h => absurd h List.not_mem_nil
  | _, _, a, .cons h t, hm => by
    rcases List.mem_cons.mp hm with e | e
    · subst e; exact ⟨_, List.mem_cons_self, h⟩
    · obtain ⟨b, hb, hf⟩ := prd_left t e
      exact ⟨b, List.mem_cons_of_mem _ hb, hf⟩
theorem prd_set {α β : Type} {F G : α → β → Prop} : ∀ {l : List α} {m : List β} {i : Nat} {a : α} {b : β}, Paired F l m → l[i]? = some a → l.Nodup → (∀ a' b', a' ∈ l → a' ≠ a → F a' b' → G a' b') → G a b → Paired G l (m.set i b)
  | _, _, _, _, _, .nil, e, _, _, _ => by simp at e
  | _, _, 0, a, b, .cons (a := x) h t, e, nd, f, g => by
    simp at e; subst e
    refine .cons g ?_
    have nd' := List.nodup_cons.mp nd
    exact paired_mono t fun a' b' ha hF => f a' b' (List.mem_cons_of_mem _ ha) (fun z => nd'.1 (z ▸ ha)) hF
  | _, _, i + 1, a, b, .cons (a := x) h t, e, nd, f, g => by
    have nd' := List.nodup_cons.mp nd
    have e' := e
    simp at e'
    refine .cons (f _ _ List.mem_cons_self (fun z => ?_) h) (prd_set (i := i) t e' nd'.2 (fun a' b' ha => f a' b' (List.mem_cons_of_mem _ ha)) g)
    rw [z] at nd'
    exact nd'.1 (List.mem_of_getElem? e')
theorem prd_snoc {α β : Type} {F : α → β → Prop} {a : α} {b : β} : ∀ {l : List α} {m : List β}, Paired F l m → F a b → Paired F (l ++ [a]) (m ++ [b])
  | _, _, .nil, h => .cons h .nil
  | _, _, .cons g t, h => .cons g (prd_snoc t h)
theorem map_int_inj {x y : List Int} (h : x.map V.int = y.map V.int) : x = y := by
  induction x generalizing y with
  | nil => cases y with
    | nil => rfl
    | cons => cases h
  | cons a x ih => cases y with
    | nil => cases h
    | cons b y =>
      rw [List.map_cons, List.map_cons, List.cons.injEq] at h
      obtain ⟨h1, h2⟩ := h
      cases h1
      rw [ih h2]
theorem addrs_of {H0 F : Hp} : ∀ {us : List V} {xs : List (List Int)}, NRs H0 F us xs → ∃ as : List Addr, us = as.map V.ref ∧ Paired (fun a (x : List Int) => F a = some (.lst (x.map V.int)) ∧ H0 a = none) as xs
  | _, [], r => by cases r; exact ⟨[], rfl, .nil⟩
  | _, x :: xs, r => by
    cases r with
    | cons h r =>
      obtain ⟨as, rfl, p⟩ := addrs_of (xs := xs) r
      obtain ⟨a, ws, rfl, fa, fr, n⟩ := NR_lst_of h
      exact ⟨a :: as, rfl, .cons ⟨by rw [fa, Rs_int (NRs_rs fr)], n⟩ p⟩
theorem nodup_prd {F : Hp} {H0 : Hp} : ∀ {as : List Addr} {xs : List (List Int)}, Paired (fun a (x : List Int) => F a = some (.lst (x.map V.int)) ∧ H0 a = none) as xs → xs.Nodup → as.Nodup
  | _, _, .nil, _ => List.nodup_nil
  | _, _, .cons h t, nd => by
    have nd' := List.nodup_cons.mp nd
    refine List.nodup_cons.mpr ⟨fun hm => ?_, nodup_prd t nd'.2⟩
    obtain ⟨y, hy, e, _⟩ := prd_left t hm
    rw [h.1] at e
    have e2 := HO.lst.inj (Option.some.inj e)
    rw [map_int_inj e2] at nd'
    exact nd'.1 hy
section
variable {A B : Addr → Prop} {F0 H0 F H N H' : Hp} {p q dk : Addr} {as : List Addr} {us ws : List V} {xs : List (List Int)} {x y : List Int} {st st2 : DkS} {o : HO}
theorem OwL.of (G : Gr A F0 H0 F H) (g : Gr B F H N H') (r : NR H N (.ref p) xs) (nd : xs.Nodup) : ∃ as, OwL H0 F H' p as xs ∧ ∀ a ∈ p :: as, H a = none := by
  obtain ⟨p', us, e, fa, fr, np⟩ := NR_lst_of r
  cases e
  obtain ⟨as, rfl, pr⟩ := addrs_of fr
  have fz : ∀ a ∈ p :: as, H a = none := fun a ha => by
    rcases List.mem_cons.mp ha with e | e
    · rw [e]; exact np
    · obtain ⟨_, _, _, n⟩ := prd_left pr e
      exact n
  refine ⟨as, ⟨g.sub _ _ fa, paired_mono pr fun a x _ h => g.sub _ _ h.1, List.nodup_cons.mpr ⟨fun hm => ?_, nodup_prd pr nd⟩, fun a ha => G.sub.none (fz a ha), fun a ha => G.fresh (fz a ha)⟩, fz⟩
  obtain ⟨x, _, e, _⟩ := prd_left pr hm
  rw [fa] at e
  have e2 := HO.lst.inj (Option.some.inj e)
  cases as with
  | nil => exact absurd hm List.not_mem_nil
  | cons b as =>
    cases x with
    | nil => cases e2
    | cons i x => cases (List.cons.inj e2).1
theorem OwL.mem (w : OwL H0 F H p as xs) {a : Addr} (h : a ∈ as) : ∃ x : List Int, H a = some (.lst (x.map V.int)) := by
  obtain ⟨x, _, e⟩ := prd_left w.it h
  exact ⟨x, e⟩
theorem OwL.some_ (w : OwL H0 F H p as xs) : ∀ a ∈ p :: as, H a ≠ none := fun a ha => by
  rcases List.mem_cons.mp ha with e | e
  · rw [e, w.at_]; exact (fun z => nomatch z)
  · obtain ⟨x, e⟩ := w.mem e
    rw [e]; exact (fun z => nomatch z)
theorem OwL.len (w : OwL H0 F H p as xs) : as.length = xs.length := prd_len w.it
theorem OwL.keep (w : OwL H0 F H p as xs) (k : ∀ a o, a ∈ p :: as → H a = some o → H' a = some o) (nf : ∀ a ∈ p :: as, N a = none) : OwL H0 N H' p as xs :=
  ⟨k _ _ List.mem_cons_self w.at_, paired_mono w.it fun a x ha h => k _ _ (List.mem_cons_of_mem _ ha) h, w.nd, nf, w.n0⟩
theorem OwL.step (w : OwL H0 F H p as xs) (g : Gr NA F H N H') : OwL H0 N H' p as xs := w.keep (fun a o _ h => g.keep a o id h) fun a ha => g.own a (w.some_ a ha) (w.nf a ha)
theorem OwL.stepA (w : OwL H0 F H p as xs) (g : Gr A F H N H') (h : ∀ a ∈ p :: as, ¬ A a) : OwL H0 N H' p as xs := w.keep (fun a o ha e => g.keep a o (h a ha) e) fun a ha => g.own a (w.some_ a ha) (w.nf a ha)
theorem OwL.other (w : OwL H0 F H p as xs) (h : q ∉ p :: as) : OwL H0 F (upd H q (.lst ws)) p as xs := w.keep (fun a o ha e => by rw [upd_ne (show a ≠ q from fun z => h (by rw [← z]; exact ha))]; exact e) w.nf
theorem OwL.frzo (w : OwL H0 F H p as xs) (h : q ∉ p :: as) (x : Ow H0 F H q ws) : OwL H0 (upd F q (.lst ws)) H p as xs := w.keep (fun _ _ _ e => e) fun a ha => by rw [upd_ne (show a ≠ q from fun z => h (by rw [← z]; exact ha))]; exact w.nf a ha
theorem OwL.ne_new (w : OwL H0 F H p as xs) (hq : H q = none) : q ∉ p :: as := fun h => w.some_ q h hq
theorem Gr.subN (g : Gr NA F H N H') : Sub H H' := fun a o e => g.keep a o id e
theorem OwL.ne_push {r : Addr} (h : r ∉ p :: as) (k : r ≠ q) : r ∉ p :: (as ++ [q]) := fun hm => by
  rcases List.mem_cons.mp hm with e | e
  · exact h (by rw [e]; exact List.mem_cons_self)
  · rcases List.mem_append.mp e with e | e
    · exact h (List.mem_cons_of_mem _ e)
    · exact k (List.mem_singleton.mp e)
theorem Ow.ne_fz {l : List Addr} (w : Ow H0 F H q us) (fz : ∀ a ∈ l, H a = none) : q ∉ l := fun h => by have := fz q h; rw [w.at_] at this; cases this
theorem OwP.ne_l {hd : Addr} (w : OwP A H0 F H hd us) (x : OwL H0 N H' p as xs) : hd ∉ p :: as := fun h => w.n0 (x.n0 hd h)
theorem DkAt.outL (d : DkAt A H0 F H dk st) (w : OwL H0 F H p as xs) : ∀ a ∈ p :: as, ¬ A a := fun a ha h => d.n0 a h (w.n0 a ha)
theorem OwL.read (w : OwL H0 F H p as xs) : Rs H (as.map V.ref) xs := by
  have : ∀ {as : List Addr} {xs : List (List Int)}, Paired (fun a (x : List Int) => H a = some (.lst (x.map V.int))) as xs → Rs H (as.map V.ref) xs := by
    intro as xs pr
    induction pr with
    | nil => exact .nil
    | cons h _ ih => exact .cons (mk_lst h (int_Rs _)) ih
  exact this w.it
theorem OwL.rd (w : OwL H0 F H p as xs) : R H (.ref p) xs := mk_lst w.at_ w.read
theorem OwL.item (w : OwL H0 F H p as xs) {j : Nat} {a : Addr} (ha : as[j]? = some a) (hx : xs[j]? = some x) : H a = some (.lst (x.map V.int)) := by
  obtain ⟨b, e, h⟩ := prd_get w.it hx
  rw [ha] at e; cases e; exact h
theorem OwL.ix (w : OwL H0 F H p as xs) {i : Int} (h : atI xs i = some x) : ∃ (j : Nat) (a : Addr), ixN xs.length i = some j ∧ xs[j]? = some x ∧ as[j]? = some a ∧ atI (as.map V.ref) i = some (.ref a) := by
  unfold atI at h
  cases e : ixN xs.length i with
  | none => rw [e] at h; cases h
  | some j =>
    rw [e] at h
    have h' : xs[j]? = some x := h
    obtain ⟨a, e2, _⟩ := prd_get w.it h'
    refine ⟨j, a, rfl, h', e2, ?_⟩
    unfold atI
    rw [List.length_map, w.len, e]
    show (as.map V.ref)[j]? = _
    rw [List.getElem?_map, e2]; rfl
theorem OwL.ix2 (w : OwL H0 F H p as xs) {i : Int} (h : atI xs i = some x) : ∃ a : Addr, xs[(ixN xs.length i).getD 0]? = some x ∧ as[(ixN xs.length i).getD 0]? = some a ∧ atI (as.map V.ref) i = some (.ref a) := by
  obtain ⟨j, a, e, h1, h2, h3⟩ := w.ix h
  exact ⟨a, by rw [e]; exact h1, by rw [e]; exact h2, h3⟩
theorem OwL.set_get (w : OwL H0 F H p as xs) {j : Nat} {a : Addr} (ha : as[j]? = some a) : (xs.set j y)[j]? = some y := by
  have h := (List.getElem?_eq_some_iff.mp ha).1
  rw [w.len] at h
  rw [List.getElem?_set_self h]
theorem OwL.cut {lo hi : Option Int} (w : OwL H0 F (upd H q (.lst (cutV (as.map V.ref) lo hi))) p as xs) : R (upd H q (.lst (cutV (as.map V.ref) lo hi))) (.ref q) (cutT xs lo hi) := mk_lst upd_same (Rs_cut w.read)
theorem OwL.memA {j : Nat} {a : Addr} (ha : as[j]? = some a) : a ∈ p :: as := List.mem_cons_of_mem _ (List.mem_of_getElem? ha)
theorem OwL.put (w : OwL H0 F H p as xs) {j : Nat} {a : Addr} (ha : as[j]? = some a) (hu : us = y.map V.int) : OwL H0 F (upd H a (.lst us)) p as (xs.set j y) := by
  subst hu
  have nd := List.nodup_cons.mp w.nd
  have hm := List.mem_of_getElem? ha
  refine ⟨by rw [upd_ne (show p ≠ a from fun z => nd.1 (by rw [z]; exact hm))]; exact w.at_, prd_set w.it ha nd.2 (fun a' b' _ ne h => by rw [upd_ne ne]; exact h) upd_same, w.nd, w.nf, w.n0⟩
theorem OwL.mutG (w : OwL H0 F H p as xs) {a : Addr} (ha : a ∈ p :: as) (G : Gr A F0 H0 F H) : Gr A F0 H0 F (upd H a o) := G.mut (w.n0 a ha) (w.nf a ha)
theorem OwL.ne_it {a : Addr} (h : q ∉ p :: as) (ha : a ∈ p :: as) : a ≠ q := fun z => h (by rw [← z]; exact ha)
theorem OwL.push (w : OwL H0 F H p as xs) (x : Ow H0 F H q us) (h : q ∉ p :: as) (r : Rs N us y) : OwL H0 F (upd H p (.lst (as.map V.ref ++ [.ref q]))) p (as ++ [q]) (xs ++ [y]) := by
  have nd := List.nodup_cons.mp w.nd
  have hq := x.at_
  rw [Rs_int r] at hq
  have mm : ∀ a, a ∈ p :: (as ++ [q]) → a ∈ p :: as ∨ a = q := fun a ha => by
    rcases List.mem_cons.mp ha with e | e
    · exact .inl (by rw [e]; exact List.mem_cons_self)
    · rcases List.mem_append.mp e with e | e
      · exact .inl (List.mem_cons_of_mem _ e)
      · exact .inr (List.mem_singleton.mp e)
  have hpq : q ≠ p := fun z => h (by rw [z]; exact List.mem_cons_self)
  have hqa : q ∉ as := fun z => h (List.mem_cons_of_mem _ z)
  refine ⟨by rw [upd_same, List.map_append]; rfl, prd_snoc (paired_mono w.it fun a b ha e => by rw [upd_ne (show a ≠ p from fun z => nd.1 (by rw [← z]; exact ha))]; exact e) (by rw [upd_ne hpq]; exact hq), ?_, fun a ha => (mm a ha).elim (w.nf a) fun e => by rw [e]; exact x.nf, fun a ha => (mm a ha).elim (w.n0 a) fun e => by rw [e]; exact x.n0⟩
  refine List.nodup_cons.mpr ⟨fun hm => ?_, List.nodup_append.mpr ⟨nd.2, by simp, fun a ha b hb e => hqa (by rw [← List.mem_singleton.mp hb, ← e]; exact ha)⟩⟩
  rcases List.mem_append.mp hm with e | e
  · exact nd.1 e
  · exact hpq (List.mem_singleton.mp e).symm
theorem OwL.clear (w : OwL H0 F H p as xs) : OwL H0 F (upd H p (.lst [])) p [] [] :=
  ⟨upd_same, .nil, by simp, fun a ha => w.nf a (by rw [List.mem_singleton.mp ha]; exact List.mem_cons_self), fun a ha => w.n0 a (by rw [List.mem_singleton.mp ha]; exact List.mem_cons_self)⟩
theorem DkAt.mutL (d : DkAt A H0 F H dk st) (w : OwL H0 F H p as xs) {a : Addr} (ha : a ∈ p :: as) : DkAt A H0 F (upd H a (.lst ws)) dk st :=
  ⟨d.at_.keep fun b o h e => by rw [upd_ne (show b ≠ a from fun z => d.outL w a ha (by rw [← z]; exact h))]; exact e, d.nf, d.n0⟩
end
section
variable {K : PySem.W.Frag} {g : TG} {tb : TS} {D : Ends} {σ : L2.St} {H : Hp}
theorem range_get {n j : Nat} (h : j < n) : (List.range n)[j]? = some j := by simp [h]
theorem for_ll {a : Addr} {as : List Addr} (W : List Nat → L2.St → Hp → Prop) (h0 : W (List.range as.length) σ H) (hf : ∀ ts σ H, W ts σ H → H a = some (.lst (as.map V.ref)))
    (hs : ∀ j ts b σ H, as[j]? = some b → W (j :: ts) σ H → g (.ref b) σ H fun σ2 H2 => tb { D with nx := W ts, ct := W ts, bk := D.nx } σ2 H2) (hd : ∀ σ H, W [] σ H → D.nx σ H) :
    ∃ W : Nat → Nat → L2.St → Hp → Prop, (∃ m, W 0 m σ H) ∧ ∀ i m σ H, W i m σ H →
      ((Itl K a).stop i H ∧ D.nx σ H) ∨ ((Itl K a).go i H ∧ ∃ N : L2.St → Hp → Prop, (∀ σ' H', N σ' H' → ∃ m', m' < m ∧ W (i + 1) m' σ' H') ∧ ∀ x H', (Itl K a).yld i H x H' → g x σ H' fun σ2 H2 => tb { D with nx := N, ct := N, bk := D.nx } σ2 H2) := by
  refine for_list (xs := as.map V.ref) (fun i σ H => W ((List.range as.length).drop i) σ H) (by rw [List.drop_zero]; exact h0) (fun i σ H _ h => .inl (.inl (hf _ σ H h))) (fun i v σ H e h => ?_) fun σ H h => ?_
  · rw [List.getElem?_map] at e
    cases e2 : as[i]? with
    | none => rw [e2] at e; cases e
    | some b =>
      rw [e2] at e
      cases e
      have hi := (List.getElem?_eq_some_iff.mp e2).1
      have h' : W ((List.range as.length).drop i) σ H := h
      rw [drop_cons (range_get hi)] at h'
      exact hs i _ b σ H e2 h'
  · have h' : W ((List.range as.length).drop (as.map V.ref).length) σ H := h
    rw [List.length_map, List.drop_of_length_le (by rw [List.length_range]; exact Nat.le_refl _)] at h'
    exact hd σ H h'
variable {tt : TT} {te : TE} {vs : List Nat} {H1 : Hp} {Dl : Addr} {Qd : Hp → Prop}
theorem lc_ll {a : Addr} {as : List Addr} (W : List Nat → Hp → Prop) (h0 : W (List.range as.length) (upd H1 Dl (.lst []))) (hf : ∀ ts H, W ts H → H a = some (.lst (as.map V.ref)))
    (hs : ∀ j ts b H, as[j]? = some b → W (j :: ts) H → g (.ref b) (wipe σ vs) H fun σ2 H2 => wipe σ2 vs = wipe σ vs ∧ tt σ2 H2 fun b H3 =>
        if b = true then te σ2 H3 fun y H4 => ∃ acc, H4 Dl = some (HO.lst acc) ∧ acc.length < sizeLine ∧ W ts (upd H4 Dl (HO.lst (acc ++ [y]))) else W ts H3) (hd : ∀ H, W [] H → Qd H) :
    ∃ W : Nat → Nat → Hp → Prop, (∃ m, W 0 m (upd H1 Dl (HO.lst []))) ∧ ∀ (i m : Nat) (H : Hp), W i m H → (Itl K a).stop i H ∧ Qd H ∨
      (Itl K a).go i H ∧ ∃ Nx : Hp → Prop, (∀ (H' : Hp), Nx H' → ∃ m', m' < m ∧ W (i + 1) m' H') ∧ ∀ (x : V) (H' : Hp), (Itl K a).yld i H x H' →
        g x (wipe σ vs) H' fun σ2 H2 => wipe σ2 vs = wipe σ vs ∧ tt σ2 H2 fun b H3 => if b = true then te σ2 H3 fun y H4 => ∃ acc, H4 Dl = some (HO.lst acc) ∧ acc.length < sizeLine ∧ Nx (upd H4 Dl (HO.lst (acc ++ [y]))) else Nx H3 := by
  refine lc_list (xs := as.map V.ref) (fun i H => W ((List.range as.length).drop i) H) (by rw [List.drop_zero]; exact h0) (fun i H _ h => .inl (.inl (hf _ H h))) (fun i v H e h => ?_) fun H h => ?_
  · rw [List.getElem?_map] at e
    cases e2 : as[i]? with
    | none => rw [e2] at e; cases e
    | some b =>
      rw [e2] at e
      cases e
      have hi := (List.getElem?_eq_some_iff.mp e2).1
      have h' : W ((List.range as.length).drop i) H := h
      rw [drop_cons (range_get hi)] at h'
      exact hs i _ b H e2 h'
  · have h' : W ((List.range as.length).drop (as.map V.ref).length) H := h
    rw [List.length_map, List.drop_of_length_le (by rw [List.length_range]; exact Nat.le_refl _)] at h'
    exact hd H h'
end

/-! #### the frozen part by a name -/
section
variable {A : Addr → Prop} {F0 H0 F F' H : Hp} {p q dk : Addr} {o : HO} {us ws : List V} {as : List Addr} {xs : List (List Int)}
theorem Gr.newE (s : Sub F H) (hp : H p = none) : ∃ F', Gr NA F H F' (upd H p o) ∧ F' p = some o := ⟨_, Gr.new s hp, upd_same⟩
theorem Ow.frzE (w : Ow H0 F H p us) (G : Gr A F0 H0 F H) : ∃ F', Gr A F0 H0 F' H ∧ Sub F F' ∧ F' p = some (.lst us) ∧ ∀ q, q ≠ p → F q = none → F' q = none := ⟨_, w.frz G, w.ex, upd_same, fun q h e => by rw [upd_ne h]; exact e⟩
theorem Ow.frzN (w : Ow H0 F H q us) (h : q ≠ p) (nf : ∀ q, q ≠ p → F q = none → F' q = none) : Ow H0 F' H q us := ⟨w.at_, nf _ h w.nf, w.n0⟩
theorem OwP.frzN (w : OwP A H0 F H q us) (x : Ow H0 F H p ws) (nf : ∀ q, q ≠ p → F q = none → F' q = none) : OwP A H0 F' H q us := ⟨w.at_, nf _ (w.ne x) w.nf, w.n0, w.na⟩
theorem OwL.frzN (w : OwL H0 F H q as xs) (h : p ∉ q :: as) (nf : ∀ q, q ≠ p → F q = none → F' q = none) : OwL H0 F' H q as xs :=
  ⟨w.at_, w.it, w.nd, fun a ha => nf a (fun z => h (by rw [← z]; exact ha)) (w.nf a ha), w.n0⟩
theorem DkAt.frzN {st : DkS} (d : DkAt A H0 F H dk st) (w : Ow H0 F H p us) (_ : Sub F F') (nf : ∀ q, q ≠ p → F q = none → F' q = none) : DkAt A H0 F' H dk st :=
  ⟨d.at_, fun a h => nf a (fun z => d.out w (by rw [← z]; exact h)) (d.nf a h), d.n0⟩
theorem HdAt.frzN {st : HdS} (d : HdAt A H0 F H dk st) (w : Ow H0 F H p us) (ex : Sub F F') (nf : ∀ q, q ≠ p → F q = none → F' q = none) : HdAt A H0 F' H dk st := by
  obtain ⟨vs, e, r⟩ := d.at_
  exact ⟨⟨vs, e, Rs_mono ex r⟩, nf _ (d.out w).symm d.nf, d.n0, d.ia⟩
end

/-! #### slots written out -/
theorem x_gnE {i : Nat} {v : V} {σ σ' : L2.St} {H : Hp} {QS : L2.St → Hp → Prop} (e : σ.set i (some v) = σ') (h : QS σ' H) : gName i v σ H QS := by
  show QS (σ.set i (some v)) H
  rw [e]; exact h
theorem x_start {t : TS} {D : Ends} {σ σ' : L2.St} {H : Hp} (e : σ = σ') (h : t D σ' H) : t D σ H := by rw [e]; exact h
theorem x_parE {i j : Nat} {tA : TA} {D : Ends} {σ : L2.St} {H : Hp} (h : tA σ H fun vs H1 => ∃ v w σ', vs = [v, w] ∧ (σ.set i (some v)).set j (some w) = σ' ∧ D.nx σ' H1) : tPar i j tA D σ H := by
  have e : (fun (vs : List V) (H1 : Hp) => ∃ v w σ', vs = [v, w] ∧ (σ.set i (some v)).set j (some w) = σ' ∧ D.nx σ' H1) = fun vs H1 => ∃ v w, vs = [v, w] ∧ D.nx ((σ.set i (some v)).set j (some w)) H1 :=
    funext fun vs => funext fun H1 => propext ⟨fun ⟨v, w, σ', a, b, c⟩ => ⟨v, w, a, by rw [b]; exact c⟩, fun ⟨v, w, a, c⟩ => ⟨v, w, _, a, rfl, c⟩⟩
  rw [e] at h
  exact h
theorem x_augE {i : Nat} {te : TE} {ti : TIp} {D : Ends} {σ : L2.St} {H : Hp} (h : ∃ x, σ[i]? = some (some x) ∧ te σ H fun y H1 => ti x y H1 fun z H2 => ∃ σ', σ.set i (some z) = σ' ∧ D.nx σ' H2) : tAug i te ti D σ H := by
  have e : (fun (z : V) (H2 : Hp) => ∃ σ', σ.set i (some z) = σ' ∧ D.nx σ' H2) = fun z H2 => D.nx (σ.set i (some z)) H2 :=
    funext fun z => funext fun H2 => propext ⟨fun ⟨σ', a, b⟩ => by rw [a]; exact b, fun b => ⟨_, rfl, b⟩⟩
  rw [e] at h
  exact h
end My

namespace My
open PySem PySem.Spec PyProof.Rows L2
/-! ### data of any kind -/
def isTupD : PyData → Bool | .tuple _ => true | _ => false
def isLstD : PyData → Bool | .list _ => true | _ => false
def isIntD : PyData → Bool | .int _ => true | .bool _ => true | _ => false
def isBlD : PyData → Bool | .bool _ => true | _ => false
def isStrD : PyData → Bool | .str _ => true | _ => false
def isNonD : PyData → Bool | .none => true | _ => false
def asInt : PyData → Option Int | .int i => some i | _ => none
def asBl : PyData → Option Bool | .bool i => some i | _ => none
def asStr : PyData → Option Str | .str i => some i | _ => none
def asLst : PyData → Option (List PyData) | .list xs => some xs | _ => none
def asSeq : PyData → Option (List PyData) | .list xs => some xs | .tuple xs => some xs | _ => none
def asPair : PyData → Option (PyData × PyData) | .tuple [a, b] => some (a, b) | _ => none
section
variable {K : PySem.W.Frag} {F H : Hp} {v : V} {d : PyData}
theorem asInt_of {i : Int} (h : RD F v d) (e : asInt d = some i) : v = .int i := by
  cases h <;> first | (cases e; rfl) | exact nomatch e
theorem asBl_of {i : Bool} (h : RD F v d) (e : asBl d = some i) : v = .bl i := by
  cases h <;> first | (cases e; rfl) | exact nomatch e
theorem asStr_of {i : Str} (h : RD F v d) (e : asStr d = some i) : v = .str i := by
  cases h <;> first | (cases e; rfl) | exact nomatch e
theorem any_id (xs : List PyData) : xs.map TD.d = xs := List.map_id' xs
theorem R_anyL {xs : List PyData} (h : R F v xs) : R (α := PyData) F v (PyData.list xs) := by
  have h' : RD F v (.list (xs.map TD.d)) := h
  rw [any_id] at h'
  exact h'
theorem asLst_of {xs : List PyData} (h : RD F v d) (e : asLst d = some xs) : R F v xs := by
  cases h with
  | lst h r => cases e; exact .lst h (by rw [any_id]; exact r)
  | _ => exact nomatch e
theorem asPair_of {p : PyData × PyData} (h : RD F v d) (e : asPair d = some p) : R F v p := by
  cases h with
  | tup h r =>
    cases r with
    | nil => exact nomatch e
    | cons h1 r =>
      cases r with
      | nil => exact nomatch e
      | cons h2 r =>
        cases r with
        | nil => cases e; exact .tup h (.cons h1 (.cons h2 .nil))
        | cons => exact nomatch e
  | _ => exact nomatch e
/-- a list or a tuple, read -/
theorem asSeq_of {xs : List PyData} (s : Sub F H) (h : RD F v d) (e : asSeq d = some xs) : ∃ a us, v = .ref a ∧ (SqL K H a us ∨ SqT K H a us) ∧ us.length = xs.length ∧ RDs F us xs := by
  cases h with
  | lst h r => cases e; exact ⟨_, _, rfl, .inl (.inl (.inl (s _ _ h))), r.len, r⟩
  | tup h r => cases e; exact ⟨_, _, rfl, .inr (.inl (.inl (s _ _ h))), r.len, r⟩
  | _ => exact nomatch e
theorem ixD {xs : List PyData} {i : Int} {x : PyData} (s : Sub F H) (h : RD F v d) (e : asSeq d = some xs) (hx : atI xs i = some x) : ∃ u, RD F u x ∧ ∀ Q : VK, Q u H → rIx K v (.int i) H Q := by
  obtain ⟨a, us, rfl, hq, hl, r⟩ := asSeq_of (K := K) s h e
  have r' : Rs F us xs := by unfold Rs; rw [any_id]; exact r
  obtain ⟨u, hu, hr⟩ := Rs_at r' hx
  refine ⟨u, hr, fun Q q => ?_⟩
  rcases hq with hq | hq
  · exact .inl ⟨_, _, _, _, rfl, rfl, hq, hu, q⟩
  · exact .inr (.inl ⟨_, _, _, _, rfl, rfl, hq, hu, q⟩)
theorem lenD {xs : List PyData} (s : Sub F H) (h : RD F v d) (e : asSeq d = some xs) (Q : VK) (q : Q (.int (xs.length : Int)) H) : rLenT K [v] H Q := by
  obtain ⟨a, us, rfl, hq, hl, r⟩ := asSeq_of (K := K) s h e
  exact ⟨_, _, rfl, hq, by rw [hl]; exact q⟩
theorem isi_of {T : String} {f : PyData → Bool} (s : Sub F H) (h : RD F v d)
    (k : kitB "NoneType" T = some (f .none) ∧ (∀ b, kitB "bool" T = some (f (.bool b))) ∧ (∀ i, kitB "int" T = some (f (.int i))) ∧ (∀ x, kitB "str" T = some (f (.str x))) ∧ (∀ x, kitB "list" T = some (f (.list x))) ∧ (∀ x, kitB "tuple" T = some (f (.tuple x))) ∧ ∀ x, kitB "dict" T = some (f (.dict x)))
    (Q : VK) (q : Q (.bl (f d)) H) : rIsi K [v, .ty T] H Q := by
  obtain ⟨k1, k2, k3, k4, k5, k6, k7⟩ := k
  cases h with
  | non => exact ⟨_, _, _, _, _, rfl, ClsV.ty _, TyX.base .non, kit_ty k1, q⟩
  | bl b => exact ⟨_, _, _, _, _, rfl, ClsV.ty _, TyX.base (.bl b), kit_ty (k2 b), q⟩
  | int i => exact ⟨_, _, _, _, _, rfl, ClsV.ty _, TyX.base (.int i), kit_ty (k3 i), q⟩
  | str x => exact ⟨_, _, _, _, _, rfl, ClsV.ty _, TyX.base (.str x), kit_ty (k4 x), q⟩
  | lst h r => exact ⟨_, _, _, _, _, rfl, ClsV.ty _, TyX.base (.lst (s _ _ h)), kit_ty (k5 _), q⟩
  | tup h r => exact ⟨_, _, _, _, _, rfl, ClsV.ty _, TyX.base (.tup (s _ _ h)), kit_ty (k6 _), q⟩
  | dic h r => exact ⟨_, _, _, _, _, rfl, ClsV.ty _, TyX.base (.dK (s _ _ h)), kit_ty (k7 _), q⟩
theorem isi_tuple (s : Sub F H) (h : RD F v d) (Q : VK) (q : Q (.bl (isTupD d)) H) : rIsi K [v, .ty "tuple"] H Q := isi_of s h ⟨(by show kitB "NoneType" "tuple" = some false; decide +kernel), fun _ => (by show kitB "bool" "tuple" = some false; decide +kernel), fun _ => (by show kitB "int" "tuple" = some false; decide +kernel), fun _ => (by show kitB "str" "tuple" = some false; decide +kernel), fun _ => (by show kitB "list" "tuple" = some false; decide +kernel), fun _ => (by show kitB "tuple" "tuple" = some true; decide +kernel), fun _ => (by show kitB "dict" "tuple" = some false; decide +kernel)⟩ Q q
theorem isi_list (s : Sub F H) (h : RD F v d) (Q : VK) (q : Q (.bl (isLstD d)) H) : rIsi K [v, .ty "list"] H Q := isi_of s h ⟨(by show kitB "NoneType" "list" = some false; decide +kernel), fun _ => (by show kitB "bool" "list" = some false; decide +kernel), fun _ => (by show kitB "int" "list" = some false; decide +kernel), fun _ => (by show kitB "str" "list" = some false; decide +kernel), fun _ => (by show kitB "list" "list" = some true; decide +kernel), fun _ => (by show kitB "tuple" "list" = some false; decide +kernel), fun _ => (by show kitB "dict" "list" = some false; decide +kernel)⟩ Q q
theorem isi_int (s : Sub F H) (h : RD F v d) (Q : VK) (q : Q (.bl (isIntD d)) H) : rIsi K [v, .ty "int"] H Q := isi_of s h ⟨(by show kitB "NoneType" "int" = some false; decide +kernel), fun _ => (by show kitB "bool" "int" = some true; decide +kernel), fun _ => (by show kitB "int" "int" = some true; decide +kernel), fun _ => (by show kitB "str" "int" = some false; decide +kernel), fun _ => (by show kitB "list" "int" = some false; decide +kernel), fun _ => (by show kitB "tuple" "int" = some false; decide +kernel), fun _ => (by show kitB "dict" "int" = some false; decide +kernel)⟩ Q q
theorem isi_bool (s : Sub F H) (h : RD F v d) (Q : VK) (q : Q (.bl (isBlD d)) H) : rIsi K [v, .ty "bool"] H Q := isi_of s h ⟨(by show kitB "NoneType" "bool" = some false; decide +kernel), fun _ => (by show kitB "bool" "bool" = some true; decide +kernel), fun _ => (by show kitB "int" "bool" = some false; decide +kernel), fun _ => (by show kitB "str" "bool" = some false; decide +kernel), fun _ => (by show kitB "list" "bool" = some false; decide +kernel), fun _ => (by show kitB "tuple" "bool" = some false; decide +kernel), fun _ => (by show kitB "dict" "bool" = some false; decide +kernel)⟩ Q q
theorem isi_str (s : Sub F H) (h : RD F v d) (Q : VK) (q : Q (.bl (isStrD d)) H) : rIsi K [v, .ty "str"] H Q := isi_of s h ⟨(by show kitB "NoneType" "str" = some false; decide +kernel), fun _ => (by show kitB "bool" "str" = some false; decide +kernel), fun _ => (by show kitB "int" "str" = some false; decide +kernel), fun _ => (by show kitB "str" "str" = some true; decide +kernel), fun _ => (by show kitB "list" "str" = some false; decide +kernel), fun _ => (by show kitB "tuple" "str" = some false; decide +kernel), fun _ => (by show kitB "dict" "str" = some false; decide +kernel)⟩ Q q
theorem isN_D (h : RD F v d) : decide (v = .non) = isNonD d := by cases h <;> first | rfl | exact decide_eq_false (fun z => nomatch z)
theorem Rs_any {α : Type} [TD α] {us : List V} {xs : List α} (r : Rs F us xs) : Rs (α := PyData) F us (xs.map TD.d) := by
  unfold Rs; rw [any_id]; exact r
theorem Rs_anyL {us : List V} {xs : List (List PyData)} (r : Rs F us xs) : Rs (α := PyData) F us (xs.map fun z => PyData.list z) := by
  have e : (TD.d : List PyData → PyData) = fun z => PyData.list z := funext fun z => congrArg PyData.list (any_id z)
  have h : RDs F us (xs.map TD.d) := r
  rw [e] at h
  unfold Rs; rw [any_id]; exact h
theorem str_of {x : Str} (h : R F v x) : v = .str x := by cases h; rfl
end
/-- data that the order of Python is sure of -/
def LtOk (a b : PyData) : Prop := (PySem.W.alike a b && !isNonD a && a.canLay0 && b.canLay0 && decide (a.depth ≤ 64)) = true
instance (a b : PyData) : Decidable (LtOk a b) := inferInstanceAs (Decidable (_ = true))
def EqOk (a b : PyData) : Prop := (SeqAt.shaped a && SeqAt.shaped b) = true
instance (a b : PyData) : Decidable (EqOk a b) := inferInstanceAs (Decidable (_ = true))
def rCmpD (f : PyData → PyData → Bool) : R2 := fun x y H Q => ∃ (F : Hp) (a b : PyData), Sub F H ∧ RD F x a ∧ RD F y b ∧ LtOk a b ∧ Q (.bl (f a b)) H
def rEqD' (f : Bool → Bool) : R2 := fun x y H Q => ∃ (F : Hp) (a b : PyData), Sub F H ∧ RD F x a ∧ RD F y b ∧ EqOk a b ∧ Q (.bl (f (PyData.eqv a b))) H
section
variable {X : Cx}
theorem LtOk.parts {a b : PyData} (h : LtOk a b) : PySem.W.alike a b = true ∧ a ≠ .none ∧ a.canLay0 = true ∧ b.canLay0 = true ∧ a.depth ≤ 64 := by
  unfold LtOk at h
  simp only [Bool.and_eq_true, decide_eq_true_eq, Bool.not_eq_true'] at h
  exact ⟨h.1.1.1.1, (fun e => by rw [e] at h; exact nomatch h.1.1.1.2), h.1.1.2, h.1.2, h.2⟩
theorem op_geA (hu : X.A.units + 64 < cLine) : OpR X (compareOp .GtE) (rCmpD fun a b => !PySem.W.dataLt a b) := by
  intro pins s σ H x y v u Q I rx ry h
  obtain ⟨F, a, b, sb, ha, hb, k, q⟩ := h
  obtain ⟨k1, k2, k3, k4, k5⟩ := k.parts
  obtain ⟨as, r1⟩ := Dp.reads I _ x v (ha.dpL (K := X.K) sb k3) rx
  obtain ⟨bs, r2⟩ := Dp.reads I _ y u (hb.dpL (K := X.K) sb k4) ry
  exact PySem.W.ge_data r1 r2 k1 k2 (by omega) ⟨.bl _, H, I, rfl, q⟩
theorem op_ltA (hu : X.A.units + 64 < cLine) : OpR X (compareOp .Lt) (rCmpD fun a b => PySem.W.dataLt a b) := by
  intro pins s σ H x y v u Q I rx ry h
  obtain ⟨F, a, b, sb, ha, hb, k, q⟩ := h
  obtain ⟨k1, k2, k3, k4, k5⟩ := k.parts
  obtain ⟨as, r1⟩ := Dp.reads I _ x v (ha.dpL (K := X.K) sb k3) rx
  obtain ⟨bs, r2⟩ := Dp.reads I _ y u (hb.dpL (K := X.K) sb k4) ry
  exact PySem.W.lt_data r1 r2 k1 k2 (by omega) ⟨.bl _, H, I, rfl, q⟩
theorem op_eqA (hu : X.A.units + 64 < cLine) : OpR X (compareOp .Eq) (rEqD' id) := by
  intro pins s σ H x y v u Q I rx ry h
  obtain ⟨F, a, b, sb, ha, hb, k, q⟩ := h
  unfold EqOk at k
  rw [Bool.and_eq_true] at k
  exact op_eqD hu pins s σ H x y v u Q I rx ry ⟨_, _, ha.dpL sb (SeqAt.canLay_of_shaped k.1), hb.dpL sb (SeqAt.canLay_of_shaped k.2), k.1, k.2, q⟩
theorem op_neA (hu : X.A.units + 64 < cLine) : OpR X (compareOp .NotEq) (rEqD' not) := by
  intro pins s σ H x y v u Q I rx ry h
  obtain ⟨F, a, b, sb, ha, hb, k, q⟩ := h
  unfold EqOk at k
  rw [Bool.and_eq_true] at k
  exact op_neD hu pins s σ H x y v u Q I rx ry ⟨_, _, ha.dpL sb (SeqAt.canLay_of_shaped k.1), hb.dpL sb (SeqAt.canLay_of_shaped k.2), k.1, k.2, q⟩
/-- texts -/
def rEqS (f : Bool → Bool) : R2 := fun x y H Q => ∃ a b : Str, x = .str a ∧ y = .str b ∧ Q (.bl (f (decide (a = b)))) H
theorem dec_strV {a b : Str} : decide (V.str a = V.str b) = decide (a = b) := by
  rw [Bool.eq_iff_iff, decide_eq_true_iff, decide_eq_true_iff]
  exact ⟨fun h => V.str.inj h, fun h => by rw [h]⟩
theorem op_eqS : OpR X (compareOp .Eq) (rEqS id) := by
  intro pins s σ H x y v u Q I rx ry h
  obtain ⟨a, b, rfl, rfl, q⟩ := h
  exact op_eq pins s σ H _ _ v u Q I rx ry ⟨rfl, by rw [dec_strV]; exact q⟩
theorem op_neS : OpR X (compareOp .NotEq) (rEqS not) := by
  intro pins s σ H x y v u Q I rx ry h
  obtain ⟨a, b, rfl, rfl, q⟩ := h
  exact op_ne pins s σ H _ _ v u Q I rx ry ⟨rfl, by rw [dec_strV]; exact q⟩
end

/-- xs == [], whatever stands in xs -/
def rNil (K : PySem.W.Frag) (f : Bool → Bool) : R2 := fun x y H Q => ∃ (p q : Addr) (us : List V), x = .ref p ∧ y = .ref q ∧ SqL K H p us ∧ SqL K H q [] ∧ Q (.bl (f us.isEmpty)) H
theorem emp_len {α β : Type} {us : List α} {xs : List β} (h : us.length = xs.length) : us.isEmpty = xs.isEmpty := by cases us <;> cases xs <;> first | rfl | exact nomatch h
section
variable {X : Cx}
theorem op_eqNil (hu : X.A.units + 64 < cLine) : OpR X (compareOp .Eq) (rNil X.K id) := by
  intro pins s σ H x y v u Q I rx ry h
  obtain ⟨p, q, us, rfl, rfl, hp, hq, k⟩ := h
  cases rx
  cases ry
  obtain ⟨its, rv, pl, _⟩ := I.list hp
  obtain ⟨jts, rw', ql, _⟩ := I.list hq
  cases rw'
  have fin : ∀ b : Bool, b = us.isEmpty → EP X pins σ Q (Value.bool b) s := fun b e => ⟨.bl b, H, I, rfl, by rw [e]; exact k⟩
  cases us with
  | nil =>
    cases rv
    exact PySem.SeqAt.RcAt.lists (e := fun _ => true) pl.isList ql.isList rfl (by omega) (fun j h1 _ => absurd h1 (Nat.not_lt_zero _)) _ _ _ _ (fin _ rfl)
  | cons a us =>
    cases rv
    exact PySem.SeqAt.RcAt.lists_lengths pl.isList ql.isList (by simp) (by omega) _ _ _ _ (fin _ rfl)
theorem op_neNil (hu : X.A.units + 64 < cLine) : OpR X (compareOp .NotEq) (rNil X.K not) := by
  intro pins s σ H x y v u Q I rx ry h
  obtain ⟨p, q, us, rfl, rfl, hp, hq, k⟩ := h
  cases rx
  cases ry
  obtain ⟨its, rv, pl, _⟩ := I.list hp
  obtain ⟨jts, rw', ql, _⟩ := I.list hq
  cases rw'
  have fin : ∀ b : Bool, b = !us.isEmpty → EP X pins σ Q (Value.bool b) s := fun b e => ⟨.bl b, H, I, rfl, by rw [e]; exact k⟩
  cases us with
  | nil =>
    cases rv
    exact PySem.SeqAt.RcNeAt.lists (e := fun _ => true) pl.isList ql.isList rfl (by omega) (fun j h1 _ => absurd h1 (Nat.not_lt_zero _)) _ _ _ _ (fin _ rfl)
  | cons a us =>
    cases rv
    exact PySem.SeqAt.RcNeAt.lists_lengths pl.isList ql.isList (by simp) (by omega) _ _ _ _ (fin _ rfl)
end
/-- a tuple of the items of a list -/
def rTupL (K : PySem.W.Frag) : List V → Hp → VK → Prop := fun xs H Q => ∃ p ys, xs = [.ref p] ∧ ((SqL K H p ys ∧ ∀ l, H l = none → Q (.ref l) (upd H l (.tup ys))) ∨ (SqT K H p ys ∧ Q (.ref p) H))
theorem call_tupL {X : Cx} : CallR X (.type "tuple") (rTupL X.K) := call_tuple_of
/-! #### for i, x in enumerate(xs) -/
theorem x_nil {σ : L2.St} {H : Hp} {QA : List V → Hp → Prop} (h : QA [] H) : tNil σ H QA := h
theorem x_enum {K : PySem.W.Frag} {tA : TA} {σ : L2.St} {H : Hp} {R : It → Hp → Prop} (h : tA σ H fun vs H1 => ∃ a xs, vs = [.ref a] ∧ SqL K H1 a xs ∧ R (Ite K a) H1) : iEnum K tA σ H R := h
theorem for_enum {K : PySem.W.Frag} {g : TG} {tb : TS} {D : Ends} {σ : L2.St} {H : Hp} {α : Type} [TD α] {a : Addr} {us : List V} {xs : List α} {F : Hp} (W : Nat → List α → L2.St → Hp → Prop) (fr : Rs F us xs) (h0 : W 0 xs σ H) (hf : ∀ i ts σ H, W i ts σ H → H a = some (.lst us))
    (hs : ∀ i x ts v T σ H, R F v x → W i (x :: ts) σ H → H T = none → g (.ref T) σ (upd H T (.tup [.int (i : Int), v])) fun σ2 H2 => tb { D with nx := W (i + 1) ts, ct := W (i + 1) ts, bk := D.nx } σ2 H2) (hd : ∀ i σ H, W i [] σ H → D.nx σ H) :
    ∃ W : Nat → Nat → L2.St → Hp → Prop, (∃ m, W 0 m σ H) ∧ ∀ i m σ H, W i m σ H →
      ((Ite K a).stop i H ∧ D.nx σ H) ∨ ((Ite K a).go i H ∧ ∃ N : L2.St → Hp → Prop, (∀ σ' H', N σ' H' → ∃ m', m' < m ∧ W (i + 1) m' σ' H') ∧ ∀ x H', (Ite K a).yld i H x H' → g x σ H' fun σ2 H2 => tb { D with nx := N, ct := N, bk := D.nx } σ2 H2) := by
  have hl := Rs_len fr
  refine ⟨fun i m σ H => m = xs.length - i ∧ i ≤ xs.length ∧ W i (xs.drop i) σ H, ⟨xs.length, rfl, Nat.zero_le _, by rw [List.drop_zero]; exact h0⟩, ?_⟩
  rintro i m σ H ⟨rfl, hi, w⟩
  have q : SqL K H a us := .inl (.inl (hf _ _ _ _ w))
  by_cases hlt : i < xs.length
  · have e3 : xs[i]? = some xs[i] := List.getElem?_eq_getElem hlt
    have e4 : us[i]? = some us[i] := List.getElem?_eq_getElem (by omega)
    refine .inr ⟨⟨us, us[i], q, e4⟩, fun σ' H' => W (i + 1) (xs.drop (i + 1)) σ' H', fun σ' H' p' => ⟨xs.length - (i + 1), by omega, rfl, hlt, p'⟩, fun x H' y => ?_⟩
    obtain ⟨T, z, rfl, nT, rfl, hz⟩ := y
    have ez := hz us q
    rw [e4] at ez
    cases ez
    obtain ⟨d, e1, e2⟩ := fr.get' e4
    rw [List.getElem?_map, e3] at e1
    cases e1
    rw [drop_cons e3] at w
    exact hs i _ _ _ T σ H e2 w nT
  · have e : i = xs.length := by omega
    subst e
    rw [List.drop_length] at w
    exact .inl ⟨⟨us, q, by omega⟩, hd _ σ H w⟩
section
variable {K : PySem.W.Frag} {F H : Hp} {Q : VK} {p q : Addr} {us : List V} {b : Bool} {x y : V}
theorem eqNil_use (h : SqL K H p us) (k : SqL K H q []) (e : us.isEmpty = b) (z : Q (.bl b) H) : rNil K id (.ref p) (.ref q) H Q := ⟨_, _, _, rfl, rfl, h, k, by rw [e]; exact z⟩
theorem neNil_use (h : SqL K H p us) (k : SqL K H q []) (e : us.isEmpty = b) (z : Q (.bl (!b)) H) : rNil K not (.ref p) (.ref q) H Q := ⟨_, _, _, rfl, rfl, h, k, by rw [e]; exact z⟩
theorem eqS_use {a b : Str} (z : Q (.bl (decide (a = b))) H) : rEqS id (.str a) (.str b) H Q := ⟨_, _, rfl, rfl, z⟩
theorem neS_use {a b : Str} (z : Q (.bl (!decide (a = b))) H) : rEqS not (.str a) (.str b) H Q := ⟨_, _, rfl, rfl, z⟩
theorem eqA_use {a b : PyData} (s : Sub F H) (h : RD F x a) (k : RD F y b) (c : EqOk a b) (z : Q (.bl (PyData.eqv a b)) H) : rEqD' id x y H Q := ⟨_, _, _, s, h, k, c, z⟩
theorem neA_use {a b : PyData} (s : Sub F H) (h : RD F x a) (k : RD F y b) (c : EqOk a b) (z : Q (.bl (!PyData.eqv a b)) H) : rEqD' not x y H Q := ⟨_, _, _, s, h, k, c, z⟩
theorem geA_use {a b : PyData} (s : Sub F H) (h : RD F x a) (k : RD F y b) (c : LtOk a b) (z : Q (.bl (!PySem.W.dataLt a b)) H) : rCmpD (fun a b => !PySem.W.dataLt a b) x y H Q := ⟨_, _, _, s, h, k, c, z⟩
theorem ltA_use {a b : PyData} (s : Sub F H) (h : RD F x a) (k : RD F y b) (c : LtOk a b) (z : Q (.bl (PySem.W.dataLt a b)) H) : rCmpD (fun a b => PySem.W.dataLt a b) x y H Q := ⟨_, _, _, s, h, k, c, z⟩
end
/-! #### repr -/
def ShowOk (d : PyData) : Prop := (d.showable && decide (d.depth ≤ 60) && decide (d.shown.length ≤ 16777216)) = true
instance (d : PyData) : Decidable (ShowOk d) := inferInstanceAs (Decidable (_ = true))
theorem ShowOk.parts {d : PyData} (h : ShowOk d) : d.showable = true ∧ d.depth ≤ 60 ∧ d.shown.length ≤ 16777216 := by
  unfold ShowOk at h
  simp only [Bool.and_eq_true, decide_eq_true_eq] at h
  exact ⟨h.1.1, h.1.2, h.2⟩
section
variable {X : Cx} {pins : List (Addr × Obj)} {σ : L2.St} {H F : Hp} {s : Shared}
theorem ne_sys (I : Inv X pins σ H s) (hb : (X.base.get? sysModules).isSome = true) {a : Addr} {o : HO} (h : H a = some o) : a ≠ sysModules := fun e => by
  obtain ⟨u, hu⟩ := Option.isSome_iff_exists.mp hb
  have := (I.bs _ _ hu).2
  rw [← e, h] at this
  cases this
mutual
theorem RD.reads (I : Inv X pins σ H s) (hb : (X.base.get? sysModules).isSome = true) (sb : Sub F H) : ∀ {d : PyData} {v : V} {u : Value}, RD F v d → RelV v u → ∃ as, Reads s.heap u d as ∧ sysModules ∉ as
  | _, _, _, .non, r => by cases r; exact ⟨_, .none, by simp⟩
  | _, _, _, .bl b, r => by cases r; exact ⟨_, .bool b, by simp⟩
  | _, _, _, .int i, r => by obtain ⟨t, rfl⟩ := r; exact ⟨_, .int i t, by simp⟩
  | _, _, _, .str x, r => by obtain ⟨t, rfl⟩ := r; exact ⟨_, .str x t, by simp⟩
  | _, _, _, .lst (a := a) (us := us) h q, r => by
    cases r
    obtain ⟨_, its, n, vr, e⟩ := I.hok a _ (sb _ _ h)
    obtain ⟨as, ra, na⟩ := RDs.reads I hb sb q vr
    refine ⟨_, .list (vs := its.toArray) e rfl rfl ra, fun hm => ?_⟩
    rcases List.mem_cons.mp hm with z | z
    · exact ne_sys I hb (sb _ _ h) z.symm
    · exact na z
  | _, _, _, .tup (a := a) (us := us) h q, r => by
    cases r
    obtain ⟨_, its, vr, o, e, ec, n, ed⟩ := I.hok a _ (sb _ _ h)
    obtain ⟨as, ra, na⟩ := RDs.reads I hb sb q vr
    exact ⟨_, .tuple (vs := its.toArray) e ec ed ra, na⟩
  | _, _, _, .dic (a := a) (kvs := kvs) h q, r => by
    cases r
    obtain ⟨_, hs, vs, kv, o, es, ep, e, ex, ed, _, pr, _⟩ := I.hok a _ (sb _ _ h)
    obtain ⟨as, bs, r1, r2, n1, n2⟩ := RKs.reads I hb sb q kv pr
    refine ⟨_, .dict e ex.1 ed r1 r2, fun hm => ?_⟩
    rcases List.mem_append.mp hm with z | z
    · rcases List.mem_cons.mp z with z | z
      · exact beq_eq_false_iff_ne.mp hs z.symm
      · exact n1 z
    · exact n2 z
theorem RDs.reads (I : Inv X pins σ H s) (hb : (X.base.get? sysModules).isSome = true) (sb : Sub F H) : ∀ {ds : List PyData} {us : List V} {vs : List Value}, RDs F us ds → Vals us vs → ∃ as, ReadsAll s.heap vs ds as ∧ sysModules ∉ as
  | _, _, _, .nil, r => by cases r; exact ⟨_, .nil, by simp⟩
  | _, _, _, .cons h q, r => by
    cases r with
    | cons r1 r2 =>
      obtain ⟨as, a1, a2⟩ := RD.reads I hb sb h r1
      obtain ⟨bs, b1, b2⟩ := RDs.reads I hb sb q r2
      exact ⟨_, .cons a1 b1, fun hm => (List.mem_append.mp hm).elim a2 b2⟩
theorem RKs.reads (I : Inv X pins σ H s) (hb : (X.base.get? sysModules).isSome = true) (sb : Sub F H) : ∀ {ds : List (PyData × PyData)} {kvs : List (Key × V)} {vs : List (Key × Value)} {es : List DictEntry}, RKs F kvs ds → KV kvs vs → Pairs (mixKind X.prog X.w) es vs →
    ∃ as bs, ReadsAll s.heap (es.map (·.key)) (ds.map (·.1)) as ∧ ReadsAll s.heap (es.map (·.val)) (ds.map (·.2)) bs ∧ sysModules ∉ as ∧ sysModules ∉ bs
  | _, _, _, _, .nil, k, p => by cases k; cases p; exact ⟨_, _, .nil, .nil, by simp, by simp⟩
  | _, _, _, _, .int (i := i) h q, k, p => by
    cases k with
    | cons k1 k2 =>
      cases p with
      | cons p1 p2 p3 =>
        obtain ⟨e1, e2⟩ := k1
        rw [← e1] at p1
        have p1' : keyIs (.inl i) _ = true := p1
        rcases keyIs_shape p1' with ⟨j, t, z, ek⟩ | ⟨x, t, z, ek⟩
        · cases z
          obtain ⟨as, a1, a2⟩ := RD.reads I hb sb h e2
          obtain ⟨cs, bs, c1, c2, n1, n2⟩ := RKs.reads I hb sb q k2 p3
          exact ⟨[] ++ cs, as ++ bs, .cons (by show Reads _ (DictEntry.key _) _ _; rw [ek]; exact .int i t) c1, .cons (by show Reads _ (DictEntry.val _) _ _; rw [p2]; exact a1) c2, n1, fun hm => (List.mem_append.mp hm).elim a2 n2⟩
        · cases z
  | _, _, _, _, .str (x := x) h q, k, p => by
    cases k with
    | cons k1 k2 =>
      cases p with
      | cons p1 p2 p3 =>
        obtain ⟨e1, e2⟩ := k1
        rw [← e1] at p1
        have p1' : keyIs (.inr x) _ = true := p1
        rcases keyIs_shape p1' with ⟨j, t, z, ek⟩ | ⟨y, t, z, ek⟩
        · cases z
        · cases z
          obtain ⟨as, a1, a2⟩ := RD.reads I hb sb h e2
          obtain ⟨cs, bs, c1, c2, n1, n2⟩ := RKs.reads I hb sb q k2 p3
          exact ⟨[] ++ cs, as ++ bs, .cons (by show Reads _ (DictEntry.key _) _ _; rw [ek]; exact .str x t) c1, .cons (by show Reads _ (DictEntry.val _) _ _; rw [p2]; exact a1) c2, n1, fun hm => (List.mem_append.mp hm).elim a2 n2⟩
end
def rReprD : List V → Hp → VK → Prop := fun xs H Q => ∃ (x : V) (d : PyData) (F : Hp), xs = [x] ∧ Sub F H ∧ RD F x d ∧ ShowOk d ∧ Q (.str d.shown) H
end
theorem call_reprD {X : Cx} (hg : X.A.guards = some []) (hb : (X.base.get? sysModules).isSome = true) (hu : X.A.units + 200 < cLine) : CallR X (.builtin "repr") rReprD := by
  intro pins s σ H xs us Q I r h
  obtain ⟨x, d, F, rfl, sb, hd, ok, q⟩ := h
  obtain ⟨u, rfl, rx⟩ := vals1 r
  obtain ⟨k1, k2, k3⟩ := ok.parts
  have hz : d.shown.length ≤ sizeLine := by rw [sizeLine_eq]; exact k3
  have hd' := hd
  obtain ⟨as, ra, na⟩ := RD.reads I hb sb hd rx
  cases hd' with
  | non => cases rx; exact PySem.P.repr_of_none ⟨.str _, H, I.tok _, ⟨_, rfl⟩, q⟩
  | bl b => cases rx; exact PySem.P.repr_of_bool ⟨.str _, H, I.tok _, ⟨_, rfl⟩, q⟩
  | int i =>
    obtain ⟨t, rfl⟩ := rx
    have hi : i.natAbs.log2 < 1920 := by simpa [PyData.showable] using k1
    exact PySem.P.repr_of_int hi ⟨.str _, H, I.tok _, ⟨_, rfl⟩, q⟩
  | str x => obtain ⟨t, rfl⟩ := rx; exact PySem.P.repr_of_str ⟨.str _, H, I.tok _, ⟨_, rfl⟩, q⟩ hz
  | lst h r2 => cases rx; exact PySem.repr_of_reads' ra k1 (fun _ => na) hg (by omega) (fun _ _ e => e) (fun h' u tk kk => ⟨.str _, H, I.kept (t' := tk) kk, ⟨_, rfl⟩, q⟩) hz
  | tup h r2 => cases rx; exact PySem.repr_of_reads' ra k1 (fun _ => na) hg (by omega) (fun _ _ e => e) (fun h' u tk kk => ⟨.str _, H, I.kept (t' := tk) kk, ⟨_, rfl⟩, q⟩) hz
  | dic h r2 => cases rx; exact PySem.repr_of_reads' ra k1 (fun _ => na) hg (by omega) (fun _ _ e => e) (fun h' u tk kk => ⟨.str _, H, I.kept (t' := tk) kk, ⟨_, rfl⟩, q⟩) hz

/-! #### defs that want to know that no repr is under way, and where the table of modules stands -/
/-- as FnOk, where nothing is being shown around the call -/
structure FnOkG (P : Program) (w : World) (K : PySem.W.Frag) (mg : Str → Option Value) (base : Heap) (CX : CXT) (k : Nat) (f : Addr) (fd : FuncData) (ps : List Str) (sp : Sp) : Prop where
  len : ∀ vs H Q E, sp vs H Q E → vs.length = ps.length
  run : ∀ (A : Around) (outer : List Env) (s : Shared) (H : Hp) (args : Args) (us : List Value) (vs : List V) (Q : VK) (E : XK), A.guards = some [] → Room k A → Env0 P w K mg base A outer s H → BindsTo s fd args (ps.zip us) →
    Vals vs us → sp vs H Q E → codeAny (model P w) A (.call (.ref f) args) (CR CX outer P w H s Q E) s
section
variable {P : Program} {w : World} {K : PySem.W.Frag} {mg : Str → Option Value} {base : Heap} {CX : CXT} {k : Nat} {f : Addr} {fd : FuncData} {ps : List Str} {sp : Sp}
/-- a def of the text, by its body -/
theorem okG_of {x qual : Str} {st : Stmt} {N : List Str} (F : Fun K x qual st f fd) (S : FnScope N ps (defScope st)) (len : ∀ vs H Q E, sp vs H Q E → vs.length = ps.length)
    (hbody : ∀ (cdv : Value) (A : Around) (outer : List Env) (s : Shared) (H : Hp) (vs : List V) (Q : VK) (E : XK), A.guards = some [] → Room k (A.deeper (envOfC qual (defScope st) s.heap.objs.size f cdv)) → sp vs H Q E →
      ∃ t, PSs (cxOf CX P w K mg base N qual (defScope st) f cdv A outer s H E) (defBody st) t ∧ t { nx := fun _ H' => Q .non H', rt := Q } (start N vs) H) : FnOkG P w K mg base CX (k + 1) f fd ps sp := by
  obtain ⟨oc, od, kV, doc, pm, an, cdv, ct, osl, hfd, lk, hcd⟩ := F.ex
  subst hfd
  refine ⟨len, ?_⟩
  intro A outer s H args us vs Q E hgd hr e0 hb r hsp
  have low : ∀ b o, base.get? b = some o → s.heap.get? b = some o := fun b o e => (e0.bs b o e).1
  have KX : K.In s.heap := e0.mod.kin.keeps low
  have kinds : ∀ y ∈ ps.zip us, (defScope st).names.lookup y.1 = some .local ∨ ((defScope st).names.lookup y.1 = some .cell ∧ ((cellsFrom (s.heap.objs.size + 1) (defScope st).names []).lookup y.1).isSome = true) := by
    intro y hy
    obtain ⟨n, v⟩ := y
    cases S.par n (List.of_mem_zip hy).1 with
    | inl q => exact .inl q
    | inr q => exact .inr ⟨q, PySem.W.cellsFrom_some _ _ _ (.inl q)⟩
  refine codeAny_call_function hr.depth (KX _ _ lk) rfl S.co S.gen rfl (PySem.W.codeRec_of KX hcd) (hb _ _ _ _ (wpAny_newFunctionEnv_cells S.kind kinds fun env he s1 xx => ?_))
  subst he
  refine ⟨(e0.mod.nolimit.keeps low).keeps xx.toInCall.keep, codeAny_func ?_⟩
  obtain ⟨t, ht, hq⟩ := hbody cdv A outer s H vs Q E hgd (hr.deeper _) hsp
  refine wpAny_mono (ht.run [] s1 (start N vs) H _ (inv_start S hr.hd e0 (len _ _ _ _ hsp) r xx) hq) ?_ fun e s' hs => hs
  intro fl s' hs
  cases fl with
  | next =>
    obtain ⟨_, H', J, q⟩ := hs
    exact ⟨.non, H', J.os, J.bare, J.base, J.hok, rfl, q⟩
  | ret u =>
    obtain ⟨v, _, H', J, rv, q⟩ := hs
    exact ⟨v, H', J.os, J.bare, J.base, J.hok, rv, q⟩
  | brk => obtain ⟨_, _, _, q⟩ := hs; exact q.elim
  | cont => obtain ⟨_, _, _, q⟩ := hs; exact q.elim
end
/-- .. of a def that no exception leaves -/
theorem okG0_of {P : Program} {w : World} {K : PySem.W.Frag} {mg : Str → Option Value} {base : Heap} {k : Nat} {f : Addr} {fd : FuncData} {ps : List Str} {sp : Sp} {x qual : Str} {st : Stmt} {N : List Str} (F : Fun K x qual st f fd) (S : FnScope N ps (defScope st)) (len : ∀ vs H Q E, sp vs H Q E → vs.length = ps.length)
    (hbody : ∀ (cdv : Value) (A : Around) (outer : List Env) (s : Shared) (H : Hp) (vs : List V) (Q : VK) (E : XK), A.guards = some [] → Room k (A.deeper (envOfC qual (defScope st) s.heap.objs.size f cdv)) → sp vs H Q E →
      ∃ t, PSs (cxOf CX0 P w K mg base N qual (defScope st) f cdv A outer s H E).nox (defBody st) t ∧ t { nx := fun _ H' => Q .non H', rt := Q } (start N vs) H) : FnOkG P w K mg base CX0 (k + 1) f fd ps sp := by
  refine okG_of F S len fun cdv A outer s H vs Q E hgd hr hsp => ?_
  obtain ⟨t, h, q⟩ := hbody cdv A outer s H vs Q E hgd hr hsp
  exact ⟨t, h.nox, q⟩
section
variable {X : Cx} {k : Nat} {f : Addr} {fd : FuncData} {ps : List Str} {sp : Sp} {CX : CXT} {E : XK} {ds : List Value} {dvs : List V} {x : Str} {p pos : Pos} {e : Expr} {es : List Expr} {t : TA}
/-- a call of such a def -/
theorem pe_callG (hgd : X.A.guards = some []) (F : FnOkG X.prog X.w X.K X.mg X.base CX k f fd ps sp) (hr : Room k X.A) (hg : Gl X x) (hm : X.mg x = some (.ref f)) (hk : PySem.W.keepIn X.K (.ref f) = true) (hb : Binds X.K fd ps ds) (hd : Vals dvs ds) (hx : Passes CX X E)
    (ha : PA X (e :: es) t) (hdb : (x == ("__debug__" : Str)) = false := by decide) (he : starEach (e :: es) X.env = (false, eval e X.env) :: starEach es X.env := by rfl) (hpl : (backTo pos (starEach es X.env)).any (·.1) = false := by rfl) :
    PE X (.Call (.Name x p) (e :: es) [] pos) (tCall sp dvs E t) := by
  constructor
  intro pins s σ H Q I h
  refine wpAny_Call_Name_kw (ld_glob I hg hm (PySem.W.callWith_K (h₀ := X.base) I.ok.mod.kin hk (thn (ha.run pos pins s σ H _ I h) fun us s1 got => ?_) he hpl) hdb)
  obtain ⟨vs, H1, I1, r, q⟩ := got
  have r2 : Vals (vs ++ dvs) (us ++ ds) := r.append hd
  have hl : (us ++ ds).length = ps.length := by rw [← F.len _ _ _ _ q, r2.length]
  refine ⟨I1.kIn, wpAny_call (codeAny_mono (F.run X.A X.stack s1 H1 ⟨us, []⟩ (us ++ ds) (vs ++ dvs) Q E hgd hr I1.env0 (hb s1 us I1.kIn hl) r2 q) ?_)⟩
  intro res s' hq
  match res, hq with
  | .error e, hq => exact hx pins σ H1 s1 e s' I1 hq
  | .ok (.ret u), hq => exact I1.after hq
  | .ok .next, hq => exact hq.elim
  | .ok .brk, hq => exact hq.elim
  | .ok .cont, hq => exact hq.elim
end
/-- the law's call, where nothing is being shown -/
theorem law_callG {P : Program} {w : World} {K : PySem.W.Frag} {mg mb : Str → Option Value} {CX : CXT} {k : Nat} {fa a : Addr} {fd : FuncData} {x : Str} {sp : Sp} {s₁ : Shared} {vs : List Value} {ns : List Int}
    (KX : K.In s₁.heap) (hns : s₁.heap.Ns mainGlobals mg) (hb : s₁.heap.Ns builtinsNs mb) (hbb : ∀ x : Str, x ≠ "__name__" → mb x = bootBuiltins x) (hlim : s₁.heap.NoLimit) (hsy : ∃ m, s₁.heap.Ns sysModules m) (hg : s₁.gens = #[])
    (ha : s₁.heap.get? a = some { cls := .type "list", data := .seq vs.toArray }) (hi : IntsAre vs ns) (hl : ns.length ≤ sizeLine) (hr : Room k callerA)
    (F : ∀ base : Heap, K.In base → base.Ns mainGlobals mg → (base.get? sysModules).isSome = true → FnOkG P w K mg base CX k fa fd [x] sp) (hbind : ∀ (s : Shared) (u : Value), BindsTo s fd ⟨[u], []⟩ [(x, u)])
    (hsp : ∀ H : Hp, Only H → SqL K H a (ns.map V.int) → sp [.ref a] H (fun v _ => v = .bl true) fun _ _ _ => False)
    (hCX : ∀ H e s', CX [] H s₁ (fun _ _ _ => False) e s' → False) :
    codeAny (model P w) callerA (.call (.ref fa) ⟨[.ref a], []⟩) (fun r s' => r = .ok (.ret (.bool true)) ∧ OldK s₁.heap s'.heap ∧ s'.os = s₁.os ∧ AllBare s'.gens) s₁ := by
  have rv := vals_ints hi
  have noE : ∀ b : Addr, b ∉ ([] : List Addr) := fun b z => absurd z List.not_mem_nil
  -- H: an abstract heap in which the script alone may be tracked
  have core : ∀ H : Hp, Only H → SqL K H a (ns.map V.int) → HOk P w H s₁.heap → (∀ b, H b ≠ none → b = a ∧ K.lookup a = none) →
      codeAny (model P w) callerA (.call (.ref fa) ⟨[.ref a], []⟩) (fun r s' => r = .ok (.ret (.bool true)) ∧ OldK s₁.heap s'.heap ∧ s'.os = s₁.os ∧ AllBare s'.gens) s₁ := by
    intro H hO hS hok hA
    have free : ∀ {b : Addr} {o : Obj} {es : Array DictEntry} {ep : Nat}, s₁.heap.get? b = some o → o.data = .dict es ep → H b = none := by
      intro b o es ep e d
      cases q : H b with
      | none => rfl
      | some u =>
        have z := (hA b (by rw [q]; exact (fun z => nomatch z))).1
        rw [z, ha] at e
        cases e
        exact nomatch d
    have ns_ : ∀ {b : Addr} {m : Str → Option Value}, s₁.heap.Ns b m → (hidT s₁.heap H).Ns b m := fun {b m} h => by
      obtain ⟨o, es, ep, e, d, r⟩ := h
      exact ⟨o, es, ep, hidT_get e (free e d), d, r⟩
    have kin : K.In (hidT s₁.heap H) := by
      intro b o e
      refine hidT_get (KX b o e) ?_
      cases q : H b with
      | none => rfl
      | some u =>
        obtain ⟨z1, z2⟩ := hA b (by rw [q]; exact (fun z => nomatch z))
        rw [z1, z2] at e
        cases e
    have sys : ((hidT s₁.heap H).get? sysModules).isSome = true := by
      obtain ⟨m, hm⟩ := hsy
      obtain ⟨o, es, ep, e, _⟩ := ns_ hm
      rw [e]; rfl
    have md : Mod K mg (hidT s₁.heap H) := ⟨kin, ns_ hns, ⟨mb, ns_ hb, hbb⟩, by obtain ⟨mc, h1, h2⟩ := hlim; exact ⟨mc, ns_ h1, h2⟩⟩
    have e0 : Env0 P w K mg (hidT s₁.heap H) callerA [] s₁ H := ⟨rfl, md, fun b o e => of_hidT e, Nat.le_of_eq (hidT_size _ _), trivial, fun b z => absurd z (noE b), hok, .of_eq hg⟩
    refine codeAny_mono ((F _ kin (ns_ hns) sys).run callerA [] s₁ H ⟨[.ref a], []⟩ [.ref a] [.ref a] _ _ rfl hr e0 (hbind s₁ (.ref a)) (.cons rfl .nil) (hsp H hO hS)) ?_
    intro r s' h
    match r, h with
    | .error e, h => exact (hCX H e s' h).elim
    | .ok .next, h => exact h.elim
    | .ok .brk, h => exact h.elim
    | .ok .cont, h => exact h.elim
    | .ok (.ret u), h =>
      obtain ⟨v, H', os, bare, un, hok', r', q⟩ := h
      have q' : v = .bl true := q
      subst q'
      obtain rfl : u = Value.bool true := r'
      refine ⟨rfl, OldK.of_keep fun b o e => ?_, os, bare⟩
      cases q : H b with
      | none => exact un.keep b o e q (noE b) (noE b)
      | some u =>
        cases hO b with
        | inl z => rw [q] at z; cases z
        | inr z =>
          obtain ⟨ob, xs, z⟩ := z
          have e1 := (hok b _ z).1
          have e2 := (hok' b _ (un.frzs b ob _ z)).1
          rw [e] at e1
          cases e1
          exact e2
  cases hk : K.lookup a with
  | some o =>
    have e := KX a o hk
    rw [ha] at e
    cases e
    exact core (fun _ => none) (fun _ => .inl rfl) (.inr ⟨_, vs.toArray, _, hk, rfl, rfl, rfl, by rw [List.size_toArray, hi.length]; exact hl, by simpa using rv⟩) (fun b u z => nomatch z) fun b z => absurd rfl z
  | none =>
    have at_ : ∀ b, (if b = a then some (HO.frz { cls := .type "list", data := .seq vs.toArray } (.lst (ns.map V.int))) else none) ≠ none → b = a := fun b z => by
      by_cases q : b = a
      · exact q
      · exact absurd (if_neg q) z
    refine core (fun b => if b = a then some (.frz { cls := .type "list", data := .seq vs.toArray } (.lst (ns.map V.int))) else none) (fun b => ?_) (.inl (.inr ⟨{ cls := .type "list", data := .seq vs.toArray }, if_pos rfl⟩)) (fun b u z => ?_) fun b z => ⟨at_ b z, hk⟩
    · by_cases q : b = a
      · exact .inr ⟨_, _, if_pos q⟩
      · exact .inl (if_neg q)
    · have q := at_ b (by rw [show (if b = a then _ else none) = some u from z]; exact (fun z => nomatch z))
      subst q
      have z' := (if_pos rfl).symm.trans z
      cases z'
      exact ⟨ha, by rw [List.length_map]; exact hl, vs, _, rv, ha⟩
theorem walk_ofG {l : PySem.W.OpenLaw} {n k : Nat} {q : Program} {loose : List Str} {XP : (Str → Option Value) → Heap → Prop} {YP : World → Heap → Prop} {d : DefRec} {K : Params → PySem.W.Frag} {CX : World → CXT} {sp : World → Sp} {x : Str}
    (hn : l.most = some n) (hn2 : n ≤ sizeLine) (hdf : d.params.defaults = []) (hr : Room k callerA) (hin : importsNone q = true)
    (hY : ∀ (w : World) (h : Heap), YP w h → (K w.params).In h)
    (F : ∀ (w : World) (mg : Str → Option Value) (fa : Addr) (h : Heap), (K w.params).In h → h.Ns mainGlobals mg → mg d.name = some (.ref fa) →
      ∃ fd : FuncData, (∀ (s : Shared) (u : Value), BindsTo s fd ⟨[u], []⟩ [(x, u)]) ∧
        ∀ base : Heap, (K w.params).In base → base.Ns mainGlobals mg → (base.get? sysModules).isSome = true → FnOkG l.prog w (K w.params) mg base (CX w) k fa fd [x] (sp w))
    (hsp : ∀ (w : World) (H : Hp) (a : Addr) (ns : List Int), ns.length ≤ n → Only H → SqL (K w.params) H a (ns.map V.int) → sp w [.ref a] H (fun v _ => v = .bl true) fun _ _ _ => False)
    (hCX : ∀ (w : World) (H : Hp) (s : Shared) (e : Value) (s' : Shared), CX w [] H s (fun _ _ _ => False) e s' → False) :
    PySem.W.WalkO q loose XP YP l.row.toRowW d [] (fun f vs => PySem.call f vs) := by
  refine Att.attach_call hn hdf ?_
  intro w s₀ s₁ mg mb fa o pm cd doc a vs ns G Y ho hd hcd hmg hobj hints hlen hg
  obtain ⟨fd, hb, hF⟩ := F w mg fa _ (hY w _ Y) G.T.g hmg
  exact law_callG (hY w _ Y) G.T.g G.T.b G.T.builtins G.T.nolimit (by obtain ⟨m, hm, _⟩ := (G.T.seer hin).mods; exact ⟨m, hm⟩) hg hobj hints (Nat.le_trans hlen hn2) hr hF hb (fun H hO hS => hsp w H a ns hlen hO hS) fun H e s' => hCX w H s₁ e s'
end My

/-! ## exceptions of the text's own classes, kept as values -/
namespace My
open PySem PySem.Spec PyProof.Rows L2
inductive Er | NoBase | NoNumber | NoFigures | NoRule | NoStand | NoGood | Endless | NoRules | NoStretch | TooMany | NoText | NoName | NoRow
  deriving DecidableEq
/-- where the classes stand -/
class ErT where
  ad : Er → Addr
  lack : Addr
/-- an exception of the class at C, whatever has become of its trace -/
def EV (C a : Addr) : HO := .ext fun h => ∃ (oe : Obj) (vs : Array Value), h.get? a = some oe ∧ Zc (.ref C) none oe ∧ oe.data = .fields vs
theorem EV_ok {P : Program} {w : World} {H : Hp} {h : Heap} {C a : Addr} {oe : Obj} {vs : Array Value} (e : h.get? a = some oe) (z : Zc (.ref C) none oe) (d : oe.data = .fields vs) : ObjOk P w H h a (EV C a) :=
  ⟨⟨oe, vs, e, z, d⟩, ⟨oe, e⟩, fun _ _ ⟨o, v, q, r⟩ k => ⟨o, v, k o q, r⟩⟩
section
variable [ErT] {F N H : Hp} {v : V} {α ρ : Type}
/-- an exception, or None -/
def RX (F : Hp) (v : V) : Option Er → Prop
  | none => v = .non
  | some e => ∃ a, v = .ref a ∧ F a = some (EV (ErT.ad e) a)
theorem RX.mono {o : Option Er} (s : Sub F N) (h : RX F v o) : RX N v o := by
  cases o with
  | none => exact h
  | some e => obtain ⟨a, h1, h2⟩ := h; exact ⟨a, h1, s _ _ h2⟩
theorem RX.isN {o : Option Er} (h : RX F v o) : decide (v = .non) = o.isNone := by
  cases o with
  | none => cases (show v = .non from h); rfl
  | some e => obtain ⟨a, rfl, _⟩ := h; rfl
theorem ev_isNX {ta : TE} {σ : L2.St} {o : Option Er} (ha : Evl.Ev ta σ H v) (h : RX F v o) : Evl.Ev (tIsN ta) σ H (.bl o.isNone) := fun H1 e Q q =>
  ha H1 e _ fun H2 e2 => by
    show Q (.bl (decide (v = .non))) H2
    rw [h.isN]; exact q H2 e2
theorem ev_notNX {ta : TE} {σ : L2.St} {o : Option Er} (ha : Evl.Ev ta σ H v) (h : RX F v o) : Evl.Ev (tNotN ta) σ H (.bl (!o.isNone)) := fun H1 e Q q =>
  ha H1 e _ fun H2 e2 => by
    show Q (.bl (!decide (v = .non))) H2
    rw [h.isN]; exact q H2 e2
end
/-- what comes back, or the way out -/
def exB {α ρ : Type} (r : Except Er α) (k : α → Option ρ) (ke : Er → Option ρ) : Option ρ := match r with | .ok x => k x | .error e => ke e
theorem exB_ok {α ρ : Type} {x : α} {k : α → Option ρ} {ke : Er → Option ρ} : exB (.ok x) k ke = k x := rfl
theorem exB_err {α ρ : Type} {e : Er} {k : α → Option ρ} {ke : Er → Option ρ} : exB (.error e) k ke = ke e := rfl

/-! #### data of any kind, seen at a type -/
class UD (α : Type) [TD α] where
  un : PyData → Option α
  ok : ∀ d x, un d = some x → TD.d x = d
instance : UD Int := ⟨asInt, fun d x e => by cases d <;> first | (cases e; rfl) | cases e⟩
instance : UD Bool := ⟨asBl, fun d x e => by cases d <;> first | (cases e; rfl) | cases e⟩
instance : UD Str := ⟨asStr, fun d x e => by cases d <;> first | (cases e; rfl) | cases e⟩
instance : UD PyData := ⟨some, fun d x e => by cases e; rfl⟩
def unAll {α : Type} [TD α] [UD α] : List PyData → Option (List α)
  | [] => some []
  | d :: ds => (UD.un d).bind fun x => (unAll ds).bind fun xs => some (x :: xs)
theorem unAll_ok {α : Type} [TD α] [UD α] : ∀ (ds : List PyData) (xs : List α), unAll ds = some xs → xs.map TD.d = ds
  | [], xs, e => by cases e; rfl
  | d :: ds, xs, e => by
    obtain ⟨x, hx, e⟩ := Option.bind_eq_some_iff.mp e
    obtain ⟨ys, hy, e⟩ := Option.bind_eq_some_iff.mp e
    cases e
    rw [List.map_cons, UD.ok d x hx, unAll_ok ds ys hy]
instance {α : Type} [TD α] [UD α] : UD (List α) := ⟨fun d => match d with | .list ds => unAll ds | _ => none, fun d xs e => by
  cases d with
  | list ds => exact congrArg PyData.list (unAll_ok ds xs e)
  | _ => cases e⟩
instance {α β : Type} [TD α] [UD α] [TD β] [UD β] : UD (α × β) := ⟨fun d => match d with | .tuple [a, b] => (UD.un a).bind fun x => (UD.un b).bind fun y => some (x, y) | _ => none, fun d p e => by
  match d, e with
  | .tuple [a, b], e =>
    obtain ⟨x, hx, e⟩ := Option.bind_eq_some_iff.mp e
    obtain ⟨y, hy, e⟩ := Option.bind_eq_some_iff.mp e
    cases e
    show PyData.tuple [TD.d x, TD.d y] = _
    rw [UD.ok a x hx, UD.ok b y hy]⟩
theorem un_of {α : Type} [TD α] [UD α] {F : Hp} {v : V} {d : PyData} {x : α} (h : RD F v d) (e : UD.un d = some x) : R F v x := by
  show RD F v (TD.d x)
  rw [UD.ok d x e]; exact h
/-! #### what the text says of a class -/
abbrev veT : List Value := [.type "ValueError", .type "Exception", .type "BaseException", .type "object"]
/-- made and raised -/
structure ErRaise (K : PySem.W.Frag) (mg : Str → Option Value) (n : Str) (C : Addr) : Prop where
  g : mg n = some (.ref C)
  x : PySem.W.excIn K C veT "ValueError.__new__" = true
  k : PySem.W.keepIn K (.ref C) = true
  b : PySem.W.subIn K (.ref C) (.type "BaseException") = some true
  t : PySem.W.typeIn K (.ref C) = some (.type "type")
def ers : List Er := [.NoBase, .NoNumber, .NoFigures, .NoRule, .NoStand, .NoGood, .Endless, .NoRules, .NoStretch, .TooMany, .NoText, .NoName, .NoRow]
def adOf (a1 a2 a3 a4 a5 a6 a7 a8 a9 a10 a11 a12 a13 : Addr) : Er → Addr
  | .NoBase => a1 | .NoNumber => a2 | .NoFigures => a3 | .NoRule => a4 | .NoStand => a5 | .NoGood => a6 | .Endless => a7
  | .NoRules => a8 | .NoStretch => a9 | .TooMany => a10 | .NoText => a11 | .NoName => a12 | .NoRow => a13
theorem mem_ers (e : Er) : e ∈ ers := by cases e <;> decide
@[reducible] def Er.nm : Er → Str
  | .NoBase => "NoBase" | .NoNumber => "NoNumber" | .NoFigures => "NoFigures" | .NoRule => "NoRule" | .NoStand => "NoStand" | .NoGood => "NoGood" | .Endless => "Endless"
  | .NoRules => "NoRules" | .NoStretch => "NoStretch" | .TooMany => "TooMany" | .NoText => "NoText" | .NoName => "NoName" | .NoRow => "NoRow"
/-- what is asked of the written part, class by class -/
def erB (K : PySem.W.Frag) (L C : Addr) : Bool :=
  PySem.W.excIn K C veT "ValueError.__new__" && (PySem.W.keepIn K (.ref C) && (PySem.W.subIn K (.ref C) (.type "BaseException") == some true && (PySem.W.typeIn K (.ref C) == some (.type "type") &&
  (PySem.W.findIn K (.ref C) "__getattribute__" == some (some (.builtin "BaseException.__getattribute__")) && (PySem.W.findIn K (.ref C) "__getattr__" == some none && (PySem.W.hasDictIn K C &&
  (PySem.W.findIn K (.ref C) "__class__" == some (some (.builtin "object.__class__")) && (PySem.W.mroIn K C (.type "object") == some true && (PySem.W.exmOne K (.ref C) (.ref L) == some true &&
  (PySem.W.kitOne K (.type "NoneType") (.ref C) == some false && PySem.W.kitOne K (.ref C) (.type "ValueError") == some true))))))))))
def erAllB [ErT] (K : PySem.W.Frag) : Bool :=
  ers.all (fun e => erB K ErT.lack (ErT.ad e) && ers.all fun f => PySem.W.kitOne K (.ref (ErT.ad e)) (.ref (ErT.ad f)) == some (decide (e = f))) &&
  (PySem.W.specialIn K (.builtin "object.__class__") "__get__" == some (some (.builtin "getset_descriptor.__get__")) && (PySem.W.takesIn K (.builtin "object.__class__") == some true && PySem.W.kitOne K (.type "NoneType") (.type "ValueError") == some false))
/-- what the text says of all its exceptions -/
structure ErTxt [ErT] (K : PySem.W.Frag) (mg : Str → Option Value) : Prop where
  r : ∀ e : Er, ErRaise K mg e.nm (ErT.ad e)
  lg : mg "LackError" = some (.ref ErT.lack)
  c : ∀ e : Er, ExcC K (ErT.ad e)
  m : ∀ e : Er, PySem.W.exmOne K (.ref (ErT.ad e)) (.ref ErT.lack) = some true
  kit : ∀ e f : Er, PySem.W.kitOne K (.ref (ErT.ad e)) (.ref (ErT.ad f)) = some (decide (e = f))
  non : ∀ f : Er, PySem.W.kitOne K (.type "NoneType") (.ref (ErT.ad f)) = some false
  ve : ∀ e : Er, PySem.W.kitOne K (.ref (ErT.ad e)) (.type "ValueError") = some true
  nv : PySem.W.kitOne K (.type "NoneType") (.type "ValueError") = some false
theorem erTxt_mk [ErT] {K : PySem.W.Frag} {mg : Str → Option Value} (b : erAllB K = true) (g : ∀ e : Er, mg e.nm = some (.ref (ErT.ad e))) (lg : mg "LackError" = some (.ref ErT.lack)) : ErTxt K mg := by
  unfold erAllB at b
  simp only [Bool.and_eq_true, beq_iff_eq] at b
  obtain ⟨b1, b2, b3, b4⟩ := b
  have b1 := fun e => List.all_eq_true.mp b1 e (mem_ers e)
  simp only [Bool.and_eq_true] at b1
  have h := fun e => (b1 e).1
  unfold erB at h
  simp only [Bool.and_eq_true, beq_iff_eq] at h
  exact ⟨fun e => ⟨g e, (h e).1, (h e).2.1, (h e).2.2.1, (h e).2.2.2.1⟩, lg, fun e => ⟨(h e).2.2.2.2.1, (h e).2.2.2.2.2.1, (h e).2.2.1, (h e).2.2.2.2.2.2.1, (h e).2.2.2.2.2.2.2.1, b2, b3, (h e).2.2.2.2.2.2.2.2.1⟩,
    fun e => (h e).2.2.2.2.2.2.2.2.2.1, fun e f => by
      have := List.all_eq_true.mp (b1 e).2 f (mem_ers f)
      exact beq_iff_eq.mp this, fun f => (h f).2.2.2.2.2.2.2.2.2.2.1, fun e => (h e).2.2.2.2.2.2.2.2.2.2.2, b4⟩
section
variable {X : Cx}
theorem ps_raiseE {W : WX} {x m : Str} {C : Addr} {j : Nat} {p p2 p3 pos : Pos} (hc : X.calm = true) (tk : Takes X W) (T : ErRaise X.K X.mg x C) (hg : Gl X x) (hdb : (x == ("__debug__" : Str)) = false := by decide) :
    PS X (.Raise (some (.Call (.Name x p) [.Constant (.str m) j p2] [] p3)) none pos) (fun _ σ H => W (.ref C) none σ H) :=
  ps_raise hc tk (pmk_own PySem.F.excBase_ValueError T.x T.g T.k (raises_own T.b T.t) hg hdb)
theorem takesN : Takes X (fun _ _ _ _ => False) := fun _ _ x => by
  obtain ⟨_, _, _, _, _, _, _, _, _, _, _, _, _, _, _, _, z⟩ := x
  exact z.elim
end

/-! #### a try whose except suite keeps what was raised -/
section
variable {X : Cx} {pins : List (Addr × Obj)} {σ : L2.St} {H : Hp} {sI s s' : Shared} {B : Heap}
/-- on the ground, the exception tracked from here on -/
theorem landedX (I : Inv X pins σ H sI) (nb : ∀ b o, sI.heap.get? b = some o → b ∉ frs X.stack → B.get? b = some o) (st : B.StaysIn s'.heap) (up : sI.heap.UpToSlots s'.heap) (os : s'.os = sI.os) (ag : AllBare s'.gens)
    {a C : Addr} {oe : Obj} {vs : Array Value} (hB : B.get? a = none) (nf : a ∉ frs X.stack) (na : H a = none) (he : s'.heap.get? a = some oe) (hz : Zc (.ref C) none oe) (hd : oe.data = .fields vs) : Inv X pins σ (upd H a (EV C a)) s' := by
  have hI : ∀ b o, sI.heap.get? b = some o → b ≠ a := fun b o e z => by
    subst z
    have := nb b o e nf
    rw [hB] at this; cases this
  have nF : ∀ b ∈ frs X.stack, ∀ o, sI.heap.get? b = some o → ∃ sl, s'.heap.get? b = some { o with slots := sl } := fun b hb o e => by
    obtain ⟨_, o', e', hdd⟩ := I.stack.mem hb
    rw [e] at e'; cases e'
    exact up b o e hdd
  have J := I.call (ch := []) (h' := s'.heap) (g' := s'.gens) (t' := s'.toks) (d' := s'.drawn) (H' := upd H a (EV C a))
    ⟨fun b o e _ hb _ => st b o (nb b o e hb), fun b o e _ hb _ => nF b hb o e, fun b o e n _ => by rw [upd_ne (hI b o e)]; exact n, fun b o e _ => by
      by_cases hb : b ∈ frs X.stack
      · obtain ⟨sl, q⟩ := nF b hb o e
        exact ⟨_, q⟩
      · exact ⟨o, st b o (nb b o e hb)⟩, fun b xs e => by rw [upd_ne (ne_of_none e na)]; exact e, fun b o u e => by rw [upd_ne (ne_of_none e na)]; exact e, fun b ps e => ⟨#[], by rw [upd_ne (ne_of_none e na), e]; simp⟩⟩
    (HOk.laidN (I.inGround nb) st na (EV_ok he hz hd)) ag (fun _ z => nomatch z)
  obtain ⟨a1, a2, a3, a4, a5⟩ := s'
  have e5 : a5 = sI.os := os
  subst e5
  exact J
theorem toSuite (I : Inv X pins σ H s) (a : Addr) : Inv (X.suite a (X.pn ++ pins)) [] σ H s :=
  ⟨I.ok.suite _ _, I.os, I.bare, I.base, I.loc, I.cell, I.free, I.freeC, fun p hp => I.pin p (by rw [List.append_nil] at hp; exact hp), I.hok, I.len⟩
theorem ofSuite {a : Addr} {pn' : List (Addr × Obj)} (I : Inv (X.suite a (X.pn ++ pins)) pn' σ H s) (ok : X.Ok) : Inv X pins σ H s :=
  ⟨ok, I.os, I.bare, I.base, I.loc, I.cell, I.free, I.freeC, fun p hp => I.pin p (List.mem_append_left _ hp), I.hok, I.len⟩
end
/-- the wish of such a clause: any exception of the text that L takes in -/
def wKeep (K : PySem.W.Frag) (L : Value) (i : Nat) (ts : TS) (D : Ends) : WX := fun cls d σ H =>
  ∃ C, cls = .ref C ∧ d = none ∧ PySem.W.exmOne K cls L = some true ∧
    ∀ a, H a = none → ts { nx := fun σ' H' => D.nx (σ'.set i none) H', rt := D.rt, bk := fun σ' H' => D.bk (σ'.set i none) H', ct := fun σ' H' => D.ct (σ'.set i none) H' } (σ.set i (some (.ref a))) (upd H a (EV C a))
section
variable {X : Cx} {x n : Str} {L : Value} {i : Nat} {body suite : List Stmt} {b₀ : Stmt} {np pos pos' : Pos} {tb : WX → TS} {ts : TS}
theorem ps_try_keep (hs : X.stack = X.env :: X.outer) (hf : X.env.frame = some X.env.locals) (hN : X.N.Nodup) (hi : X.N[i]? = some n) (hln : X.env.kindOf n = some .local) (hc : Names X x L)
    (hb : ∀ (W : WX) (pn : List (Addr × Obj)) (xe : Value → Shared → Prop), Takes (X.tr pn xe) W → PassesOwn (model X.prog X.w) X.A X.env xe → PSs (X.tr pn xe) body (tb W))
    (hsu : ∀ (a : Addr) (pn : List (Addr × Obj)), PSs (X.suite a pn) (b₀ :: suite) ts) :
    PS X (.Try body [.ExceptHandler (some (.Name x np)) (some n) (b₀ :: suite) pos'] [] [] pos) (fun D σ H => tb (wKeep X.K L i ts D) D σ H) := by
  constructor
  intro pins s σ H D I h
  have ok := I.ok
  have hfr : X.A.frames = some (X.env :: X.outer) := by rw [ok.frames, hs]
  refine wpAny_Try_except (wpAny_mono ((hb (wKeep X.K L i ts D) (X.pn ++ pins) _ (fun u s' raised => ?_) PassesOwn.looking).run [] s σ H D (I.toTry _) h) (fun f s1 hsp => ?_) (fun e s1 he => he))
  · obtain ⟨a, B, sI, pins', σ', H', cls, d, rfl, J', nb, up, sky, na, os, ag, C, rfl, rfl, hm, hyes⟩ := raised
    have J : Inv X pins σ' H' sI := J'.ofTry ok
    have sky' : Sky B (X.env :: X.outer) a (Zc (.ref C) none) X.env.locals s'.heap := by rw [← hs]; exact sky
    show wpAny (model X.prog X.w) X.A (noteFrame (.ref a) X.env) _ _ _
    refine Sky.land Zc.steady hfr hf sky' fun h3 fl3 up3 => ?_
    have J3 : Inv X pins σ' H' { s' with heap := h3 } := J.landed nb fl3.1 (up.trans up3) os ag
    obtain ⟨oe3, vs3, he3, hz3, hd3⟩ := fl3.there
    have nfr : a ∉ frs X.stack := fun hmem => by
      rw [hs] at hmem
      obtain ⟨_, o', e', hnf⟩ := fl3.2.2.1.mem hmem
      rw [he3] at e'; cases e'
      exact hnf _ hd3
    have S3 : Inv (X.suite a (X.pn ++ pins)) [] σ' H' { s' with heap := h3 } := toSuite J3 a
    refine wpAny_handleBy_cons (codeAny_handlers_test ?_) (by intro q; cases q)
    have LT : PySem.W.Looks (model X.prog X.w) h3 (typeOf (.ref a)) (.ref C) := fun A Q E s k q => wpAny_typeOf_ref (k _ _ he3) (by rw [hz3.1]; exact q)
    have LM := PySem.W.exm_one (M := model X.prog X.w) (J3.kIn) LT hm
    have test : ∀ {Q : Value → Shared → Prop} {E : Value → Shared → Prop}, Q L { s' with heap := h3 } → wpAny (model X.prog X.w) (X.A.mark (some (.ref a))) (eval (.Name x np) X.env) Q E { s' with heap := h3 } := fun {Q E} q => by
      obtain ⟨hg, hdbg, hm | ⟨hm, hv, hnn⟩⟩ := hc
      · exact ld_glob (X := X.suite a (X.pn ++ pins)) S3 hg hm q hdbg
      · exact ld_blt (X := X.suite a (X.pn ++ pins)) S3 hg hm hv q hnn hdbg
    refine test (LM.here ?_)
    refine codeAny_handlers_suite_as ?_
    refine HandSPX.lands_againZ fl3 fun h4 fl4 up4 => ?_
    obtain ⟨oe4, vs4, he4, hz4, hd4⟩ := fl4.there
    have J4 : Inv X pins σ' (upd H' a (EV C a)) { s' with heap := h4 }   := landedX (s' := { s' with heap := h4 }) J nb fl4.1 ((up.trans up3).trans up4) os ag fl4.2.1 nfr na he4 hz4 hd4
    refine store_ok (X := X.suite a (X.pn ++ pins)) (v := .ref a) (toSuite J4 a) hN hi (.inl hln) rfl (fun s5 S5 => ?_) (.inr hln)
    refine wpAny_mono ((hsu a (X.pn ++ pins)).run [] s5 _ _ _ S5 (hyes a na)) (fun f s6 hsp => ?_) (fun _ _ z => False.elim z)
    have fin : ∀ {σ6 : L2.St} {H6 : Hp} {Q : Shared → Prop}, Inv (X.suite a (X.pn ++ pins)) [] σ6 H6 s6 → (∀ s7, Inv X pins (σ6.set i none) H6 s7 → Q s7) →
        wpAny (model X.prog X.w) X.A (do bindName X.env n .none; unbindBehindTheSuite X.env n pos') (fun _ s7 => Q s7) X.xe s6 := fun {σ6 H6 Q} S6 hq => gone_ok (ofSuite S6 ok) hN hi hln hq
    match f, hsp with
    | .next, ⟨_, _, S6, q6⟩ => exact fin S6 fun s7 J7 => ⟨_, _, J7, q6⟩
    | .brk, ⟨_, _, S6, q6⟩ => exact fin S6 fun s7 J7 => ⟨_, _, J7, q6⟩
    | .cont, ⟨_, _, S6, q6⟩ => exact fin S6 fun s7 J7 => ⟨_, _, J7, q6⟩
    | .ret _, ⟨_, _, _, S6, r6, q6⟩ => exact fin S6 fun s7 J7 => ⟨_, _, _, J7, r6, q6⟩
  · match f, hsp with
    | .next, ⟨σ', H', J', q⟩ => exact wpAny_execs_nil ⟨σ', H', J'.ofTry ok, q⟩
    | .brk, ⟨σ', H', J', q⟩ => exact ⟨σ', H', J'.ofTry ok, q⟩
    | .cont, ⟨σ', H', J', q⟩ => exact ⟨σ', H', J'.ofTry ok, q⟩
    | .ret _, ⟨v, σ', H', J', r, q⟩ => exact ⟨v, σ', H', J'.ofTry ok, r, q⟩
end

/-! #### isinstance of what was kept -/
section
variable [ErT] {X : Cx}
/-- isinstance(x, c): x an exception kept, or None -/
def rIsX (K : PySem.W.Frag) : List V → Hp → VK → Prop := fun xs H Q => ∃ (F : Hp) (x c : V) (u : Value) (o : Option Er) (f : Er → Bool), xs = [x, c] ∧ ClsV c u ∧ Sub F H ∧ RX F x o ∧
  PySem.W.kitOne K (.type "NoneType") u = some false ∧ (∀ e, ExcC K (ErT.ad e) ∧ PySem.W.kitOne K (.ref (ErT.ad e)) u = some (f e)) ∧ Q (.bl (match o with | none => false | some e => f e)) H
theorem call_isX : CallR X (.builtin "isinstance") (rIsX X.K) := by
  intro pins s σ H xs us Q I r h
  obtain ⟨F, x, c, u, o, f, rfl, hc, sb, hx, kn, ke, q⟩ := h
  cases o with
  | none =>
    cases (show x = .non from hx)
    exact call_isi pins s σ H _ us Q I r ⟨_, _, _, _, _, rfl, hc, TyX.base .non, kn, q⟩
  | some e =>
    obtain ⟨a, rfl, ha⟩ := hx
    obtain ⟨kc, kf⟩ := ke e
    cases r with
    | cons rx rr =>
      cases rr with
      | cons rt rr =>
        cases rr
        cases rx
        have ec := hc.eq rt
        subst ec
        obtain ⟨⟨oe, vs, hget, hz, hv⟩, _, _⟩ := I.hok a _ (sb _ _ ha)
        have J : PySem.W.InstAt s.heap a oe (ErT.ad e) none := by
          obtain ⟨oc, od, oda, osl⟩ := oe
          obtain ⟨h1, h2⟩ := hz
          dsimp only at h1 h2 hv
          subst h1 h2 hv
          exact ⟨hget, rfl, rfl, trivial⟩
        exact PySem.W.kia_one (PySem.W.handS_kitx_exc kc.hg kc.hk kc.hs kc.hd kc.ha kc.hn kc.ht kc.hm) I.kIn J kf (fun z => nomatch z) fun tk => ⟨.bl (f e), H, I.kept (t' := tk) fun _ _ z => z, rfl, q⟩
end
/-! #### steps -/
theorem x_callS {σ : L2.St} {H : Hp} {Q : VK} {tA : TA} {sp : Sp} {E : L2.St → XK} (h : tA σ H fun vs H1 => sp vs H1 Q (E σ)) : tCallS sp E tA σ H Q := h
section
variable [ErT] {K : PySem.W.Frag} {mg : Str → Option Value}
theorem x_keep {i : Nat} {ts : TS} {D : Ends} {σ : L2.St} {H : Hp} {e : Er} (T : ErTxt K mg)
    (h : ∀ a, H a = none → ts { nx := fun σ' H' => D.nx (σ'.set i none) H', rt := D.rt, bk := fun σ' H' => D.bk (σ'.set i none) H', ct := fun σ' H' => D.ct (σ'.set i none) H' } (σ.set i (some (.ref a))) (upd H a (EV (ErT.ad e) a))) :
    WE (wKeep K (.ref ErT.lack) i ts D) σ (.ref (ErT.ad e)) none H := ⟨_, rfl, rfl, T.m e, h⟩
theorem x_stE {t : TS} {D : Ends} {σ σ' : L2.St} {H : Hp} (e : σ = σ') (h : t D σ' H) : t D σ H := by rw [e]; exact h
theorem x_nxS {D : Ends} {i : Nat} {σ σ' : L2.St} {H : Hp} (e : σ.set i none = σ') (h : D.nx σ' H) : ({ nx := fun σ' H' => D.nx (σ'.set i none) H', rt := D.rt, bk := fun σ' H' => D.bk (σ'.set i none) H', ct := fun σ' H' => D.ct (σ'.set i none) H' } : Ends).nx σ H := by
  show D.nx (σ.set i none) H
  rw [e]; exact h
theorem x_nxE {σ σ' : L2.St} {H : Hp} {P : L2.St → Hp → Prop} (e : σ = σ') (h : P σ' H) : P σ H := by rw [e]; exact h
theorem isiX_er {F H : Hp} {v : V} {o : Option Er} {Q : VK} (T : ErTxt K mg) (s : Sub F H) (h : RX F v o) (f : Er) (q : Q (.bl (decide (o = some f))) H) : rIsX K [v, .ref (ErT.ad f)] H Q :=
  ⟨F, v, _, _, o, fun e => decide (e = f), rfl, ClsV.own _, s, h, T.non f, fun e => ⟨T.c e, T.kit e f⟩, by
    cases o with
    | none => exact q
    | some e =>
      have : decide (some e = some f) = decide (e = f) := decide_eq_decide.mpr Option.some_inj
      rw [this] at q; exact q⟩
theorem isiX_ve {F H : Hp} {v : V} {o : Option Er} {Q : VK} (T : ErTxt K mg) (s : Sub F H) (h : RX F v o) (q : Q (.bl o.isSome) H) : rIsX K [v, .ty "ValueError"] H Q :=
  ⟨F, v, _, _, o, fun _ => true, rfl, ClsV.ty _, s, h, T.nv, fun e => ⟨T.c e, T.ve e⟩, by cases o <;> exact q⟩
theorem RX_none {F : Hp} : RX F .non none := rfl
end

/-! #### dict([(k, v), ..]) of ints -/
def putI (kvs : List (Int × Int)) (k v : Int) : List (Int × Int) :=
  if (kvs.any fun p => decide (p.1 = k)) = true then kvs.map (fun p => if p.1 = k then (p.1, v) else p) else kvs ++ [(k, v)]
def mergeI (kvs more : List (Int × Int)) : List (Int × Int) := more.foldl (fun acc p => putI acc p.1 p.2) kvs
def kvI (p : Int × Int) : Key × V := (.inl p.1, .int p.2)
theorem putK_kvI (kvs : List (Int × Int)) (k v : Int) : putK (kvs.map kvI) (.inl k) (.int v) = (putI kvs k v).map kvI := by
  have e : ((kvs.map kvI).any fun kv => decide (kv.1 = (.inl k : Key))) = kvs.any fun p => decide (p.1 = k) := by
    rw [List.any_map]
    refine congrArg (fun f => kvs.any f) (funext fun p => ?_)
    exact decide_eq_decide.mpr ⟨fun h => Sum.inl.inj h, fun h => congrArg Sum.inl h⟩
  unfold putK putI
  rw [e]
  by_cases h : (kvs.any fun p => decide (p.1 = k)) = true
  · rw [if_pos h, if_pos h, List.map_map, List.map_map]
    refine List.map_congr_left fun p _ => ?_
    by_cases hk : p.1 = k
    · show (if (Sum.inl p.1 : Key) = .inl k then ((Sum.inl p.1 : Key), V.int v) else kvI p) = kvI (if p.1 = k then (p.1, v) else p)
      rw [if_pos hk, if_pos (congrArg Sum.inl hk)]; rfl
    · show (if (Sum.inl p.1 : Key) = .inl k then ((Sum.inl p.1 : Key), V.int v) else kvI p) = kvI (if p.1 = k then (p.1, v) else p)
      rw [if_neg hk, if_neg fun e => hk (Sum.inl.inj e)]
  · rw [if_neg h, if_neg h, List.map_append]; rfl
theorem mergeK_kvI : ∀ (more kvs : List (Int × Int)), mergeK (kvs.map kvI) (more.map kvI) = (mergeI kvs more).map kvI
  | [], _ => rfl
  | p :: more, kvs => by
    show mergeK (putK (kvs.map kvI) (.inl p.1) (.int p.2)) (more.map kvI) = (mergeI (putI kvs p.1 p.2) more).map kvI
    rw [putK_kvI, mergeK_kvI more]
theorem mergeK_nil (xs : List (Int × Int)) : mergeK [] (xs.map kvI) = (mergeI [] xs).map kvI := mergeK_kvI xs []
def dictII (xs : List (Int × Int)) : PyData := .dict ((mergeI [] xs).map fun p => (.int p.1, .int p.2))
theorem RKs_kvI {F : Hp} : ∀ kvs : List (Int × Int), RKs F (kvs.map kvI) (kvs.map fun p => (PyData.int p.1, PyData.int p.2))
  | [] => .nil
  | p :: kvs => .int (.int _) (RKs_kvI kvs)
theorem pairs_of {K : PySem.W.Frag} {F H : Hp} (s : Sub F H) : ∀ {us : List V} {xs : List (Int × Int)}, Rs F us xs → ∃ ps : List Addr, us = ps.map V.ref ∧ Paired (fun p kv => SqT K H p [kV kv.1, kv.2]) ps (xs.map kvI)
  | _, [], r => by cases r; exact ⟨[], rfl, .nil⟩
  | _, x :: xs, r => by
    cases r with
    | cons h r =>
      obtain ⟨ps, rfl, hp⟩ := pairs_of (K := K) s (xs := xs) r
      obtain ⟨a, v1, v2, rfl, fa, d1, d2⟩ := tup2_of (α := Int) (β := Int) h
      obtain rfl := int_of d1
      obtain rfl := int_of d2
      exact ⟨a :: ps, rfl, .cons (.inl (.inl (s _ _ fa))) hp⟩
theorem dictII_of {K : PySem.W.Frag} {F H : Hp} {a : Addr} {us : List V} {xs : List (Int × Int)} {Q : VK} (h : H a = some (.lst us)) (s : Sub F H) (r : Rs F us xs) (q : ∀ p, H p = none → Q (.ref p) (upd H p (.dK ((mergeI [] xs).map kvI)))) :
    ∃ (a' : Addr) (ps : List Addr) (kvs : List (Key × V)), [V.ref a] = [.ref a'] ∧ SqL K H a' (ps.map V.ref) ∧ Paired (fun p kv => SqT K H p [kV kv.1, kv.2]) ps kvs ∧ ∀ p, H p = none → Q (.ref p) (upd H p (.dK (mergeK [] kvs))) := by
  obtain ⟨ps, rfl, hp⟩ := pairs_of (K := K) s r
  exact ⟨a, ps, xs.map kvI, rfl, .inl (.inl h), hp, fun p hn => by
    have e : mergeK [] (xs.map kvI) = (mergeI [] xs).map kvI := mergeK_kvI xs []
    rw [e]; exact q p hn⟩
end My

namespace My
open PySem PySem.Spec PyProof.Rows L2
def topS (i : Nat) : Stmt := PySem.Challenge.pw_lackstretch_k09_no_rules_no_stands_no_fi.main.body.getD i (.Pass ⟨0, 0, 0, 0⟩)
abbrev s__law_lacks : Stmt := topS 40
abbrev s__law_all : Stmt := topS 47
abbrev s__law_deck : Stmt := topS 37
abbrev s__law_draw : Stmt := topS 38
abbrev s__law_is_rule : Stmt := topS 45
abbrev s__law_is_stand : Stmt := topS 49
abbrev s__law_no_base : Stmt := topS 41
abbrev s__law_odd_figure : Stmt := topS 42
abbrev s__law_no_rule : Stmt := topS 44
abbrev s__law_no_stand : Stmt := topS 48
abbrev s__law_odd_figures : Stmt := topS 43
abbrev s_is_whole : Stmt := topS 20
abbrev s_is_base : Stmt := topS 21
abbrev s_is_figure : Stmt := topS 22
abbrev s_are_figures : Stmt := topS 23
abbrev s_is_stretch : Stmt := topS 24
abbrev s_is_rule : Stmt := topS 25
abbrev s_need_rule : Stmt := topS 26
abbrev s_stands_in : Stmt := topS 27
abbrev s_lacks_all : Stmt := topS 28
abbrev s_stands_of : Stmt := topS 32
abbrev s_all_stands : Stmt := topS 34
abbrev s_ends_of : Stmt := topS 30
abbrev s_stand_of : Stmt := topS 31
abbrev s_stand_behind : Stmt := topS 33
abbrev s_step_from : Stmt := topS 35
abbrev s__law_caught : Stmt := topS 50
abbrev s__law_kinds : Stmt := topS 46
abbrev s__law_right : Stmt := topS 51
abbrev s__law_some_rule : Stmt := topS 39
abbrev s_law : Stmt := topS 52
def _law_lacks_b3 (figures : (List Int)) (t1 : Int) : Unit → (List Int) → (Unit → Option Bool) → Option Bool
  | _, t2, next2 => (if (eqT (cutT figures (some t1) (some (t1 + (t2.length : Int)))) t2) = true then (some false) else (next2 ()))
def _law_lacks_e4 (next1 : (Unit → Option Bool)) : Unit → Option Bool
  | _ => (next1 ())
def _law_lacks_b1 (figures : (List Int)) (bad : (List (List Int))) : Unit → Int → (Unit → Option Bool) → Option Bool
  | _, t1, next1 => (forK (_law_lacks_b3 figures t1) (bad) () (_law_lacks_e4 next1))
def _law_lacks_e2 : Unit → Option Bool
  | _ => (some true)
def _law_lacks (bad : (List (List Int))) (figures : (List Int)) : Option Bool :=
  (if Rg1 (figures.length : Int) then (forK (_law_lacks_b1 figures bad) (irange 0 (figures.length : Int)) () (_law_lacks_e2)) else none)

def _law_all_b3 (t1 : (List Int)) (bad : (List (List Int))) : (List (List Int)) → Int → ((List (List Int)) → Option (List (List Int))) → Option (List (List Int))
  | x2, t2, next2 => (if (!memT (cutT t1 none (some t2)) x2) = true then ((_law_lacks bad (cutT t1 none (some t2))).bind fun r1 => (if r1 = true then (if x2.length < 16777216 then (next2 (x2 ++ [(cutT t1 none (some t2))])) else none) else (next2 x2))) else (next2 x2))
def _law_all_e4 (next1 : ((List (List Int)) → Option (List (List Int)))) : (List (List Int)) → Option (List (List Int))
  | x2 => (next1 x2)
def _law_all_b1 (bad : (List (List Int))) : (List (List Int)) → (List Int) → ((List (List Int)) → Option (List (List Int))) → Option (List (List Int))
  | x1, t1, next1 => (if Rg2 (1 : Int) (t1.length : Int) then (forK (_law_all_b3 t1 bad) (irange (1 : Int) (t1.length : Int)) x1 (_law_all_e4 next1)) else none)
def _law_all_e2 : (List (List Int)) → Option (List (List Int))
  | x1 => (some x1)
def _law_all (bad : (List (List Int))) : Option (List (List Int)) :=
  (forK (_law_all_b1 bad) (bad) ([([] : (List Int))] : (List (List Int))) (_law_all_e2))

def _law_is_rule_b3 (x9 : Int) : Unit → PyData → (Unit → Option Bool) → Option Bool
  | _, t3, next2 => (if (!(isIntD t3)) = true then (some false) else (if (isBlD t3) = true then (some false) else ((asInt t3).bind fun x15 => (if (decide ((0 : Int) ≤ x15)) = true then (if (!(decide (x15 < x9))) = true then (some false) else (next2 ())) else (some false)))))
def _law_is_rule_e4 (t1 : (PyData × Nat)) (thing : PyData) (next1 : (Unit → Option Bool)) : Unit → Option Bool
  | _ => (if (decide ((0 : Int) < ((t1).2 : Int))) = true then ((asSeq thing).bind fun x16 => ((atI x16 (1 : Int)).bind fun x17 => ((asSeq x17).bind fun x18 => ((atI x18 (((t1).2 : Int) - (1 : Int))).bind fun x19 => (if LtOk x19 (t1).1 then (if (!(PySem.W.dataLt x19 (t1).1)) = true then (some false) else (next1 ())) else none))))) else (next1 ()))
def _law_is_rule_b1 (x9 : Int) (thing : PyData) : Unit → (PyData × Nat) → (Unit → Option Bool) → Option Bool
  | _, t1, next1 => (if (!(isLstD (t1).1)) = true then (some false) else ((asSeq (t1).1).bind fun x13 => (if (decide ((1 : Int) ≤ (x13.length : Int))) = true then (if (!(decide ((x13.length : Int) ≤ (4 : Int)))) = true then (some false) else ((asLst (t1).1).bind fun x14 => (forK (_law_is_rule_b3 x9) (x14) () (_law_is_rule_e4 t1 thing next1)))) else (some false))))
def _law_is_rule_e2 : Unit → Option Bool
  | _ => (some true)
def _law_is_rule (thing : PyData) : Option Bool :=
  (if (!(isTupD thing)) = true then (some false) else ((asSeq thing).bind fun x1 => (if ((!decide ((x1.length : Int) = (2 : Int)))) = true then (some false) else ((asSeq thing).bind fun x2 => ((atI x2 (1 : Int)).bind fun x3 => (if (!(isLstD x3)) = true then (some false) else ((asSeq thing).bind fun x4 => ((atI x4 (1 : Int)).bind fun x5 => ((asSeq x5).bind fun x6 => (if (decide ((4 : Int) < (x6.length : Int))) = true then (some false) else ((asSeq thing).bind fun x7 => ((atI x7 (0 : Int)).bind fun x8 => (if (!(isIntD x8)) = true then (some false) else (if (isBlD x8) = true then (some false) else ((asInt x8).bind fun x9 => (if (decide ((2 : Int) ≤ x9)) = true then (if (!(decide (x9 ≤ (16 : Int)))) = true then (some false) else ((asSeq thing).bind fun x10 => ((atI x10 (1 : Int)).bind fun x11 => ((asLst x11).bind fun x12 => (forK (_law_is_rule_b1 x9 thing) (List.zipIdx x12 0) () (_law_is_rule_e2)))))) else (some false)))))))))))))))))

def _law_is_stand_c1 : (List Bool) → PyData → ((List Bool) → Option Bool) → Option Bool
  | x3, t1, next1 => (if (isIntD t1) = true then (if x3.length < 16777216 then (next1 (x3 ++ [(!(isBlD t1))])) else none) else (if x3.length < 16777216 then (next1 (x3 ++ [false])) else none))
def _law_is_stand_k2 (rule : (Int × (List (List Int)))) (thing : PyData) : (List Bool) → Option Bool
  | x3 => (if (!memT false x3) = true then ((_law_all ((rule).2)).bind fun r1 => (((UD.un (α := (List Int))) thing).bind fun x4 => (some (memT x4 r1)))) else (some false))
def _law_is_stand (rule : (Int × (List (List Int)))) (thing : PyData) : Option Bool :=
  (if (!(isLstD thing)) = true then (some false) else ((asLst thing).bind fun x1 => (forK (_law_is_stand_c1) (x1) [] (_law_is_stand_k2 rule thing))))


def _law_no_base (st : DkS)  : Option (PyData × DkS) :=
  ((_law_draw st (90 : Int)).bind fun (r1, st1) => ((_law_draw st1 (90 : Int)).bind fun (r2, st2) => ((some (([(PyData.int (1 : Int)), (PyData.int (0 : Int)), (PyData.int (-(2 : Int))), (PyData.int (17 : Int)), (PyData.int ((17 : Int) + r1)), (PyData.int ((-(1 : Int)) - r2)), (PyData.int ((10 : Int) ^ (25 : Int).toNat)), (PyData.bool true), (PyData.bool false), PyData.none, (PyData.str ("10" : Str)), (PyData.list (([(10 : Int)] : (List Int)).map fun z => (PyData.int z)))] : (List PyData)))).bind fun x1 => (if x1.length + ([(PyData.tuple [(PyData.int (10 : Int))]), (PyData.dict []), (PyData.str ("" : Str)), (PyData.list ([] : (List PyData)))] : (List PyData)).length ≤ 16777216 then ((_law_draw st2 (16 : Int)).bind fun (r3, st3) => ((atI (x1 ++ ([(PyData.tuple [(PyData.int (10 : Int))]), (PyData.dict []), (PyData.str ("" : Str)), (PyData.list ([] : (List PyData)))] : (List PyData))) r3).bind fun x2 => (some (x2, st3)))) else none))))


def _law_odd_figure (st : DkS) (base : Int) : Option (PyData × DkS) :=
  ((_law_draw st (30 : Int)).bind fun (r1, st1) => ((_law_draw st1 (9 : Int)).bind fun (r2, st2) => ((some (([(PyData.int base), (PyData.int (base + r1)), (PyData.int (-(1 : Int))), (PyData.int ((-(1 : Int)) - r2)), (PyData.bool true), (PyData.bool false), PyData.none, (PyData.str ("0" : Str)), (PyData.str ("a" : Str)), (PyData.list (([(0 : Int)] : (List Int)).map fun z => (PyData.int z))), (PyData.tuple [(PyData.int (0 : Int))]), (PyData.dict [])] : (List PyData)))).bind fun x1 => (if x1.length + ([(PyData.str ("" : Str)), (PyData.int ((10 : Int) ^ (25 : Int).toNat)), (PyData.int (-((10 : Int) ^ (25 : Int).toNat))), (PyData.list ([] : (List PyData)))] : (List PyData)).length ≤ 16777216 then ((_law_draw st2 (16 : Int)).bind fun (r3, st3) => ((atI (x1 ++ ([(PyData.str ("" : Str)), (PyData.int ((10 : Int) ^ (25 : Int).toNat)), (PyData.int (-((10 : Int) ^ (25 : Int).toNat))), (PyData.list ([] : (List PyData)))] : (List PyData))) r3).bind fun x2 => (some (x2, st3)))) else none))))

def _law_no_rule_c1 : ((List (List Int)) × DkS) → Int → (((List (List Int)) × DkS) → Option (PyData × DkS)) → Option (PyData × DkS)
  | (x7, st5), t1, next1 => (if x7.length < 16777216 then (next1 ((x7 ++ [([t1] : (List Int))]), st5)) else none)
def _law_no_rule_k2 (x5 : (List PyData)) (rule : (Int × (List (List Int)))) (r1 : Int) : ((List (List Int)) × DkS) → Option (PyData × DkS)
  | (x7, st5) => (if x5.length + ([(PyData.list (((cutT (rule).2 none (some r1)) ++ (cutT (rule).2 (some (r1 + (1 : Int))) none)).map fun z => (PyData.list (z.map fun z => (PyData.int z))))), (PyData.tuple ((rule).2.map fun z => (PyData.list (z.map fun z => (PyData.int z))))), PyData.none, (PyData.dict []), (PyData.str ("" : Str)), (PyData.int (0 : Int)), (PyData.list (x7.map fun z => (PyData.list (z.map fun z => (PyData.int z))))), (PyData.list (([(rule).2] : (List (List (List Int)))).map fun z => (PyData.list (z.map fun z => (PyData.list (z.map fun z => (PyData.int z))))))), (PyData.tuple [(PyData.list ((rule).2.map fun z => (PyData.list (z.map fun z => (PyData.int z))))), (PyData.list ((rule).2.map fun z => (PyData.list (z.map fun z => (PyData.int z)))))])] : (List PyData)).length ≤ 16777216 then ((some ((x5 ++ ([(PyData.list (((cutT (rule).2 none (some r1)) ++ (cutT (rule).2 (some (r1 + (1 : Int))) none)).map fun z => (PyData.list (z.map fun z => (PyData.int z))))), (PyData.tuple ((rule).2.map fun z => (PyData.list (z.map fun z => (PyData.int z))))), PyData.none, (PyData.dict []), (PyData.str ("" : Str)), (PyData.int (0 : Int)), (PyData.list (x7.map fun z => (PyData.list (z.map fun z => (PyData.int z))))), (PyData.list (([(rule).2] : (List (List (List Int)))).map fun z => (PyData.list (z.map fun z => (PyData.list (z.map fun z => (PyData.int z))))))), (PyData.tuple [(PyData.list ((rule).2.map fun z => (PyData.list (z.map fun z => (PyData.int z))))), (PyData.list ((rule).2.map fun z => (PyData.list (z.map fun z => (PyData.int z)))))])] : (List PyData))))).bind fun x8 => ((_law_draw st5 (16 : Int)).bind fun (r5, st6) => ((atI x8 r5).bind fun x9 => (if Rv ([((rule).1, x9)] : (List (Int × PyData))).length (6 : Int) then ((_law_no_base st6).bind fun (r6, st7) => (if (((List.replicate (6 : Int).toNat ([((rule).1, x9)] : (List (Int × PyData)))).flatten).map fun z => (PyData.tuple [(PyData.int (z).1), (z).2])).length + ([(PyData.tuple [r6, (PyData.list ((rule).2.map fun z => (PyData.list (z.map fun z => (PyData.int z)))))]), (PyData.tuple [(PyData.int (2 : Int)), (PyData.list ((rule).2.map fun z => (PyData.list (z.map fun z => (PyData.int z)))))]), (PyData.tuple [(PyData.int ((rule).1 - (1 : Int))), (PyData.list ((rule).2.map fun z => (PyData.list (z.map fun z => (PyData.int z)))))]), (PyData.list ([(PyData.int (rule).1), (PyData.list ((rule).2.map fun z => (PyData.list (z.map fun z => (PyData.int z)))))] : (List PyData)))] : (List PyData)).length ≤ 16777216 then ((some (((((List.replicate (6 : Int).toNat ([((rule).1, x9)] : (List (Int × PyData)))).flatten).map fun z => (PyData.tuple [(PyData.int (z).1), (z).2])) ++ ([(PyData.tuple [r6, (PyData.list ((rule).2.map fun z => (PyData.list (z.map fun z => (PyData.int z)))))]), (PyData.tuple [(PyData.int (2 : Int)), (PyData.list ((rule).2.map fun z => (PyData.list (z.map fun z => (PyData.int z)))))]), (PyData.tuple [(PyData.int ((rule).1 - (1 : Int))), (PyData.list ((rule).2.map fun z => (PyData.list (z.map fun z => (PyData.int z)))))]), (PyData.list ([(PyData.int (rule).1), (PyData.list ((rule).2.map fun z => (PyData.list (z.map fun z => (PyData.int z)))))] : (List PyData)))] : (List PyData))))).bind fun x10 => (if x10.length + ([(PyData.tuple [(PyData.int (rule).1)]), (PyData.tuple [(PyData.int (rule).1), (PyData.list ((rule).2.map fun z => (PyData.list (z.map fun z => (PyData.int z))))), (PyData.list ([] : (List PyData)))]), (PyData.tuple [(PyData.list ((rule).2.map fun z => (PyData.list (z.map fun z => (PyData.int z))))), (PyData.int (rule).1)]), (PyData.list ((rule).2.map fun z => (PyData.list (z.map fun z => (PyData.int z))))), (PyData.int (rule).1), PyData.none, (PyData.tuple []), (PyData.str ("" : Str)), (PyData.dict []), (PyData.tuple [(PyData.list (([(rule).1] : (List Int)).map fun z => (PyData.int z))), (PyData.list ((rule).2.map fun z => (PyData.list (z.map fun z => (PyData.int z)))))])] : (List PyData)).length ≤ 16777216 then ((some ((x10 ++ ([(PyData.tuple [(PyData.int (rule).1)]), (PyData.tuple [(PyData.int (rule).1), (PyData.list ((rule).2.map fun z => (PyData.list (z.map fun z => (PyData.int z))))), (PyData.list ([] : (List PyData)))]), (PyData.tuple [(PyData.list ((rule).2.map fun z => (PyData.list (z.map fun z => (PyData.int z))))), (PyData.int (rule).1)]), (PyData.list ((rule).2.map fun z => (PyData.list (z.map fun z => (PyData.int z))))), (PyData.int (rule).1), PyData.none, (PyData.tuple []), (PyData.str ("" : Str)), (PyData.dict []), (PyData.tuple [(PyData.list (([(rule).1] : (List Int)).map fun z => (PyData.int z))), (PyData.list ((rule).2.map fun z => (PyData.list (z.map fun z => (PyData.int z)))))])] : (List PyData))))).bind fun x11 => ((_law_draw st7 (20 : Int)).bind fun (r7, st8) => ((atI x11 r7).bind fun x12 => (some (x12, st8))))) else none)) else none)) else none)))) else none)
def _law_no_rule (st : DkS) (rule : (Int × (List (List Int)))) : Option (PyData × DkS) :=
  ((_law_draw st (((rule).2.length : Int) + (1 : Int))).bind fun (r1, st1) => (if (rule).2.length + ([([(0 : Int), (1 : Int)] : (List Int))] : (List (List Int))).length ≤ 16777216 then ((atI ((rule).2 ++ ([([(0 : Int), (1 : Int)] : (List Int))] : (List (List Int)))) r1).bind fun x1 => ((_law_draw st1 ((x1.length : Int) + (1 : Int))).bind fun (r2, st2) => ((_law_odd_figure st2 ((rule).1)).bind fun (r3, st3) => (if ((cutT x1 none (some r2)).map fun z => (PyData.int z)).length + ([r3] : (List PyData)).length ≤ 16777216 then (if (((cutT x1 none (some r2)).map fun z => (PyData.int z)) ++ ([r3] : (List PyData))).length + ((cutT x1 (some r2) none).map fun z => (PyData.int z)).length ≤ 16777216 then (if ((cutT x1 none (some r2)).map fun z => (PyData.int z)).length + ([r3] : (List PyData)).length ≤ 16777216 then (if (((cutT x1 none (some r2)).map fun z => (PyData.int z)) ++ ([r3] : (List PyData))).length + ((cutT x1 (some (r2 + (1 : Int))) none).map fun z => (PyData.int z)).length ≤ 16777216 then (if Rv ([(0 : Int)] : (List Int)).length (4 : Int) then (if x1.length + ((List.replicate (4 : Int).toNat ([(0 : Int)] : (List Int))).flatten).length ≤ 16777216 then ((some (([(PyData.list ((((cutT x1 none (some r2)).map fun z => (PyData.int z)) ++ ([r3] : (List PyData))) ++ ((cutT x1 (some r2) none).map fun z => (PyData.int z)))), (PyData.list ((((cutT x1 none (some r2)).map fun z => (PyData.int z)) ++ ([r3] : (List PyData))) ++ ((cutT x1 (some (r2 + (1 : Int))) none).map fun z => (PyData.int z)))), (PyData.list ((x1 ++ ((List.replicate (4 : Int).toNat ([(0 : Int)] : (List Int))).flatten)).map fun z => (PyData.int z))), (PyData.list ([] : (List PyData))), (PyData.tuple (x1.map fun z => (PyData.int z))), (PyData.list (([x1] : (List (List Int))).map fun z => (PyData.list (z.map fun z => (PyData.int z)))))] : (List PyData)))).bind fun x2 => (if (cutT x1 none (some r2)).length + (cutT x1 (some (r2 + (1 : Int))) none).length ≤ 16777216 then (if x1.length + ([(0 : Int)] : (List Int)).length ≤ 16777216 then (if x2.length + ([PyData.none, (PyData.int (0 : Int)), (PyData.str ("01" : Str)), (PyData.dict []), (PyData.list (((cutT x1 none (some r2)) ++ (cutT x1 (some (r2 + (1 : Int))) none)).map fun z => (PyData.int z))), (PyData.list ((x1 ++ ([(0 : Int)] : (List Int))).map fun z => (PyData.int z)))] : (List PyData)).length ≤ 16777216 then ((_law_draw st3 (12 : Int)).bind fun (r4, st4) => ((atI (x2 ++ ([PyData.none, (PyData.int (0 : Int)), (PyData.str ("01" : Str)), (PyData.dict []), (PyData.list (((cutT x1 none (some r2)) ++ (cutT x1 (some (r2 + (1 : Int))) none)).map fun z => (PyData.int z))), (PyData.list ((x1 ++ ([(0 : Int)] : (List Int))).map fun z => (PyData.int z)))] : (List PyData))) r4).bind fun x3 => (if ((cutT (rule).2 none (some r1)).map fun z => (PyData.list (z.map fun z => (PyData.int z)))).length + ([x3] : (List PyData)).length ≤ 16777216 then (if (((cutT (rule).2 none (some r1)).map fun z => (PyData.list (z.map fun z => (PyData.int z)))) ++ ([x3] : (List PyData))).length + ((cutT (rule).2 (some (r1 + (1 : Int))) none).map fun z => (PyData.list (z.map fun z => (PyData.int z)))).length ≤ 16777216 then ((some (((((cutT (rule).2 none (some r1)).map fun z => (PyData.list (z.map fun z => (PyData.int z)))) ++ ([x3] : (List PyData))) ++ ((cutT (rule).2 (some (r1 + (1 : Int))) none).map fun z => (PyData.list (z.map fun z => (PyData.int z))))))).bind fun x4 => (if (cutT (rule).2 none (some r1)).length + (((cutT (rule).2 (some r1) (some (r1 + (2 : Int))))).reverse).length ≤ 16777216 then (if ((cutT (rule).2 none (some r1)) ++ (((cutT (rule).2 (some r1) (some (r1 + (2 : Int))))).reverse)).length + (cutT (rule).2 (some (r1 + (2 : Int))) none).length ≤ 16777216 then (if ((cutT (rule).2 none (some r1)).map fun z => (PyData.list (z.map fun z => (PyData.int z)))).length + ([x3] : (List PyData)).length ≤ 16777216 then (if (((cutT (rule).2 none (some r1)).map fun z => (PyData.list (z.map fun z => (PyData.int z)))) ++ ([x3] : (List PyData))).length + ((cutT (rule).2 (some r1) none).map fun z => (PyData.list (z.map fun z => (PyData.int z)))).length ≤ 16777216 then (if (cutT (rule).2 none (some r1)).length + (cutT (rule).2 (some r1) (some (r1 + (1 : Int)))).length ≤ 16777216 then (if ((cutT (rule).2 none (some r1)) ++ (cutT (rule).2 (some r1) (some (r1 + (1 : Int))))).length + (cutT (rule).2 (some r1) none).length ≤ 16777216 then ((some (([(PyData.list x4), (PyData.list x4), (PyData.list x4), (PyData.list ((((cutT (rule).2 none (some r1)).map fun z => (PyData.list (z.map fun z => (PyData.int z)))) ++ ([x3] : (List PyData))) ++ ((cutT (rule).2 (some r1) none).map fun z => (PyData.list (z.map fun z => (PyData.int z)))))), (PyData.list ((((cutT (rule).2 none (some r1)) ++ (((cutT (rule).2 (some r1) (some (r1 + (2 : Int))))).reverse)) ++ (cutT (rule).2 (some (r1 + (2 : Int))) none)).map fun z => (PyData.list (z.map fun z => (PyData.int z))))), (PyData.list ((((rule).2).reverse).map fun z => (PyData.list (z.map fun z => (PyData.int z))))), (PyData.list ((((cutT (rule).2 none (some r1)) ++ (cutT (rule).2 (some r1) (some (r1 + (1 : Int))))) ++ (cutT (rule).2 (some r1) none)).map fun z => (PyData.list (z.map fun z => (PyData.int z)))))] : (List PyData)))).bind fun x5 => (if (cutT (rule).2 none (some r1)).length + (cutT (rule).2 (some (r1 + (1 : Int))) none).length ≤ 16777216 then (forK (_law_no_rule_c1) (irange 0 (5 : Int)) ([], st4) (_law_no_rule_k2 x5 rule r1)) else none)) else none) else none) else none) else none) else none) else none)) else none) else none))) else none) else none) else none)) else none) else none) else none) else none) else none) else none)))) else none))


def _law_no_stand (st : DkS) (rule : (Int × (List (List Int)))) : Option (PyData × DkS) :=
  ((_law_all ((rule).2)).bind fun r1 => ((_law_draw st (r1.length : Int)).bind fun (r2, st1) => ((atI r1 r2).bind fun x1 => ((_law_draw st1 ((rule).1)).bind fun (r3, st2) => (if x1.length + ([r3] : (List Int)).length ≤ 16777216 then (if ([r3] : (List Int)).length + x1.length ≤ 16777216 then (if x1.length + x1.length ≤ 16777216 then (if (x1 ++ x1).length + ([(0 : Int)] : (List Int)).length ≤ 16777216 then ((some (([(PyData.list ((x1 ++ ([r3] : (List Int))).map fun z => (PyData.int z))), (PyData.list ((([r3] : (List Int)) ++ x1).map fun z => (PyData.int z))), (PyData.list (([r3] : (List Int)).map fun z => (PyData.int z))), (PyData.list (((x1).reverse).map fun z => (PyData.int z))), (PyData.list (((x1 ++ x1) ++ ([(0 : Int)] : (List Int))).map fun z => (PyData.int z))), (PyData.tuple (x1.map fun z => (PyData.int z))), PyData.none, (PyData.str ("" : Str)), (PyData.dict [])] : (List PyData)))).bind fun x2 => (if (rule).2.length + ([([(0 : Int)] : (List Int))] : (List (List Int))).length ≤ 16777216 then ((atI ((rule).2 ++ ([([(0 : Int)] : (List Int))] : (List (List Int)))) (0 : Int)).bind fun x3 => (if (rule).2.length + ([([(1 : Int)] : (List Int))] : (List (List Int))).length ≤ 16777216 then ((atI ((rule).2 ++ ([([(1 : Int)] : (List Int))] : (List (List Int)))) (-(1 : Int))).bind fun x4 => (if x2.length + ([(PyData.list (x3.map fun z => (PyData.int z))), (PyData.list (x4.map fun z => (PyData.int z))), (PyData.int (0 : Int)), (PyData.bool true), (PyData.list (([x1] : (List (List Int))).map fun z => (PyData.list (z.map fun z => (PyData.int z))))), (PyData.list (([(0 : Int), (0 : Int), (0 : Int), (0 : Int)] : (List Int)).map fun z => (PyData.int z))), (PyData.list (([(rule).1] : (List Int)).map fun z => (PyData.int z))), (PyData.list (([true] : (List Bool)).map fun z => (PyData.bool z))), (PyData.list (([("0" : Str)] : (List Str)).map fun z => (PyData.str z)))] : (List PyData)).length ≤ 16777216 then ((some ((x2 ++ ([(PyData.list (x3.map fun z => (PyData.int z))), (PyData.list (x4.map fun z => (PyData.int z))), (PyData.int (0 : Int)), (PyData.bool true), (PyData.list (([x1] : (List (List Int))).map fun z => (PyData.list (z.map fun z => (PyData.int z))))), (PyData.list (([(0 : Int), (0 : Int), (0 : Int), (0 : Int)] : (List Int)).map fun z => (PyData.int z))), (PyData.list (([(rule).1] : (List Int)).map fun z => (PyData.int z))), (PyData.list (([true] : (List Bool)).map fun z => (PyData.bool z))), (PyData.list (([("0" : Str)] : (List Str)).map fun z => (PyData.str z)))] : (List PyData))))).bind fun x5 => ((_law_draw st2 (18 : Int)).bind fun (r4, st3) => ((atI x5 r4).bind fun x6 => (some (x6, st3))))) else none)) else none)) else none)) else none) else none) else none) else none)))))

def _law_odd_figures_c1 : ((List (Int × Int)) × DkS) → Int → (((List (Int × Int)) × DkS) → Option (PyData × DkS)) → Option (PyData × DkS)
  | (x3, st3), t1, next1 => (if x3.length < 16777216 then (next1 ((x3 ++ [(t1, (1 : Int))]), st3)) else none)
def _law_odd_figures_k2 (x1 : (List (List PyData))) (figures : (List Int)) : ((List (Int × Int)) × DkS) → Option (PyData × DkS)
  | (x3, st3) => (if (x1.map fun z => (PyData.list z)).length + ([(PyData.tuple (figures.map fun z => (PyData.int z))), PyData.none, (PyData.int (0 : Int)), (PyData.str ("10" : Str)), (PyData.str ("" : Str)), (PyData.dict []), (PyData.list (([figures] : (List (List Int))).map fun z => (PyData.list (z.map fun z => (PyData.int z))))), (PyData.bool true), (dictII x3)] : (List PyData)).length ≤ 16777216 then ((some (((x1.map fun z => (PyData.list z)) ++ ([(PyData.tuple (figures.map fun z => (PyData.int z))), PyData.none, (PyData.int (0 : Int)), (PyData.str ("10" : Str)), (PyData.str ("" : Str)), (PyData.dict []), (PyData.list (([figures] : (List (List Int))).map fun z => (PyData.list (z.map fun z => (PyData.int z))))), (PyData.bool true), (dictII x3)] : (List PyData))))).bind fun x4 => ((_law_draw st3 (17 : Int)).bind fun (r3, st4) => ((atI ([(0 : Int), (0 : Int), (0 : Int), (0 : Int), (1 : Int), (1 : Int), (1 : Int), (2 : Int), (3 : Int), (4 : Int), (5 : Int), (6 : Int), (7 : Int), (8 : Int), (9 : Int), (10 : Int), (11 : Int)] : (List Int)) r3).bind fun x5 => ((atI x4 x5).bind fun x6 => (some (x6, st4)))))) else none)
def _law_odd_figures (st : DkS) (base : Int) (figures : (List Int)) : Option (PyData × DkS) :=
  ((_law_draw st ((figures.length : Int) + (1 : Int))).bind fun (r1, st1) => ((_law_odd_figure st1 base).bind fun (r2, st2) => (if ((cutT figures none (some r1)).map fun z => (PyData.int z)).length + ([r2] : (List PyData)).length ≤ 16777216 then (if (((cutT figures none (some r1)).map fun z => (PyData.int z)) ++ ([r2] : (List PyData))).length + ((cutT figures (some r1) none).map fun z => (PyData.int z)).length ≤ 16777216 then (if ((cutT figures none (some r1)).map fun z => (PyData.int z)).length + ([r2] : (List PyData)).length ≤ 16777216 then (if (((cutT figures none (some r1)).map fun z => (PyData.int z)) ++ ([r2] : (List PyData))).length + ((cutT figures (some (r1 + (1 : Int))) none).map fun z => (PyData.int z)).length ≤ 16777216 then (if (figures.map fun z => (PyData.int z)).length + ([r2] : (List PyData)).length ≤ 16777216 then ((some (([((((cutT figures none (some r1)).map fun z => (PyData.int z)) ++ ([r2] : (List PyData))) ++ ((cutT figures (some r1) none).map fun z => (PyData.int z))), ((((cutT figures none (some r1)).map fun z => (PyData.int z)) ++ ([r2] : (List PyData))) ++ ((cutT figures (some (r1 + (1 : Int))) none).map fun z => (PyData.int z))), ((figures.map fun z => (PyData.int z)) ++ ([r2] : (List PyData)))] : (List (List PyData))))).bind fun x1 => (forK (_law_odd_figures_c1) (figures) ([], st2) (_law_odd_figures_k2 x1 figures))) else none) else none) else none) else none) else none)))


def is_whole (thing : PyData) : Option Bool :=
  (if (isIntD thing) = true then (some (!(isBlD thing))) else (some false))


def is_base (thing : PyData) : Option Bool :=
  ((is_whole thing).bind fun r1 => (if r1 = true then ((asInt thing).bind fun x1 => (if (decide ((2 : Int) ≤ x1)) = true then (some (decide (x1 ≤ (16 : Int)))) else (some false))) else (some false)))


def is_figure (base : Int) (thing : PyData) : Option Bool :=
  ((is_whole thing).bind fun r1 => (if r1 = true then ((asInt thing).bind fun x1 => (if (decide ((0 : Int) ≤ x1)) = true then (some (decide (x1 < base))) else (some false))) else (some false)))

def are_figures_c1 (base : Int) : (List PyData) → PyData → ((List PyData) → Option Bool) → Option Bool
  | x3, t1, next1 => ((is_figure base t1).bind fun r1 => (if (!r1) = true then (if x3.length < 16777216 then (next1 (x3 ++ [t1])) else none) else (next1 x3)))
def are_figures_k2 : (List PyData) → Option Bool
  | x3 => (some (x3).isEmpty)
def are_figures (base : Int) (thing : PyData) : Option Bool :=
  (if (isLstD thing) = true then ((asLst thing).bind fun x1 => (forK (are_figures_c1 base) (x1) [] (are_figures_k2))) else (some false))


def is_stretch (base : Int) (thing : PyData) : Option Bool :=
  ((are_figures base thing).bind fun r1 => (if r1 = true then ((asSeq thing).bind fun x1 => (if (decide ((1 : Int) ≤ (x1.length : Int))) = true then (some (decide ((x1.length : Int) ≤ (4 : Int)))) else (some false))) else (some false)))

def is_rule_c1 (x4 : (PyData × PyData)) : (List PyData) → PyData → ((List PyData) → Option Bool) → Option Bool
  | x8, t1, next1 => ((asInt (x4).1).bind fun x9 => ((is_stretch x9 t1).bind fun r2 => (if (!r2) = true then (if x8.length < 16777216 then (next1 (x8 ++ [t1])) else none) else (next1 x8))))
def is_rule_c3 (x4 : (PyData × PyData)) : (List Int) → Int → ((List Int) → Option Bool) → Option Bool
  | x11, t2, next2 => ((asSeq (x4).2).bind fun x12 => ((atI x12 (t2 - (1 : Int))).bind fun x13 => ((asSeq (x4).2).bind fun x14 => ((atI x14 t2).bind fun x15 => (if LtOk x13 x15 then (if (!PySem.W.dataLt x13 x15) = true then (if x11.length < 16777216 then (next2 (x11 ++ [t2])) else none) else (next2 x11)) else none)))))
def is_rule_k4 : (List Int) → Option Bool
  | x11 => (some (eqT x11 ([] : (List Int))))
def is_rule_k2 (x6 : (List PyData)) (x4 : (PyData × PyData)) : (List PyData) → Option Bool
  | x8 => (if (!(x8).isEmpty) = true then (some false) else (if Rg2 (1 : Int) (x6.length : Int) then (forK (is_rule_c3 x4) (irange (1 : Int) (x6.length : Int)) [] (is_rule_k4)) else none))
def is_rule (thing : PyData) : Option Bool :=
  (if (!(isTupD thing)) = true then (some false) else ((asSeq thing).bind fun x1 => (if ((!decide ((x1.length : Int) = (2 : Int)))) = true then (some false) else ((asSeq thing).bind fun x2 => ((atI x2 (0 : Int)).bind fun x3 => ((is_base x3).bind fun r1 => (if (!r1) = true then (some false) else ((asPair thing).bind fun x4 => (if (!(isLstD (x4).2)) = true then (some false) else ((asSeq (x4).2).bind fun x5 => (if (decide ((4 : Int) < (x5.length : Int))) = true then (some false) else ((asLst (x4).2).bind fun x6 => (forK (is_rule_c1 x4) (x6) [] (is_rule_k2 x6 x4))))))))))))))


def need_rule (thing : PyData) : Option (Except Er Unit) :=
  ((is_rule thing).bind fun r1 => (if (!r1) = true then (some (.error .NoRule)) else (some (.ok ()))))

def stands_in_c1 (figures : (List Int)) (stretch : (List Int)) : (List Int) → Int → ((List Int) → Option Bool) → Option Bool
  | x2, t1, next1 => (if (eqT (cutT figures (some t1) (some (t1 + (stretch.length : Int)))) stretch) = true then (if x2.length < 16777216 then (next1 (x2 ++ [t1])) else none) else (next1 x2))
def stands_in_k2 : (List Int) → Option Bool
  | x2 => (some (!eqT x2 ([] : (List Int))))
def stands_in (stretch : (List Int)) (figures : (List Int)) : Option Bool :=
  (if Rg1 (((figures.length : Int) - (stretch.length : Int)) + (1 : Int)) then (forK (stands_in_c1 figures stretch) (irange 0 (((figures.length : Int) - (stretch.length : Int)) + (1 : Int))) [] (stands_in_k2)) else none)

def lacks_all_c1 (figures : (List Int)) : (List (List Int)) → (List Int) → ((List (List Int)) → Option Bool) → Option Bool
  | x2, t1, next1 => ((stands_in t1 figures).bind fun r1 => (if r1 = true then (if x2.length < 16777216 then (next1 (x2 ++ [t1])) else none) else (next1 x2)))
def lacks_all_k2 : (List (List Int)) → Option Bool
  | x2 => (some (eqT x2 ([] : (List (List Int)))))
def lacks_all (rule : (Int × (List (List Int)))) (figures : (List Int)) : Option Bool :=
  (forK (lacks_all_c1 figures) ((rule).2) [] (lacks_all_k2))

def stands_of_b3 (rule : (Int × (List (List Int)))) (t1 : (List Int)) : (List (Int × (List Int))) → Int → ((List (Int × (List Int))) → Option (List (List Int))) → Option (List (List Int))
  | x2, t2, next2 => ((lacks_all rule (cutT t1 none (some t2))).bind fun r1 => (if r1 = true then (if (!memT (t2, (cutT t1 none (some t2))) x2) = true then (if x2.length < 16777216 then (next2 (x2 ++ [(t2, (cutT t1 none (some t2)))])) else none) else (next2 x2)) else (next2 x2)))
def stands_of_e4 (next1 : ((List (Int × (List Int))) → Option (List (List Int)))) : (List (Int × (List Int))) → Option (List (List Int))
  | x2 => (next1 x2)
def stands_of_b1 (rule : (Int × (List (List Int)))) : (List (Int × (List Int))) → (List Int) → ((List (Int × (List Int))) → Option (List (List Int))) → Option (List (List Int))
  | x1, t1, next1 => (if Rg2 (1 : Int) (t1.length : Int) then (forK (stands_of_b3 rule t1) (irange (1 : Int) (t1.length : Int)) x1 (stands_of_e4 next1)) else none)
def stands_of_c5 : (List (List Int)) → (Int × (List Int)) → ((List (List Int)) → Option (List (List Int))) → Option (List (List Int))
  | x4, t3, next3 => (if x4.length < 16777216 then (next3 (x4 ++ [(t3).2])) else none)
def stands_of_k6 : (List (List Int)) → Option (List (List Int))
  | x4 => (some x4)
def stands_of_e2 : (List (Int × (List Int))) → Option (List (List Int))
  | x1 => (if x1.length ≤ 16777216 then (forK (stands_of_c5) ((sortT x1)) [] (stands_of_k6)) else none)
def stands_of (rule : (Int × (List (List Int)))) : Option (List (List Int)) :=
  (forK (stands_of_b1 rule) ((rule).2) ([((0 : Int), ([] : (List Int)))] : (List (Int × (List Int)))) (stands_of_e2))


def all_stands (rule : PyData) : Option (Except Er (List (List Int))) :=
  ((need_rule rule).bind fun r1 => exB r1 (fun y1 => (((UD.un (α := (Int × (List (List Int))))) rule).bind fun x1 => ((stands_of x1).bind fun r2 => (some (.ok r2))))) (fun er1 => (some (.error er1))))

def ends_of_c3 (figures : (List Int)) (t1 : Int) : (List (List Int)) → (List Int) → ((List (List Int)) → Option (List Int)) → Option (List Int)
  | x2, t2, next2 => (if (eqT (cutT t2 none (some ((cutT figures (some t1) none).length : Int))) (cutT figures (some t1) none)) = true then (if x2.length < 16777216 then (next2 (x2 ++ [t2])) else none) else (next2 x2))
def ends_of_k4 (figures : (List Int)) (t1 : Int) (next1 : (Unit → Option (List Int))) : (List (List Int)) → Option (List Int)
  | x2 => (if (!eqT x2 ([] : (List (List Int)))) = true then (some (cutT figures (some t1) none)) else (next1 ()))
def ends_of_b1 (figures : (List Int)) (rule : (Int × (List (List Int)))) : Unit → Int → (Unit → Option (List Int)) → Option (List Int)
  | _, t1, next1 => (if (eqT (cutT figures (some t1) none) []) = true then (some (cutT figures (some t1) none)) else (forK (ends_of_c3 figures t1) ((rule).2) [] (ends_of_k4 figures t1 next1)))
def ends_of_e2 : Unit → Option (List Int)
  | _ => (some ([] : (List Int)))
def ends_of (rule : (Int × (List (List Int)))) (figures : (List Int)) : Option (List Int) :=
  (if Rg1 ((figures.length : Int) + (1 : Int)) then (forK (ends_of_b1 figures rule) (irange 0 ((figures.length : Int) + (1 : Int))) () (ends_of_e2)) else none)


def stand_of (rule : (Int × (List (List Int)))) (figures : (List Int)) : Option (Option (List Int)) :=
  ((lacks_all rule figures).bind fun r1 => (if (!r1) = true then (some (none : (Option (List Int)))) else ((ends_of rule figures).bind fun r2 => (some (some r2)))))


def stand_behind (rule : PyData) (figures : PyData) : Option (Except Er (Option (List Int))) :=
  ((need_rule rule).bind fun r1 => exB r1 (fun y1 => ((asSeq rule).bind fun x1 => ((atI x1 (0 : Int)).bind fun x2 => ((asInt x2).bind fun x3 => ((are_figures x3 figures).bind fun r2 => (if (!r2) = true then (some (.error .NoFigures)) else (((UD.un (α := (Int × (List (List Int))))) rule).bind fun x4 => (((UD.un (α := (List Int))) figures).bind fun x5 => ((stand_of x4 x5).bind fun r3 => (some (.ok r3))))))))))) (fun er1 => (some (.error er1))))


def step_from (rule : PyData) (stand : PyData) (figure : PyData) : Option (Except Er (Option (List Int))) :=
  ((need_rule rule).bind fun r1 => exB r1 (fun y1 => ((asSeq rule).bind fun x1 => ((atI x1 (0 : Int)).bind fun x2 => ((asInt x2).bind fun x3 => ((are_figures x3 stand).bind fun r2 => (if (!r2) = true then (some (.error .NoStand)) else (((UD.un (α := (Int × (List (List Int))))) rule).bind fun x4 => ((stands_of x4).bind fun r3 => (((UD.un (α := (List Int))) stand).bind fun x5 => (if (!memT x5 r3) = true then (some (.error .NoStand)) else ((is_figure ((x4).1) figure).bind fun r4 => (if (!r4) = true then (some (.error .NoFigures)) else (if (x5.map fun z => (PyData.int z)).length + ([figure] : (List PyData)).length ≤ 16777216 then (((UD.un (α := (List Int))) (PyData.list ((x5.map fun z => (PyData.int z)) ++ ([figure] : (List PyData))))).bind fun x6 => ((stand_of x4 x6).bind fun r5 => (some (.ok r5)))) else none))))))))))))) (fun er1 => (some (.error er1))))


def _law_caught (door : Int) (rule : PyData) (one : PyData) (figure : PyData) : Option (Option Er) :=
  (if (decide (door = (0 : Int))) = true then ((stand_behind rule one).bind fun r1 => exB r1 (fun y1 => (some (none : (Option Er)))) (fun er1 => (some (some er1)))) else (if (decide (door = (1 : Int))) = true then ((all_stands rule).bind fun r2 => exB r2 (fun y2 => (some (none : (Option Er)))) (fun er2 => (some (some er2)))) else ((step_from rule one figure).bind fun r3 => exB r3 (fun y3 => (some (none : (Option Er)))) (fun er3 => (some (some er3))))))

def _law_kinds_c1 (due : Int) : (List Bool) → Int → ((List Bool) → Option Bool) → Option Bool
  | x4, t1, next1 => (if x4.length < 16777216 then (next1 (x4 ++ [(decide (t1 = due))])) else none)
def _law_kinds_k2 (x2 : (List Bool)) (caught : (Option Er)) : (List Bool) → Option Bool
  | x4 => (some (eqT (x2 ++ ([(decide (caught = some .NoRow)), (!(caught).isSome)] : (List Bool))) x4))
def _law_kinds (caught : (Option Er)) (due : Int) : Option Bool :=
  (if ([(decide (caught = some .NoBase)), (decide (caught = some .NoNumber)), (decide (caught = some .NoFigures))] : (List Bool)).length + ([(decide (caught = some .NoRule)), (decide (caught = some .NoStand)), (decide (caught = some .NoGood))] : (List Bool)).length ≤ 16777216 then ((some ((([(decide (caught = some .NoBase)), (decide (caught = some .NoNumber)), (decide (caught = some .NoFigures))] : (List Bool)) ++ ([(decide (caught = some .NoRule)), (decide (caught = some .NoStand)), (decide (caught = some .NoGood))] : (List Bool))))).bind fun x1 => (if x1.length + ([(decide (caught = some .Endless)), (decide (caught = some .NoRules)), (decide (caught = some .NoStretch))] : (List Bool)).length ≤ 16777216 then (if (x1 ++ ([(decide (caught = some .Endless)), (decide (caught = some .NoRules)), (decide (caught = some .NoStretch))] : (List Bool))).length + ([(decide (caught = some .TooMany)), (decide (caught = some .NoText)), (decide (caught = some .NoName))] : (List Bool)).length ≤ 16777216 then ((some (((x1 ++ ([(decide (caught = some .Endless)), (decide (caught = some .NoRules)), (decide (caught = some .NoStretch))] : (List Bool))) ++ ([(decide (caught = some .TooMany)), (decide (caught = some .NoText)), (decide (caught = some .NoName))] : (List Bool))))).bind fun x2 => (if x2.length + ([(decide (caught = some .NoRow)), (!(caught).isSome)] : (List Bool)).length ≤ 16777216 then (if (!(caught).isNone) = true then (forK (_law_kinds_c1 due) (irange 0 (14 : Int)) [] (_law_kinds_k2 x2 caught)) else (some false)) else none)) else none) else none)) else none)


def _law_right (door : Int) (rule : PyData) (one : PyData) (figure : PyData) (due : PyData) : Option Bool :=
  (if ShowOk (PyData.list ([rule, one, figure] : (List PyData))) then ((_law_caught door rule one figure).bind fun r1 => (if (isNonD due) = true then (if (!(r1).isNone) = true then (some false) else (if (!(isNonD due)) = true then ((asInt due).bind fun x1 => ((_law_kinds r1 x1).bind fun r2 => (if (!r2) = true then (some false) else (if ShowOk (PyData.list ([rule, one, figure] : (List PyData))) then (some (decide ((PyData.shown (PyData.list ([rule, one, figure] : (List PyData)))) = (PyData.shown (PyData.list ([rule, one, figure] : (List PyData))))))) else none)))) else (if ShowOk (PyData.list ([rule, one, figure] : (List PyData))) then (some (decide ((PyData.shown (PyData.list ([rule, one, figure] : (List PyData)))) = (PyData.shown (PyData.list ([rule, one, figure] : (List PyData))))))) else none))) else (if (!(isNonD due)) = true then ((asInt due).bind fun x2 => ((_law_kinds r1 x2).bind fun r3 => (if (!r3) = true then (some false) else (if ShowOk (PyData.list ([rule, one, figure] : (List PyData))) then (some (decide ((PyData.shown (PyData.list ([rule, one, figure] : (List PyData)))) = (PyData.shown (PyData.list ([rule, one, figure] : (List PyData))))))) else none)))) else (if ShowOk (PyData.list ([rule, one, figure] : (List PyData))) then (some (decide ((PyData.shown (PyData.list ([rule, one, figure] : (List PyData)))) = (PyData.shown (PyData.list ([rule, one, figure] : (List PyData))))))) else none)))) else none)

def _law_some_rule_c3 (x2 : Int) (x1 : Int) (r5 : Int) : ((List Int) × DkS) → Int → (((List Int) × DkS) → Option ((Int × (List (List Int))) × DkS)) → Option ((Int × (List (List Int))) × DkS)
  | (x7, st12), t2, next2 => ((_law_draw st12 (if x2 < x1 then x2 else x1)).bind fun (r11, st13) => (if x7.length < 16777216 then (next2 ((x7 ++ [(r5 + r11)]), st13)) else none))
def _law_some_rule_k4 (x5 : (List (List Int))) (next1 : (((List (List Int)) × DkS) → Option ((Int × (List (List Int))) × DkS))) : ((List Int) × DkS) → Option ((Int × (List (List Int))) × DkS)
  | (x7, st12) => (if (!memT x7 x5) = true then (if x5.length < 16777216 then (next1 ((x5 ++ [x7]), st12)) else none) else (next1 (x5, st12)))
def _law_some_rule_b1 (x3 : Int) (x2 : Int) (x1 : Int) (r5 : Int) : ((List (List Int)) × DkS) → Int → (((List (List Int)) × DkS) → Option ((Int × (List (List Int))) × DkS)) → Option ((Int × (List (List Int))) × DkS)
  | (x5, st10), t1, next1 => ((_law_draw st10 x3).bind fun (r10, st11) => (if Rg1 ((1 : Int) + r10) then (forK (_law_some_rule_c3 x2 x1 r5) (irange 0 ((1 : Int) + r10)) ([], st11) (_law_some_rule_k4 x5 next1)) else none))
def _law_some_rule_e2 (x1 : Int) : ((List (List Int)) × DkS) → Option ((Int × (List (List Int))) × DkS)
  | (x5, st10) => (if x5.length ≤ 16777216 then (some ((x1, (sortT x5)), st10)) else none)
def _law_some_rule (st : DkS)  : Option ((Int × (List (List Int))) × DkS) :=
  ((_law_draw st (15 : Int)).bind fun (r1, st1) => ((_law_draw st1 (3 : Int)).bind fun (r2, st2) => ((_law_draw st2 (6 : Int)).bind fun (r3, st3) => ((atI ([((2 : Int) + r1), (2 : Int), (3 : Int), (10 : Int), (16 : Int), ((2 : Int) + r2)] : (List Int)) r3).bind fun x1 => ((_law_draw st3 (3 : Int)).bind fun (r4, st4) => ((atI ([(2 : Int), (3 : Int), (16 : Int)] : (List Int)) r4).bind fun x2 => ((_law_draw st4 ((x1 - (if x2 < x1 then x2 else x1)) + (1 : Int))).bind fun (r5, st5) => ((_law_draw st5 (4 : Int)).bind fun (r6, st6) => ((_law_draw st6 (4 : Int)).bind fun (r7, st7) => ((atI ([((1 : Int) + r6), (2 : Int), (3 : Int), (4 : Int)] : (List Int)) r7).bind fun x3 => ((_law_draw st7 (5 : Int)).bind fun (r8, st8) => ((_law_draw st8 (4 : Int)).bind fun (r9, st9) => ((atI ([r8, (4 : Int), (3 : Int), (1 : Int)] : (List Int)) r9).bind fun x4 => (if Rg1 x4 then (forK (_law_some_rule_b1 x3 x2 x1 r5) (irange 0 x4) (([] : (List (List Int))), st9) (_law_some_rule_e2 x1)) else none))))))))))))))

def law_c5 (r1 : (Int × (List (List Int)))) : ((List Int) × DkS) → Int → (((List Int) × DkS) → Option Bool) → Option Bool
  | (x2, st6), t3, next3 => ((_law_draw st6 ((r1).1)).bind fun (r4, st7) => (if x2.length < 16777216 then (next3 ((x2 ++ [r4]), st7)) else none))
def law_b7 (r2 : PyData) (x4 : (List PyData)) : DkS → Int → (DkS → Option Bool) → Option Bool
  | st13, t4, next4 => ((_law_is_rule r2).bind fun r12 => (if (!r12) = true then ((atI x4 (0 : Int)).bind fun x5 => ((atI x4 (1 : Int)).bind fun x6 => ((_law_right t4 r2 x5 x6 (PyData.int (3 : Int))).bind fun r13 => (if (!r13) = true then (some false) else (next4 st13))))) else (next4 st13)))
def law_e8 (r1 : (Int × (List (List Int)))) (r5 : PyData) (x2 : (List Int)) (r7 : PyData) (r8 : Int) (x3 : (List Int)) (r6 : PyData) (next2 : (DkS → Option Bool)) : DkS → Option Bool
  | st13 => ((_law_right (0 : Int) (PyData.tuple [(PyData.int (r1).1), (PyData.list ((r1).2.map fun z => (PyData.list (z.map fun z => (PyData.int z)))))]) r5 (PyData.int (0 : Int)) (PyData.int (2 : Int))).bind fun r14 => (if (!r14) = true then (some false) else ((_law_right (0 : Int) (PyData.tuple [(PyData.int (r1).1), (PyData.list ((r1).2.map fun z => (PyData.list (z.map fun z => (PyData.int z)))))]) (PyData.list (x2.map fun z => (PyData.int z))) (PyData.int (0 : Int)) (PyData.none)).bind fun r15 => (if (!r15) = true then (some false) else ((_law_is_stand r1 r7).bind fun r16 => ((atI ([(PyData.int (4 : Int)), PyData.none] : (List PyData)) (if r16 = true then (1 : Int) else 0)).bind fun x7 => ((_law_right (2 : Int) (PyData.tuple [(PyData.int (r1).1), (PyData.list ((r1).2.map fun z => (PyData.list (z.map fun z => (PyData.int z)))))]) r7 (PyData.int r8) x7).bind fun r17 => (if (!r17) = true then (some false) else ((_law_right (2 : Int) (PyData.tuple [(PyData.int (r1).1), (PyData.list ((r1).2.map fun z => (PyData.list (z.map fun z => (PyData.int z)))))]) (PyData.list (x3.map fun z => (PyData.int z))) r6 (PyData.int (2 : Int))).bind fun r18 => (if (!r18) = true then (some false) else (if (!(isNonD x7)) = true then ((_law_right (2 : Int) (PyData.tuple [(PyData.int (r1).1), (PyData.list ((r1).2.map fun z => (PyData.list (z.map fun z => (PyData.int z)))))]) r7 r6 (PyData.int (4 : Int))).bind fun r19 => (if (!r19) = true then (some false) else ((_law_right (2 : Int) (PyData.tuple [(PyData.int (r1).1), (PyData.list ((r1).2.map fun z => (PyData.list (z.map fun z => (PyData.int z)))))]) (PyData.list (x3.map fun z => (PyData.int z))) (PyData.int r8) (PyData.none)).bind fun r20 => (if (!r20) = true then (some false) else ((_law_right (1 : Int) (PyData.tuple [(PyData.int (r1).1), (PyData.list ((r1).2.map fun z => (PyData.list (z.map fun z => (PyData.int z)))))]) (PyData.none) (PyData.none) (PyData.none)).bind fun r21 => (if (!r21) = true then (some false) else (next2 st13))))))) else ((_law_right (2 : Int) (PyData.tuple [(PyData.int (r1).1), (PyData.list ((r1).2.map fun z => (PyData.list (z.map fun z => (PyData.int z)))))]) (PyData.list (x3.map fun z => (PyData.int z))) (PyData.int r8) (PyData.none)).bind fun r22 => (if (!r22) = true then (some false) else ((_law_right (1 : Int) (PyData.tuple [(PyData.int (r1).1), (PyData.list ((r1).2.map fun z => (PyData.list (z.map fun z => (PyData.int z)))))]) (PyData.none) (PyData.none) (PyData.none)).bind fun r23 => (if (!r23) = true then (some false) else (next2 st13))))))))))))))))
def law_k6 (r1 : (Int × (List (List Int)))) (t2 : Int) (r2 : PyData) (next2 : (DkS → Option Bool)) : ((List Int) × DkS) → Option Bool
  | (x2, st6) => ((_law_odd_figures st6 ((r1).1) x2).bind fun (r5, st8) => ((_law_odd_figure st8 ((r1).1)).bind fun (r6, st9) => ((_law_no_stand st9 r1).bind fun (r7, st10) => ((_law_draw st10 ((r1).1)).bind fun (r8, st11) => ((_law_all ((r1).2)).bind fun r9 => ((_law_all ((r1).2)).bind fun r10 => ((_law_draw st11 (r10.length : Int)).bind fun (r11, st12) => ((atI r9 r11).bind fun x3 => ((atI ([([(PyData.list (x2.map fun z => (PyData.int z))), (PyData.int r8)] : (List PyData)), ([r5, r6] : (List PyData)), ([r7, r6] : (List PyData))] : (List (List PyData))) (t2 % (3 : Int))).bind fun x4 => (forK (law_b7 r2 x4) (irange 0 (3 : Int)) st12 (law_e8 r1 r5 x2 r7 r8 x3 r6 next2)))))))))))
def law_b3 (r1 : (Int × (List (List Int)))) : DkS → Int → (DkS → Option Bool) → Option Bool
  | st3, t2, next2 => ((_law_no_rule st3 r1).bind fun (r2, st4) => ((_law_draw st4 (6 : Int)).bind fun (r3, st5) => (if Rg1 r3 then (forK (law_c5 r1) (irange 0 r3) ([], st5) (law_k6 r1 t2 r2 next2)) else none)))
def law_e4 (next1 : (DkS → Option Bool)) : DkS → Option Bool
  | st3 => (next1 st3)
def law_b1 : DkS → Int → (DkS → Option Bool) → Option Bool
  | st1, t1, next1 => ((_law_some_rule st1).bind fun (r1, st2) => (forK (law_b3 r1) (irange 0 (5 : Int)) st2 (law_e4 next1)))
def law_e2 : DkS → Option Bool
  | st1 => (some true)
def law (ns : List Int) : Option Bool :=
  (forK (law_b1) (irange 0 (12 : Int)) (mkDeck ns) (law_e2))
section
variable [ErT]
structure Txt (K : PySem.W.Frag) (mg : Str → Option Value) where
  f__law_lacks : FnAt K mg "_law_lacks" s__law_lacks ["bad", "figures"]
  f__law_all : FnAt K mg "_law_all" s__law_all ["bad"]
  f__law_deck : FnAt K mg "_law_deck" s__law_deck ["script"]
  f__law_draw : FnAt K mg "_law_draw" s__law_draw ["deck", "many"]
  f__law_is_rule : FnAt K mg "_law_is_rule" s__law_is_rule ["thing"]
  f__law_is_stand : FnAt K mg "_law_is_stand" s__law_is_stand ["rule", "thing"]
  f__law_no_base : FnAt K mg "_law_no_base" s__law_no_base ["deck"]
  f__law_odd_figure : FnAt K mg "_law_odd_figure" s__law_odd_figure ["deck", "base"]
  f__law_no_rule : FnAt K mg "_law_no_rule" s__law_no_rule ["deck", "rule"]
  f__law_no_stand : FnAt K mg "_law_no_stand" s__law_no_stand ["deck", "rule"]
  f__law_odd_figures : FnAt K mg "_law_odd_figures" s__law_odd_figures ["deck", "base", "figures"]
  f_is_whole : FnAt K mg "is_whole" s_is_whole ["thing"]
  f_is_base : FnAt K mg "is_base" s_is_base ["thing"]
  f_is_figure : FnAt K mg "is_figure" s_is_figure ["base", "thing"]
  f_are_figures : FnAt K mg "are_figures" s_are_figures ["base", "thing"]
  f_is_stretch : FnAt K mg "is_stretch" s_is_stretch ["base", "thing"]
  f_is_rule : FnAt K mg "is_rule" s_is_rule ["thing"]
  f_need_rule : FnAt K mg "need_rule" s_need_rule ["thing"]
  f_stands_in : FnAt K mg "stands_in" s_stands_in ["stretch", "figures"]
  f_lacks_all : FnAt K mg "lacks_all" s_lacks_all ["rule", "figures"]
  f_stands_of : FnAt K mg "stands_of" s_stands_of ["rule"]
  f_all_stands : FnAt K mg "all_stands" s_all_stands ["rule"]
  f_ends_of : FnAt K mg "ends_of" s_ends_of ["rule", "figures"]
  f_stand_of : FnAt K mg "stand_of" s_stand_of ["rule", "figures"]
  f_stand_behind : FnAt K mg "stand_behind" s_stand_behind ["rule", "figures"]
  f_step_from : FnAt K mg "step_from" s_step_from ["rule", "stand", "figure"]
  f__law_caught : FnAt K mg "_law_caught" s__law_caught ["door", "rule", "one", "figure"]
  f__law_kinds : FnAt K mg "_law_kinds" s__law_kinds ["caught", "due"]
  f__law_right : FnAt K mg "_law_right" s__law_right ["door", "rule", "one", "figure", "due"]
  f__law_some_rule : FnAt K mg "_law_some_rule" s__law_some_rule ["deck"]
  f_law : FnAt K mg "law" s_law ["script"]
  er : ErTxt K mg
  c_LEAST_BASE : CAt mg "LEAST_BASE" 2
  c_MOST_BASE : CAt mg "MOST_BASE" 16
  c_MOST_FIGURES : CAt mg "MOST_FIGURES" 4
  c_MOST_STRETCHES : CAt mg "MOST_STRETCHES" 4
  z_ValueError : mg "ValueError" = none
  z_bool : mg "bool" = none
  z_dict : mg "dict" = none
  z_enumerate : mg "enumerate" = none
  z_int : mg "int" = none
  z_isinstance : mg "isinstance" = none
  z_len : mg "len" = none
  z_list : mg "list" = none
  z_max : mg "max" = none
  z_min : mg "min" = none
  z_range : mg "range" = none
  z_repr : mg "repr" = none
  z_sorted : mg "sorted" = none
  z_tuple : mg "tuple" = none
/-! #### the deck: made, drawn from -/
abbrev N__law_draw : List Str := ["deck", "many", "pool", "found", "number"]
theorem sc__law_draw : FnScope N__law_draw ["deck", "many"] (defScope s__law_draw) := ⟨rfl, rfl, rfl, by decide +kernel, rfl, by decide +kernel, by decide +kernel⟩
def sp__law_draw : Sp := fun vs H Q _ => ∃ (F : Hp) (A : Addr → Prop) (dk : Addr) (st : DkS) (v_many : V) (many : Int) (r : Int) (st2 : DkS), vs = [.ref dk, v_many] ∧ Sub F H ∧ Deck A H dk st ∧ (∀ a, A a → F a = none) ∧ R F v_many many ∧ _law_draw st many = some (r, st2) ∧ ∀ N H2 v, Gr A F H N H2 → Deck A H2 dk st2 → R N v r → Q v H2
theorem paired_get {α β : Type} {F : α → β → Prop} : ∀ {l : List α} {m : List β} {i : Nat} {b : β}, Paired F l m → m[i]? = some b → ∃ a, l[i]? = some a ∧ F a b
  | _, _, _, _, .nil, e => by simp at e
  | _, _, 0, _, .cons h _, e => by simp at e; subst e; exact ⟨_, rfl, h⟩
  | _, _, i + 1, _, .cons _ t, e => by
    obtain ⟨a, h1, h2⟩ := paired_get (i := i) t (by simpa using e)
    exact ⟨a, by simpa using h1, h2⟩
theorem paired_len {α β : Type} {F : α → β → Prop} : ∀ {l : List α} {m : List β}, Paired F l m → l.length = m.length
  | _, _, .nil => rfl
  | _, _, .cons _ t => by simp [paired_len t]
theorem paired_set {α β : Type} {F G : α → β → Prop} : ∀ {l : List α} {m : List β} {i : Nat} {a : α} {b : β}, Paired F l m → l[i]? = some a → l.Nodup → (∀ a' b', a' ∈ l → a' ≠ a → F a' b' → G a' b') → G a b → Paired G l (m.set i b)
  | _, _, _, _, _, .nil, e, _, _, _ => by simp at e
  | _, _, 0, a, b, .cons (a := x) h t, e, nd, f, g => by
    simp at e; subst e
    refine .cons g ?_
    have nd' := List.nodup_cons.mp nd
    exact paired_mono t fun a' b' ha hF => f a' b' (List.mem_cons_of_mem _ ha) (fun z => nd'.1 (z ▸ ha)) hF
  | _, _, i + 1, a, b, .cons (a := x) h t, e, nd, f, g => by
    have nd' := List.nodup_cons.mp nd
    have e' := e
    simp at e'
    refine .cons (f _ _ List.mem_cons_self (fun z => ?_) h) (paired_set (i := i) t e' nd'.2 (fun a' b' ha => f a' b' (List.mem_cons_of_mem _ ha)) g)
    rw [z] at nd'
    exact nd'.1 (List.mem_of_getElem? e')
theorem deck_set {A : Addr → Prop} {H : Hp} {dk P pa : Addr} {pas : List Addr} {pools : List (Int × Int × Int)} {c c' : Int} {i : Nat} {p' : Int × Int × Int}
    (h1 : H dk = some (.lst [.ref P, .int c])) (h2 : H P = some (.lst (pas.map V.ref))) (h3 : Paired (fun pa (p : Int × Int × Int) => H pa = some (.lst [.int p.1, .int p.2.1, .int p.2.2])) pas pools)
    (hA : ∀ a, A a ↔ a = dk ∨ a = P ∨ a ∈ pas) (n1 : dk ≠ P) (n2 : dk ∉ pas) (n3 : P ∉ pas) (nd : pas.Nodup) (hi : pas[i]? = some pa) :
    Deck A (upd (upd H dk (.lst [.ref P, .int c'])) pa (.lst [.int p'.1, .int p'.2.1, .int p'.2.2])) dk (pools.set i p', c') := by
  have hm : pa ∈ pas := List.mem_of_getElem? hi
  have m1 : dk ≠ pa := fun z => n2 (by rw [z]; exact hm)
  have m2 : P ≠ pa := fun z => n3 (by rw [z]; exact hm)
  refine ⟨P, pas, ?_, ?_, paired_set h3 hi nd (fun a' b' ha na h => ?_) upd_same, hA, n1, n2, n3, nd⟩
  · rw [upd_ne m1, upd_same]
  · rw [upd_ne m2, upd_ne n1.symm]; exact h2
  · rw [upd_ne na, upd_ne (show a' ≠ dk from fun z => n2 (by rw [← z]; exact ha))]; exact h
theorem emod_in {a m : Int} (h : 0 < m) (h2 : m ≤ 2 ^ 64) : -(2 ^ 64) < a % m ∧ a % m < 2 ^ 64 := by
  have h3 := Int.emod_nonneg a (show m ≠ 0 by omega)
  have h4 := Int.emod_lt_of_pos a h
  constructor <;> omega
theorem draw_cases {st st2 : DkS} {many r : Int} (h : _law_draw st many = some (r, st2)) : Dv many ∧ ∃ p, st.1[(st.2 % (st.1.length : Int)).toNat]? = some p ∧
    ((p.2.1 = 1 ∧ 0 < p.1 ∧ r = p.1 % many ∧ st2 = (st.1.set (st.2 % (st.1.length : Int)).toNat (p.1 / many, p.2.1, p.2.2), st.2 + 1)) ∨
     (¬ (p.2.1 = 1 ∧ 0 < p.1) ∧ r = mixD p.1 (p.2.2 + 1) many ∧ st2 = (st.1.set (st.2 % (st.1.length : Int)).toNat (p.1, p.2.1, p.2.2 + 1), st.2 + 1))) := by
  unfold _law_draw at h
  obtain ⟨c, h⟩ := guardp h
  obtain ⟨p, hp, h⟩ := bindp h
  refine ⟨c, p, hp, ?_⟩
  by_cases q : p.2.1 = 1 ∧ 0 < p.1
  · rw [if_pos q] at h
    obtain ⟨e1, e2⟩ := pairp h
    exact .inl ⟨q.1, q.2, e1.symm, e2.symm⟩
  · rw [if_neg q] at h
    obtain ⟨e1, e2⟩ := pairp h
    exact .inr ⟨q, e1.symm, e2.symm⟩
theorem ok__law_draw {P : Program} {w : World} {K : PySem.W.Frag} {mg : Str → Option Value} {base : Heap} (T : Txt K mg) : FnOk P w K mg base CX0 1 T.f__law_draw.f T.f__law_draw.fd ["deck", "many"] sp__law_draw := by
  have nd := (sc__law_draw).nd
  refine T.f__law_draw.F.ok sc__law_draw (fun vs H Q E h => ?_) (fun cdv A0 outer s H vs Q E hr h => ?_)
  · obtain ⟨_, _, _, _, _, _, _, _, rfl, _⟩ := h
    rfl
  obtain ⟨F0, A, dk, st, v_many, many, r, st2, rfl, s0, hdk, hnf, f_many, hm, q⟩ := h
  obtain rfl := int_of f_many
  have G0 : Gr A F0 H F0 H := Gr.refl s0
  refine ⟨_, pss_cons (ps_set (i := 2) nd rfl (.inl rfl) (pe_ix (r := rIxL K) ix_list (pe_ix (r := rIxL K) ix_list (pv 0) pe_int (fun _ _ => rfl)) (pe_op op_mod (pe_ix (r := rIxL K) ix_list (pv 0) pe_int (fun _ _ => rfl)) (pe_callB (r := rLenT K) call_lenT (by rfl) T.z_len PySem.boot_len (pa_cons (pe_ix (r := rIxL K) ix_list (pv 0) pe_int (fun _ _ => rfl)) pa_nil))) (fun _ _ => rfl)))
    (pss_cons (ps_asg (pe_op op_add (pe_ix (r := rIxL K) ix_list (pv 0) pe_int (fun _ _ => rfl)) pe_int) (pg_sub (pv 0) pe_int set_list))
    (pss_cons (ps_if (PW.pt (pw_and (pt_cmp (pc_eqI (pe_ix (r := rIxL K) ix_list (pv 2) pe_int (fun _ _ => rfl)) pe_int)) (pw_and1 (pt_cmp (pc_gt (pe_ix (r := rIxL K) ix_list (pv 2) pe_int (fun _ _ => rfl)) pe_int)))))
      (pss_cons (ps_set (i := 3) nd rfl (.inl rfl) (pe_op op_mod (pe_ix (r := rIxL K) ix_list (pv 2) pe_int (fun _ _ => rfl)) (pv 1)))
      (pss_cons (ps_asg (pe_op op_fdivW (pe_ix (r := rIxL K) ix_list (pv 2) pe_int (fun _ _ => rfl)) (pv 1)) (pg_sub (pv 2) pe_int set_list))
      (pss_one (ps_ret (pv 3))))) pss_nil)
    (pss_cons (ps_asg (pe_op op_add (pe_ix (r := rIxL K) ix_list (pv 2) pe_int (fun _ _ => rfl)) pe_int) (pg_sub (pv 2) pe_int set_list))
    (pss_cons (ps_set (i := 4) nd rfl (.inl rfl) (pe_op op_mod (pe_op op_add (pe_op op_mod (pe_ix (r := rIxL K) ix_list (pv 2) pe_int (fun _ _ => rfl)) pe_int) (pe_op op_mul pe_int (pe_ix (r := rIxL K) ix_list (pv 2) pe_int (fun _ _ => rfl)))) pe_int))
    (pss_cons (ps_set (i := 4) nd rfl (.inl rfl) (pe_op op_mod (pe_op op_mul (pv 4) (pv 4)) pe_int))
    (pss_cons (ps_set (i := 4) nd rfl (.inl rfl) (pe_op op_mod (pe_op op_mul (pv 4) (pe_op op_add (pv 4) pe_int)) pe_int))
    (pss_one (ps_ret (pe_op op_mod (pe_op op_fdivW (pv 4) pe_int) (pv 1)))))))))), ?_⟩
  obtain ⟨cm, p, hp, hcs⟩ := draw_cases hm
  obtain ⟨P', pas, h1, h2, h3, hA, n1, n2, n3, ndp⟩ := id hdk
  obtain ⟨pa, hpa, hH⟩ := paired_get h3 hp
  have hl := paired_len h3
  have hmem : pa ∈ pas := List.mem_of_getElem? hpa
  have m1 : dk ≠ pa := fun z => n2 (by rw [z]; exact hmem)
  have hlp : 0 < st.1.length := by
    cases e : st.1 with
    | nil => rw [e] at hp; simp at hp
    | cons a b => simp
  have L1 : SqL K H dk [.ref P', .int st.2] := .inl (.inl h1)
  have L2' : SqL K H P' (pas.map V.ref) := .inl (.inl h2)
  -- pool = deck[0][deck[1] % len(deck[0])]
  refine ⟨_, rfl, _, _, _, _, rfl, rfl, L1, atI_nat (j := 0) rfl, ?_⟩
  refine ⟨_, rfl, _, _, _, _, rfl, rfl, L1, atI_nat (j := 1) rfl, ?_⟩
  refine ⟨_, rfl, _, _, _, _, rfl, rfl, L1, atI_nat (j := 0) rfl, ?_⟩
  refine ⟨_, _, rfl, .inl L2', ?_⟩
  refine ⟨_, _, rfl, rfl, (by rw [List.length_map, hl]; omega), ?_⟩
  have ei : (st.2 % (((pas.map V.ref).length : Nat) : Int)) = (((st.2 % (st.1.length : Int)).toNat : Nat) : Int) := by
    rw [List.length_map, hl]
    have := Int.emod_nonneg st.2 (show (st.1.length : Int) ≠ 0 by omega)
    omega
  refine ⟨_, _, _, _, rfl, rfl, L2', (by rw [ei]; exact atI_nat (j := (st.2 % (st.1.length : Int)).toNat) (by rw [List.getElem?_map, hpa]; rfl)), ?_⟩
  -- deck[1] = deck[1] + 1
  refine ⟨_, rfl, _, _, _, _, rfl, rfl, L1, atI_nat (j := 1) rfl, ?_⟩
  refine ⟨_, _, rfl, rfl, ?_⟩
  refine ⟨_, rfl, _, _, _, _, rfl, rfl, h1, (show ixN 2 1 = some 1 from rfl), ?_⟩
  have G1 : Gr A F0 H F0 (upd H dk (.lst [.ref P', .int (st.2 + 1)])) := G0.mutA ((hA dk).mpr (.inl rfl)) (hnf _ ((hA dk).mpr (.inl rfl)))
  have hp1 : (upd H dk (.lst [.ref P', .int (st.2 + 1)])) pa = some (.lst [.int p.1, .int p.2.1, .int p.2.2]) := by rw [upd_ne m1.symm]; exact hH
  have L3 : SqL K (upd H dk (.lst [.ref P', .int (st.2 + 1)])) pa [.int p.1, .int p.2.1, .int p.2.2] := .inl (.inl hp1)
  have Apa : A pa := (hA pa).mpr (.inr (.inr hmem))
  -- if pool[1] == 1 and pool[0] > 0
  refine ⟨_, rfl, _, _, _, _, rfl, rfl, L3, atI_nat (j := 1) rfl, ?_⟩
  refine ⟨_, _, rfl, rfl, _, rfl, ?_⟩
  have drawn : (p.2.1 = 1 ∧ 0 < p.1 ∧ r = p.1 % many ∧ st2 = (st.1.set (st.2 % (st.1.length : Int)).toNat (p.1 / many, p.2.1, p.2.2), st.2 + 1)) → _ := fun hh => hh
  rcases hcs with ⟨c1, c2, rfl, rfl⟩ | ⟨c1, rfl, rfl⟩
  · refine ifD (fun _ => ?_) (fun hc => absurd c1 (dF hc))
    refine ⟨_, rfl, _, _, _, _, rfl, rfl, L3, atI_nat (j := 0) rfl, ?_⟩
    refine ⟨_, _, rfl, rfl, _, rfl, ?_⟩
    refine ifD (fun _ => ?_) (fun hc => absurd c2 (dF hc))
    refine ⟨_, rfl, _, _, _, _, rfl, rfl, L3, atI_nat (j := 0) rfl, ?_⟩
    refine ⟨_, rfl, _, _, rfl, rfl, cm.p, ?_⟩
    refine ⟨_, rfl, _, _, _, _, rfl, rfl, L3, atI_nat (j := 0) rfl, ?_⟩
    refine ⟨_, rfl, _, _, rfl, rfl, cm.w, ?_⟩
    refine ⟨_, rfl, _, _, _, _, rfl, rfl, hp1, (show ixN 3 0 = some 0 from rfl), ?_⟩
    refine ⟨_, rfl, ?_⟩
    have D := deck_set (c' := st.2 + 1) (p' := (p.1 / many, p.2.1, p.2.2)) h1 h2 h3 hA n1 n2 n3 ndp hpa
    have e9 : (HO.lst ([V.int p.1, V.int p.2.1, V.int p.2.2].set 0 (V.int (p.1 / many)))) = .lst [.int (p.1 / many), .int p.2.1, .int p.2.2] := rfl
    exact q _ _ _ (G1.mutA Apa (hnf _ Apa)) D (.int _)
  · have tail : (if decide (p.2.1 = 1) = true then decide (0 < p.1) else false) = false := by
      by_cases a1 : p.2.1 = 1
      · by_cases a2 : 0 < p.1
        · exact absurd ⟨a1, a2⟩ c1
        · simp [a1, a2]
      · simp [a1]
    have rest : ∀ (Z : Prop), (let H3 := upd (upd H dk (.lst [.ref P', .int (st.2 + 1)])) pa (.lst [.int p.1, .int p.2.1, .int (p.2.2 + 1)]); Q (.int (mixD p.1 (p.2.2 + 1) many)) H3) → True := fun _ _ => trivial
    have fin : Q (.int (mixD p.1 (p.2.2 + 1) many)) (upd (upd H dk (.lst [.ref P', .int (st.2 + 1)])) pa (.lst [.int p.1, .int p.2.1, .int (p.2.2 + 1)])) :=
      q _ _ _ (G1.mutA Apa (hnf _ Apa)) (deck_set (c' := st.2 + 1) (p' := (p.1, p.2.1, p.2.2 + 1)) h1 h2 h3 hA n1 n2 n3 ndp hpa) (.int _)
    have b1 := Int.emod_nonneg (p.1 % 99999999977 + 700001 * (p.2.2 + 1)) (show (99999999947 : Int) ≠ 0 by decide)
    have b2 := Int.emod_lt_of_pos (p.1 % 99999999977 + 700001 * (p.2.2 + 1)) (show (0 : Int) < 99999999947 by decide)
    have L4 : SqL K (upd (upd H dk (.lst [.ref P', .int (st.2 + 1)])) pa (.lst [.int p.1, .int p.2.1, .int (p.2.2 + 1)])) pa [.int p.1, .int p.2.1, .int (p.2.2 + 1)] := .inl (.inl upd_same)
    have body : ∀ σ9 : L2.St, σ9 = ([some (V.ref dk), some (V.int many), some (V.ref pa), none, none] : L2.St) → True := fun _ _ => trivial
    refine ifD (fun hc => ?_) (fun hc => ?_)
    · refine ⟨_, rfl, _, _, _, _, rfl, rfl, L3, atI_nat (j := 0) rfl, ?_⟩
      refine ⟨_, _, rfl, rfl, _, rfl, ?_⟩
      refine ifD (fun hc2 => absurd ⟨dT hc, dT hc2⟩ c1) (fun _ => ?_)
      refine ⟨_, rfl, _, _, _, _, rfl, rfl, L3, atI_nat (j := 2) rfl, ?_⟩
      refine ⟨_, _, rfl, rfl, ?_⟩
      refine ⟨_, rfl, _, _, _, _, rfl, rfl, hp1, (show ixN 3 2 = some 2 from rfl), ?_⟩
      refine ⟨_, rfl, _, _, _, _, rfl, rfl, L4, atI_nat (j := 0) rfl, ?_⟩
      refine ⟨_, _, rfl, rfl, (show (0 : Int) < 99999999977 by decide), ?_⟩
      refine ⟨_, rfl, _, _, _, _, rfl, rfl, L4, atI_nat (j := 2) rfl, ?_⟩
      refine ⟨_, _, rfl, rfl, .inl ⟨by decide, by decide⟩, ?_⟩
      refine ⟨_, _, rfl, rfl, ?_⟩
      refine ⟨_, _, rfl, rfl, (show (0 : Int) < 99999999947 by decide), ?_⟩
      refine ⟨_, rfl, _, rfl, _, _, rfl, rfl, .inl ⟨by omega, by omega⟩, ?_⟩
      refine ⟨_, _, rfl, rfl, (show (0 : Int) < 99999999821 by decide), ?_⟩
      refine ⟨_, rfl, _, rfl, _, _, rfl, rfl, ?_⟩
      refine ⟨_, _, rfl, rfl, .inl (emod_in (by decide) (by decide)), ?_⟩
      refine ⟨_, _, rfl, rfl, (show (0 : Int) < 9999999967 by decide), ?_⟩
      refine ⟨_, rfl, _, _, rfl, rfl, (show Dv 13 from by decide +kernel).w, ?_⟩
      refine ⟨_, rfl, _, _, rfl, rfl, cm.p, ?_⟩
      exact fin
    · refine iteF ?_
      refine ⟨_, rfl, _, _, _, _, rfl, rfl, L3, atI_nat (j := 2) rfl, ?_⟩
      refine ⟨_, _, rfl, rfl, ?_⟩
      refine ⟨_, rfl, _, _, _, _, rfl, rfl, hp1, (show ixN 3 2 = some 2 from rfl), ?_⟩
      refine ⟨_, rfl, _, _, _, _, rfl, rfl, L4, atI_nat (j := 0) rfl, ?_⟩
      refine ⟨_, _, rfl, rfl, (show (0 : Int) < 99999999977 by decide), ?_⟩
      refine ⟨_, rfl, _, _, _, _, rfl, rfl, L4, atI_nat (j := 2) rfl, ?_⟩
      refine ⟨_, _, rfl, rfl, .inl ⟨by decide, by decide⟩, ?_⟩
      refine ⟨_, _, rfl, rfl, ?_⟩
      refine ⟨_, _, rfl, rfl, (show (0 : Int) < 99999999947 by decide), ?_⟩
      refine ⟨_, rfl, _, rfl, _, _, rfl, rfl, .inl ⟨by omega, by omega⟩, ?_⟩
      refine ⟨_, _, rfl, rfl, (show (0 : Int) < 99999999821 by decide), ?_⟩
      refine ⟨_, rfl, _, rfl, _, _, rfl, rfl, ?_⟩
      refine ⟨_, _, rfl, rfl, .inl (emod_in (by decide) (by decide)), ?_⟩
      refine ⟨_, _, rfl, rfl, (show (0 : Int) < 9999999967 by decide), ?_⟩
      refine ⟨_, rfl, _, _, rfl, rfl, (show Dv 13 from by decide +kernel).w, ?_⟩
      refine ⟨_, rfl, _, _, rfl, rfl, cm.p, ?_⟩
      exact fin
def sp__law_deck (K : PySem.W.Frag) : Sp := fun vs H Q _ => ∃ (a : Addr) (ns : List Int), vs = [.ref a] ∧ SqL K H a (ns.map V.int) ∧
  ∀ H2 dk A, (∀ b o, H b = some o → H2 b = some o) → Deck A H2 dk (mkDeck ns) → (∀ b, A b → H b = none) → Q (.ref dk) H2
abbrev N__law_deck : List Str := ["script", "pools", "k", "cell"]
theorem sc__law_deck : FnScope N__law_deck ["script"] (defScope s__law_deck) := ⟨rfl, rfl, rfl, by decide +kernel, rfl, by decide +kernel, by decide +kernel⟩
/-- the pools so far -/
def PoolsAt (H0 H : Hp) (P : Addr) (pas : List Addr) (ps : List (Int × Int × Int)) : Prop :=
  H P = some (.lst (pas.map V.ref)) ∧ Paired (fun pa (p : Int × Int × Int) => H pa = some (.lst [.int p.1, .int p.2.1, .int p.2.2])) pas ps ∧ P ∉ pas ∧ pas.Nodup ∧ H0 P = none ∧ (∀ a ∈ pas, H0 a = none) ∧ ∀ b o, H0 b = some o → H b = some o
theorem pools_more {H0 H : Hp} {P pa : Addr} {pas : List Addr} {ps : List (Int × Int × Int)} {p : Int × Int × Int} (h : PoolsAt H0 H P pas ps) (hn : H pa = none) :
    PoolsAt H0 (upd (upd H pa (.lst [.int p.1, .int p.2.1, .int p.2.2])) P (.lst (pas.map V.ref ++ [V.ref pa]))) P (pas ++ [pa]) (ps ++ [p]) := by
  obtain ⟨h1, h2, h3, h4, h5, h6, h7⟩ := h
  have nP : P ≠ pa := ne_of_none h1 hn
  have npa : pa ∉ pas := fun hm => by
    obtain ⟨b, hb⟩ := paired_left h2 hm
    rw [hn] at hb; cases hb
  have z0 : H0 pa = none := by
    cases e : H0 pa with
    | none => rfl
    | some o => rw [h7 _ _ e] at hn; cases hn
  refine ⟨?_, Paired.snoc (paired_mono h2 fun a b ha e => ?_) ?_, ?_, ?_, h5, ?_, fun b o e => ?_⟩
  · rw [upd_same, List.map_append]; rfl
  · rw [upd_ne (show a ≠ P from fun z => h3 (by rw [← z]; exact ha)), upd_ne (show a ≠ pa from fun z => npa (by rw [← z]; exact ha))]; exact e
  · rw [upd_ne nP.symm, upd_same]
  · intro hm
    rcases List.mem_append.mp hm with hm | hm
    · exact h3 hm
    · exact nP (List.mem_singleton.mp hm)
  · rw [List.nodup_append]
    exact ⟨h4, by simp, fun a ha b hb e => npa (by rw [← List.mem_singleton.mp hb, ← e]; exact ha)⟩
  · intro a ha
    rcases List.mem_append.mp ha with ha | ha
    · exact h6 a ha
    · rw [List.mem_singleton.mp ha]; exact z0
  · rw [upd_ne (ne_of_none e h5), upd_ne (ne_of_none e z0)]; exact h7 b o e
theorem poolOf_in {ns : List Int} {k : Nat} {c : Int} (h : ns[k]? = some c) : poolOf ns k = (c, (if decide ((10 : Int) ^ (18 : Int).toNat ≤ c) = true then 1 else 0), 31 * (k : Int)) := by
  unfold poolOf; rw [show ns.getD k 0 = c from by rw [List.getD_eq_getElem?_getD, h]; rfl]
theorem poolOf_out {ns : List Int} {k : Nat} (h : ns.length ≤ k) : poolOf ns k = (0, (if decide ((10 : Int) ^ (18 : Int).toNat ≤ 0) = true then 1 else 0), 31 * (k : Int)) := by
  unfold poolOf; rw [show ns.getD k 0 = 0 from by rw [List.getD_eq_getElem?_getD, List.getElem?_eq_none h]; rfl]
theorem deckLen_eq (ns : List Int) : (if (if (ns.length : Int) < 63 then (ns.length : Int) else 63) > 1 then (if (ns.length : Int) < 63 then (ns.length : Int) else 63) else 1) = ((deckLen ns : Nat) : Int) := by
  unfold deckLen
  split <;> split <;> omega
theorem ok__law_deck {P : Program} {w : World} {K : PySem.W.Frag} {mg : Str → Option Value} {base : Heap} (T : Txt K mg) : FnOk P w K mg base CX0 1 T.f__law_deck.f T.f__law_deck.fd ["script"] (sp__law_deck K) := by
  have nd := (sc__law_deck).nd
  refine T.f__law_deck.F.ok sc__law_deck (fun vs H Q E h => ?_) (fun cdv A0 outer s H vs Q E hr h => ?_)
  · obtain ⟨_, _, rfl, _⟩ := h
    rfl
  obtain ⟨a, ns, rfl, hS, q⟩ := h
  refine ⟨_, pss_cons (ps_set (i := 1) nd rfl (.inl rfl) (pe_lst pa_nil))
    (pss_cons (ps_for PassesOwn.never rfl (pi_range1 (by rfl) T.z_range (pa_cons (pe_callB (call_max2 rfl) (by rfl) T.z_max (by decide +kernel) (pa_cons pe_int (pa_cons (pe_callB (call_min2 rfl) (by rfl) T.z_min (by decide +kernel) (pa_cons pe_int (pa_cons (pe_callB (r := rLenT K) call_lenT (by rfl) T.z_len PySem.boot_len (pa_cons (pv 0) pa_nil)) pa_nil))) pa_nil))) pa_nil)) (pg_name (i := 2) nd rfl (.inl rfl))
      (pss_cons (ps_set (i := 3) nd rfl (.inl rfl) pe_int)
      (Evl.pss_cut (ps_if (pt_cmp (pc_lt (pv 2) (pe_callB (r := rLenT K) call_lenT (by rfl) T.z_len PySem.boot_len (pa_cons (pv 0) pa_nil)))) (pss_one (ps_set (i := 3) nd rfl (.inl rfl) (pe_ix (r := rIxL K) ix_list (pv 0) (pv 2) (fun _ _ => rfl)))) pss_nil)
      (pss_one (ps_expr (pe_bm PySem.F.plainAttrs_list PySem.F.slot_list_append PySem.F.type_list_append mt_append (pv 1) (pa_cons (pe_lst (pa_cons (pv 3) (pa_cons (pe_callTy call_int1 (by rfl) T.z_int (by decide +kernel) (pa_cons (pe_cmp (pc_ge (pv 3) (pe_op op_pow pe_int pe_int))) pa_nil)) (pa_cons (pe_op op_mul pe_int (pv 2)) pa_nil)))) pa_nil)))))))
    (pss_one (ps_ret (pe_lst (pa_cons (pv 1) (pa_cons pe_int pa_nil)))))), ?_⟩
  refine ⟨szle (show 0 ≤ 16777216 by decide), fun P' np => ?_⟩
  have keepS : ∀ H9 : Hp, (∀ b o, H b = some o → H9 b = some o) → SqL K H9 a (ns.map V.int) := fun H9 k => by
    rcases hS with (h | ⟨o, h⟩) | h
    · exact .inl (.inl (k _ _ h))
    · exact .inl (.inr ⟨o, k _ _ h⟩)
    · exact .inr h
  have k1 : ∀ b o, H b = some o → (upd H P' (.lst [])) b = some o := fun b o e => by rw [upd_ne (ne_of_none e np)]; exact e
  refine ⟨_, rfl, _, _, rfl, .inl (keepS _ k1), _, _, rfl, _, _, rfl, ?_⟩
  rw [List.length_map, deckLen_eq]
  refine ⟨_, rfl, by unfold deckLen; omega, by unfold deckLen; omega, ?_⟩
  refine for_rng (lo := 0) (hi := ((deckLen ns : Nat) : Int)) (by rw [Int.sub_zero]) (fun ts σ H1 => ∃ (i : Nat) (pas : List Addr) (y2 y3 : Option V), ts = (irange 0 ((deckLen ns : Nat) : Int)).drop i ∧ i ≤ deckLen ns ∧ PoolsAt H H1 P' pas ((List.range i).map (poolOf ns)) ∧ σ = [some (.ref a), some (.ref P'), y2, y3])
    ⟨0, [], none, none, by rw [List.drop_zero], Nat.zero_le _, ⟨by rw [upd_same]; rfl, .nil, by simp, by simp, np, by simp, k1⟩, rfl⟩ (fun x ts σ H1 hW => ?_) (fun σ H1 hW => ?_)
  · obtain ⟨i, pas, y2, y3, e1, hi, hP, rfl⟩ := hW
    have hlen : (irange 0 ((deckLen ns : Nat) : Int)).length = deckLen ns := by rw [irange_len]; omega
    have hlt : i < deckLen ns := by
      rcases Nat.lt_or_ge i (deckLen ns) with h | h
      · exact h
      · rw [List.drop_of_length_le (by omega)] at e1; cases e1
    have hx : (irange 0 ((deckLen ns : Nat) : Int))[i]? = some (0 + (i : Int)) := irange_get (by omega)
    rw [drop_cons hx] at e1
    obtain ⟨ex, ets⟩ := List.cons.inj e1
    have ex' : x = (i : Int) := by rw [ex, Int.zero_add]
    subst ex'
    obtain ⟨p1, p2, p3, p4, p5, p6, p7⟩ := id hP
    -- cell = 0; if k < len(script): cell = script[k]
    refine ⟨fun σ H2 => H2 = H1 ∧ σ = [some (.ref a), some (.ref P'), some (.int (i : Int)), some (.int (poolOf ns i).1)], ?_, fun σ H2 hM => ?_⟩
    · refine ⟨_, rfl, _, rfl, _, _, rfl, .inl (keepS _ p7), ?_⟩
      rw [List.length_map]
      refine ⟨_, _, rfl, rfl, _, rfl, ?_⟩
      refine ifD (fun hc => ?_) (fun hc => ?_)
      · have hk : i < ns.length := by have := dT hc; omega
        have hg : ns[i]? = some ns[i] := List.getElem?_eq_getElem hk
        refine ⟨_, rfl, _, rfl, _, _, _, _, rfl, rfl, keepS _ p7, atI_nat (j := i) (by rw [List.getElem?_map, hg]; rfl), ?_⟩
        exact ⟨rfl, by rw [poolOf_in hg]; rfl⟩
      · have hk : ns.length ≤ i := by have := dF hc; omega
        exact ⟨rfl, by rw [poolOf_out hk]; rfl⟩
    · obtain ⟨rfl, rfl⟩ := hM
      refine ⟨_, rfl, .inl ⟨rfl, _, .inl (.inl p1)⟩, ?_⟩
      refine ⟨_, rfl, _, rfl, _, _, rfl, rfl, ⟨by decide, by decide, by decide⟩, _, _, rfl, rfl, ?_⟩
      refine .inr ⟨_, rfl, ?_⟩
      refine ⟨_, rfl, _, _, rfl, rfl, .inl ⟨by decide, by decide⟩, ?_⟩
      refine ⟨szle (show 3 ≤ 16777216 by decide), fun pa npa => ?_⟩
      have hp1 : (upd H2 pa (.lst [.int (poolOf ns i).1, .int (poolOf ns i).2.1, .int (poolOf ns i).2.2])) P' = some (.lst (pas.map V.ref)) := by
        rw [upd_ne (ne_of_none p1 npa)]; exact p1
      have hl := paired_len p2
      rw [List.length_map, List.length_range] at hl
      refine ⟨_, _, _, rfl, rfl, hp1, szl (by rw [List.length_map, hl]; unfold deckLen at hlt; omega), ?_⟩
      refine ⟨i + 1, pas ++ [pa], _, _, ets, hlt, ?_, rfl⟩
      rw [List.range_succ, List.map_append]
      exact pools_more (p := poolOf ns i) hP npa
  · obtain ⟨i, pas, y2, y3, e1, hi, hP, rfl⟩ := hW
    have hlen : (irange 0 ((deckLen ns : Nat) : Int)).length = deckLen ns := by rw [irange_len]; omega
    have hge : i = deckLen ns := by
      rcases Nat.lt_or_ge i (deckLen ns) with h | h
      · rw [drop_cons (irange_get (lo := 0) (hi := ((deckLen ns : Nat) : Int)) (by omega))] at e1; cases e1
      · omega
    subst hge
    obtain ⟨p1, p2, p3, p4, p5, p6, p7⟩ := id hP
    refine ⟨_, rfl, ?_⟩
    refine ⟨szle (show 2 ≤ 16777216 by decide), fun dk ndk => ?_⟩
    have nP : P' ≠ dk := ne_of_none p1 ndk
    have npas : dk ∉ pas := fun hm => by
      obtain ⟨b, hb⟩ := paired_left p2 hm
      rw [ndk] at hb; cases hb
    have zdk : H dk = none := by
      cases e : H dk with
      | none => rfl
      | some o => rw [p7 _ _ e] at ndk; cases ndk
    refine q _ dk (fun b => b = dk ∨ b = P' ∨ b ∈ pas) (fun b o e => by rw [upd_ne (ne_of_none e zdk)]; exact p7 b o e) ⟨P', pas, upd_same, by rw [upd_ne nP]; exact p1, paired_mono p2 fun b c hb e => by rw [upd_ne (show b ≠ dk from fun z => npas (by rw [← z]; exact hb))]; exact e, fun _ => Iff.rfl, nP.symm, npas, p3, p4⟩ (fun b hb => ?_)
    rcases hb with e | e | e
    · rw [e]; exact zdk
    · rw [e]; exact p5
    · exact p6 b e
abbrev N__law_lacks : List Str := ["bad", "figures", "at", "one"]
theorem sc__law_lacks : FnScope N__law_lacks ["bad", "figures"] (defScope s__law_lacks) := ⟨rfl, rfl, rfl, by decide +kernel, rfl, by decide +kernel, by decide +kernel⟩
def sp__law_lacks : Sp := fun vs H Q _ => ∃ (F : Hp) (v_bad : V) (v_figures : V) (bad : (List (List Int))) (figures : (List Int)) (r : Bool), vs = [v_bad, v_figures] ∧ Sub F H ∧ R F v_bad bad ∧ R F v_figures figures ∧ _law_lacks bad figures = some r ∧ ∀ N H2 v, Gr NA F H N H2 → R N v r → Q v H2
theorem ok__law_lacks {P : Program} {w : World} {K : PySem.W.Frag} {mg : Str → Option Value} {base : Heap} (T : Txt K mg) : FnOk P w K mg base CX0 1 T.f__law_lacks.f T.f__law_lacks.fd ["bad", "figures"] sp__law_lacks := by
  have nd := (sc__law_lacks).nd
  refine T.f__law_lacks.F.ok sc__law_lacks (fun vs H Q E h => ?_) (fun cdv A0 outer s H vs Q E hr h => ?_)
  · obtain ⟨_, _, _, _, _, _, rfl, _⟩ := h
    rfl
  obtain ⟨F0, v_bad, v_figures, bad, figures, r, rfl, s0, f_bad, f_figures, hm, q⟩ := h
  have G0 : Gr NA F0 H F0 H := Gr.refl s0
  obtain ⟨a1, us1, rfl, fa1, fr1⟩ := lst_of f_bad
  obtain ⟨a2, us2, rfl, fa2, fr2⟩ := lst_of f_figures
  refine ⟨_, (pss_cons (ps_for PassesOwn.never rfl (pi_range1 (by rfl) T.z_range (pa_cons (pe_callB (r := rLenT K) call_lenT (by rfl) T.z_len PySem.boot_len (pa_cons (pv 1) pa_nil)) pa_nil)) (pg_name (i := 2) nd rfl (by first | exact Or.inl rfl | exact Or.inr rfl)) (pss_one (ps_for PassesOwn.never rfl (pi_list (pv 0)) (pg_name (i := 3) nd rfl (by first | exact Or.inl rfl | exact Or.inr rfl)) (pss_one (ps_if (pt_cmpR (op_eqT (α := (List Int)) (by decide) (hu64 hr)) (pe_slice (r := rSlL K) sl_list (pv 1) (po_some (pv 2)) (po_some (pe_op op_add (pv 2) (pe_callB (r := rLenT K) call_lenT (by rfl) T.z_len PySem.boot_len (pa_cons (pv 3) pa_nil))))) (pv 3) (nomark _)) (pss_one (ps_ret pe_bl)) pss_nil))))) (pss_one (ps_ret pe_bl))), ?_⟩
  refine x_start (σ' := ([some (.ref a1), some (.ref a2), none, none] : L2.St)) (by with_unfolding_all rfl) ?_
  rw [_law_lacks] at hm
  with_reducible refine x_seq ?_
  with_reducible refine x_for ?_
  with_reducible refine x_rng1 ?_
  with_reducible refine x_cons ?_
  refine useEv (.int (figures.length : Int)) (by exact (ev_lenT (Evl.ev_var rfl) (G0.sub _ _ fa2) (Rs_mono (Sub.refl _) fr2))) (fun H1 e1 => ?_)
  have g1 := gr_ex G0.sub e1
  have G1 := G0.step g1
  obtain ⟨c1, hm⟩ := guardp hm
  refine ⟨_, rfl, c1.lo, c1.hi, ?_⟩
  refine for_rng (lo := 0) (hi := (figures.length : Int)) (by rw [Int.sub_zero]) (fun (ts1 : List Int) σ H2 => ∃ (F1 : Hp) (y1 : Option V) (y2 : Option V), forK (_law_lacks_b1 figures bad) ts1 () (_law_lacks_e2) = some r ∧ Sub (F0) F1 ∧ Gr NA F0 H F1 H2 ∧ σ = [some (.ref a1), some (.ref a2), y1, y2]) ⟨F0, _, _, hm, (Sub.refl _), G1, rfl⟩ (fun t1 ts2 σ H1 hW => ?_) (fun σ H1 hW => ?_)
  · skip
    obtain ⟨F1, y1, y2, hm, s1, G2, rfl⟩ := hW
    obtain ⟨next1, hnx1⟩ : ∃ nx, nx = fun s => forK (_law_lacks_b1 figures bad) ts2 s (_law_lacks_e2) := ⟨_, rfl⟩
    have hm : (_law_lacks_b1 figures bad) () t1 next1 = some r := by rw [hnx1]; exact forK_c hm
    rw [_law_lacks_b1] at hm
    with_reducible refine x_gnE (σ' := ([some (.ref a1), some (.ref a2), some (.int t1), y2] : L2.St)) (by with_unfolding_all rfl) ?_
    with_reducible refine x_for ?_
    with_reducible refine x_iter ?_
    refine ⟨_, rfl, ?_⟩
    refine ⟨_, rfl, ⟨_, .inl (.inl ((s1.trans G2.sub) _ _ fa1))⟩, ?_⟩
    refine for_lst (α := (List Int)) (fun (ts3 : List (List Int)) σ H3 => ∃ (F2 : Hp) (y3 : Option V), forK (_law_lacks_b3 figures t1) ts3 () (_law_lacks_e4 next1) = some r ∧ Sub (F1) F2 ∧ Gr NA F0 H F2 H3 ∧ σ = [some (.ref a1), some (.ref a2), some (.int t1), y3]) (Rs_mono s1 fr1) ⟨F1, _, hm, (Sub.refl _), G2, rfl⟩ (fun _ _ _ h => ?_) (fun t2 ts4 v2 σ H1 hv2 hW => ?_) (fun σ H1 hW => ?_)
    · obtain ⟨F2, y3, _, s9, G9, _⟩ := h
      exact G9.sub _ _ (s9 _ _ (s1 _ _ fa1))
    · skip
      obtain ⟨F2, y3, hm, s2, G3, rfl⟩ := hW
      obtain ⟨next2, hnx2⟩ : ∃ nx, nx = fun s => forK (_law_lacks_b3 figures t1) ts4 s (_law_lacks_e4 next1) := ⟨_, rfl⟩
      have hm : (_law_lacks_b3 figures t1) () t2 next2 = some r := by rw [hnx2]; exact forK_c hm
      rw [_law_lacks_b3] at hm
      obtain ⟨a3, us3, rfl, fa3, fr3⟩ := lst_of hv2
      with_reducible refine x_gnE (σ' := ([some (.ref a1), some (.ref a2), some (.int t1), some (.ref a3)] : L2.St)) (by with_unfolding_all rfl) ?_
      with_reducible refine x_if ?_
      with_reducible refine x_test ?_
      with_reducible refine x_op ?_
      with_reducible refine x_sl ?_
      refine ⟨_, rfl, ?_⟩
      with_reducible refine x_part ?_
      refine ⟨_, rfl, ?_⟩
      refine ⟨_, rfl, ?_⟩
      with_reducible refine x_part ?_
      refine useEv (.int (t1 + (t2.length : Int))) (by exact (Evl.ev_op (Evl.ev_var rfl) (ev_lenT (Evl.ev_var rfl) ((s2.trans G3.sub) _ _ fa3) (Rs_mono s2 fr3)) Evl.rv_I0)) (fun H4 e2 => ?_)
      have g2 := gr_ex G3.sub e2
      have G4 := G3.step g2
      refine ⟨_, rfl, ?_⟩
      refine ⟨_, _, rfl, .inl (.inl (((s1.trans s2).trans G4.sub) _ _ fa2)), fun p1 np1 => ?_⟩
      have fr4 : Rs (α := Int) (F2) (cutV us2 (some t1) (some (t1 + (t2.length : Int)))) (cutT figures (some t1) (some (t1 + (t2.length : Int)))) := Rs_cut (Rs_mono (s1.trans s2) fr2)
      have g3 := Gr.newO (o := .lst (cutV us2 (some t1) (some (t1 + (t2.length : Int))))) G4.sub np1
      have o1 := Ow.new (us := (cutV us2 (some t1) (some (t1 + (t2.length : Int))))) G4 np1
      have G5 := G4.step g3
      refine ⟨_, rfl, ?_⟩
      refine ⟨_, (cutT figures (some t1) (some (t1 + (t2.length : Int)))), t2, Sub.refl _, (mk_lst o1.at_ (Rs_mono G5.sub fr4)), (RD.mono G5.sub (mk_lst (s2 _ _ fa3) (Rs_mono s2 fr3))), ?_⟩
      refine ⟨_, rfl, ?_⟩
      refine ifD (fun hc => ?_) (fun hc => ?_)
      · replace hm := itep hm hc
        with_reducible refine x_ret ?_
        with_reducible refine x_c ?_
        obtain rfl : _ = r := Option.some.inj hm
        exact q _ _ _ G5 (.bl _)
      · replace hm := iten hm (bF hc)
        with_reducible refine x_next ?_
        rw [hnx2] at hm
        exact ⟨F2, _, hm, s2, G5, rfl⟩
    · skip
      obtain ⟨F2, y3, hm, s3, G6, rfl⟩ := hW
      have hm : (_law_lacks_e4 next1) () = some r := forK_n hm
      rw [_law_lacks_e4] at hm
      rw [hnx1] at hm
      exact ⟨F2, _, _, hm, (s1.trans s3), G6, rfl⟩
  · skip
    obtain ⟨F1, y1, y2, hm, s4, G7, rfl⟩ := hW
    have hm : (_law_lacks_e2) () = some r := forK_n hm
    rw [_law_lacks_e2] at hm
    with_reducible refine x_ret ?_
    with_reducible refine x_c ?_
    obtain rfl : _ = r := Option.some.inj hm
    exact q _ _ _ G7 (.bl _)

abbrev N__law_all : List Str := ["bad", "found", "one", "size"]
theorem sc__law_all : FnScope N__law_all ["bad"] (defScope s__law_all) := ⟨rfl, rfl, rfl, by decide +kernel, rfl, by decide +kernel, by decide +kernel⟩
def sp__law_all : Sp := fun vs H Q _ => ∃ (F : Hp) (v_bad : V) (bad : (List (List Int))) (r : (List (List Int))), vs = [v_bad] ∧ Sub F H ∧ R F v_bad bad ∧ _law_all bad = some r ∧ ∀ N H2 v, Gr NA F H N H2 → R N v r → Q v H2
theorem ok__law_all {P : Program} {w : World} {K : PySem.W.Frag} {mg : Str → Option Value} {base : Heap} (T : Txt K mg) : FnOk P w K mg base CX0 2 T.f__law_all.f T.f__law_all.fd ["bad"] sp__law_all := by
  have nd := (sc__law_all).nd
  refine T.f__law_all.F.ok sc__law_all (fun vs H Q E h => ?_) (fun cdv A0 outer s H vs Q E hr h => ?_)
  · obtain ⟨_, _, _, _, rfl, _⟩ := h
    rfl
  obtain ⟨F0, v_bad, bad, r, rfl, s0, f_bad, hm, q⟩ := h
  have G0 : Gr NA F0 H F0 H := Gr.refl s0
  obtain ⟨a1, us1, rfl, fa1, fr1⟩ := lst_of f_bad
  refine ⟨_, (pss_cons (ps_set (i := 1) nd rfl (by first | exact Or.inl rfl | exact Or.inr rfl) (pe_lst (pa_cons (pe_lst pa_nil) pa_nil))) (pss_cons (ps_for PassesOwn.never rfl (pi_list (pv 0)) (pg_name (i := 2) nd rfl (by first | exact Or.inl rfl | exact Or.inr rfl)) (pss_one (ps_for PassesOwn.never rfl (pi_range2 (by rfl) T.z_range (pa_cons pe_int (pa_cons (pe_callB (r := rLenT K) call_lenT (by rfl) T.z_len PySem.boot_len (pa_cons (pv 2) pa_nil)) pa_nil))) (pg_name (i := 3) nd rfl (by first | exact Or.inl rfl | exact Or.inr rfl)) (pss_one (ps_if (PW.pt (pw_and (pt_cmpR (op_niT (α := (List Int)) (by decide) (hu65 hr)) (pe_slice (r := rSlL K) sl_list (pv 2) po_none (po_some (pv 3))) (pv 1) (by rfl)) (pw_and1 (pt_val (pe_call (ok__law_lacks T) (hr.mono (by decide)) (by rfl) T.f__law_lacks.g T.f__law_lacks.F.kp T.f__law_lacks.b .nil pass0 (pa_cons (pv 0) (pa_cons (pe_slice (r := rSlL K) sl_list (pv 2) po_none (po_some (pv 3))) pa_nil))))))) (pss_one (ps_expr (pe_bm PySem.F.plainAttrs_list PySem.F.slot_list_append PySem.F.type_list_append mt_append (pv 1) (pa_cons (pe_slice (r := rSlL K) sl_list (pv 2) po_none (po_some (pv 3))) pa_nil)))) pss_nil))))) (pss_one (ps_ret (pv 1))))), ?_⟩
  refine x_start (σ' := ([some (.ref a1), none, none, none] : L2.St)) (by with_unfolding_all rfl) ?_
  rw [_law_all] at hm
  with_reducible refine x_seq ?_
  with_reducible refine x_asg ?_
  with_reducible refine x_lst ?_
  with_reducible refine x_cons ?_
  with_reducible refine x_lst ?_
  refine ⟨szle (show 0 ≤ 16777216 from by decide), fun p1 np1 => ?_⟩
  have fr2 : Rs (α := Int) (F0) [] ([] : (List Int)) := Rs_nil
  have g1 := Gr.newO (o := .lst []) G0.sub np1
  have o1 := Ow.new (us := []) G0 np1
  have G1 := G0.step g1
  obtain ⟨F1, G2, ex1, fa2, nf1⟩ := o1.frzE G1
  have fr3 := Rs_mono ex1 fr2
  refine ⟨szle (show 1 ≤ 16777216 from by decide), fun p2 np2 => ?_⟩
  have fr4 : Rs (α := (List Int)) (F1) [(.ref p1)] ([([] : (List Int))] : (List (List Int))) := (Rs_cons (mk_lst ((Sub.refl _) _ _ fa2) (Rs_mono (Sub.refl _) fr3)) Rs_nil)
  have g2 := Gr.newO (o := .lst [(.ref p1)]) G2.sub np2
  have o2 := Ow.new (us := [(.ref p1)]) G2 np2
  have G3 := G2.step g2
  with_reducible refine x_gnE (σ' := ([some (.ref a1), some (.ref p2), none, none] : L2.St)) (by with_unfolding_all rfl) ?_
  with_reducible refine x_seq ?_
  with_reducible refine x_for ?_
  with_reducible refine x_iter ?_
  refine ⟨_, rfl, ?_⟩
  refine ⟨_, rfl, ⟨_, .inl (.inl ((ex1.trans G3.sub) _ _ fa1))⟩, ?_⟩
  refine for_lst (α := (List Int)) (fun (ts1 : List (List Int)) σ H1 => ∃ (F2 : Hp) (x1 : (List (List Int))) (p3 : Addr) (us2 : List V) (y1 : Option V) (y2 : Option V), forK (_law_all_b1 bad) ts1 x1 (_law_all_e2) = some r ∧ Sub (F1) F2 ∧ Gr NA F0 H F2 H1 ∧ Ow H F2 H1 p3 us2 ∧ Rs F2 us2 x1 ∧ σ = [some (.ref a1), some (.ref p3), y1, y2]) (Rs_mono ex1 fr1) ⟨F1, ([([] : (List Int))] : (List (List Int))), _, _, _, _, hm, (Sub.refl _), G3, o2, fr4, rfl⟩ (fun _ _ _ h => ?_) (fun t1 ts2 v1 σ H1 hv1 hW => ?_) (fun σ H1 hW => ?_)
  · obtain ⟨F2, x1, p3, us2, y1, y2, _, s9, G9, _⟩ := h
    exact G9.sub _ _ (s9 _ _ (ex1 _ _ fa1))
  · skip
    obtain ⟨F2, x1, p3, us2, y1, y2, hm, s1, G4, o3, fr5, rfl⟩ := hW
    obtain ⟨next1, hnx1⟩ : ∃ nx, nx = fun s => forK (_law_all_b1 bad) ts2 s (_law_all_e2) := ⟨_, rfl⟩
    have hm : (_law_all_b1 bad) x1 t1 next1 = some r := by rw [hnx1]; exact forK_c hm
    rw [_law_all_b1] at hm
    obtain ⟨a2, us3, rfl, fa3, fr6⟩ := lst_of hv1
    with_reducible refine x_gnE (σ' := ([some (.ref a1), some (.ref p3), some (.ref a2), y2] : L2.St)) (by with_unfolding_all rfl) ?_
    with_reducible refine x_for ?_
    with_reducible refine x_rng2 ?_
    with_reducible refine x_cons ?_
    with_reducible refine x_c ?_
    with_reducible refine x_cons ?_
    refine useEv (.int (t1.length : Int)) (by exact (ev_lenT (Evl.ev_var rfl) ((s1.trans G4.sub) _ _ fa3) (Rs_mono s1 fr6))) (fun H2 e1 => ?_)
    have g3 := gr_ex G4.sub e1
    have G5 := G4.step g3
    have o4 := o3.step g3
    obtain ⟨c1, hm⟩ := guardp hm
    refine ⟨_, _, rfl, c1.ok, ?_⟩
    refine for_rng (lo := (1 : Int)) (hi := (t1.length : Int)) rfl (fun (ts3 : List Int) σ H3 => ∃ (F3 : Hp) (x2 : (List (List Int))) (p4 : Addr) (us4 : List V) (y3 : Option V), forK (_law_all_b3 t1 bad) ts3 x2 (_law_all_e4 next1) = some r ∧ Sub (F2) F3 ∧ Gr NA F0 H F3 H3 ∧ Ow H F3 H3 p4 us4 ∧ Rs F3 us4 x2 ∧ σ = [some (.ref a1), some (.ref p4), some (.ref a2), y3]) ⟨F2, x1, _, _, _, hm, (Sub.refl _), G5, o4, fr5, rfl⟩ (fun t2 ts4 σ H1 hW => ?_) (fun σ H1 hW => ?_)
    · skip
      obtain ⟨F3, x2, p4, us4, y3, hm, s2, G6, o5, fr7, rfl⟩ := hW
      obtain ⟨next2, hnx2⟩ : ∃ nx, nx = fun s => forK (_law_all_b3 t1 bad) ts4 s (_law_all_e4 next1) := ⟨_, rfl⟩
      have hm : (_law_all_b3 t1 bad) x2 t2 next2 = some r := by rw [hnx2]; exact forK_c hm
      rw [_law_all_b3] at hm
      with_reducible refine x_gnE (σ' := ([some (.ref a1), some (.ref p4), some (.ref a2), some (.int t2)] : L2.St)) (by with_unfolding_all rfl) ?_
      with_reducible refine x_if ?_
      with_reducible refine x_and ?_
      with_reducible refine x_test ?_
      with_reducible refine x_op ?_
      with_reducible refine x_sl ?_
      refine ⟨_, rfl, ?_⟩
      with_reducible refine x_nopart ?_
      with_reducible refine x_part ?_
      refine ⟨_, rfl, ?_⟩
      refine ⟨_, rfl, ?_⟩
      refine ⟨_, _, rfl, .inl (.inl (((s1.trans s2).trans G6.sub) _ _ fa3)), fun p5 np3 => ?_⟩
      have fr8 : Rs (α := Int) (F3) (cutV us3 none (some t2)) (cutT t1 none (some t2)) := Rs_cut (Rs_mono (s1.trans s2) fr6)
      have g4 := Gr.newO (o := .lst (cutV us3 none (some t2))) G6.sub np3
      have o6 := Ow.new (us := (cutV us3 none (some t2))) G6 np3
      have ne1 := o5.ne_new np3
      have G7 := G6.step g4
      have o7 := o5.step g4
      refine ⟨_, rfl, ?_⟩
      refine ⟨_, (cutT t1 none (some t2)), x2, Sub.refl _, (mk_lst o6.at_ (Rs_mono G7.sub fr8)), (mk_lst o7.at_ (Rs_mono G7.sub fr7)), ?_⟩
      refine ⟨_, rfl, ?_⟩
      refine ifD (fun hc => ?_) (fun hc => ?_)
      · replace hm := itep hm hc
        with_reducible refine x_B ?_
        with_reducible refine x_call ?_
        with_reducible refine x_cons ?_
        refine ⟨_, rfl, ?_⟩
        with_reducible refine x_cons ?_
        with_reducible refine x_sl ?_
        refine ⟨_, rfl, ?_⟩
        with_reducible refine x_nopart ?_
        with_reducible refine x_part ?_
        refine ⟨_, rfl, ?_⟩
        refine ⟨_, rfl, ?_⟩
        refine ⟨_, _, rfl, .inl (.inl (((s1.trans s2).trans G7.sub) _ _ fa3)), fun p6 np4 => ?_⟩
        have fr9 : Rs (α := Int) (F3) (cutV us3 none (some t2)) (cutT t1 none (some t2)) := Rs_cut (Rs_mono (s1.trans s2) fr6)
        have g5 := Gr.newO (o := .lst (cutV us3 none (some t2))) G7.sub np4
        have o8 := Ow.new (us := (cutV us3 none (some t2))) G7 np4
        have ne2 := o7.ne_new np4
        have ne3 := o6.ne_new np4
        have G8 := G7.step g5
        have o9 := o7.step g5
        have o10 := o6.step g5
        obtain ⟨F4, G9, ex2, fa4, nf2⟩ := o8.frzE G8
        have o11 := o9.frzN (Ne.symm (Ne.symm ne2)) nf2
        have o12 := o10.frzN (Ne.symm (Ne.symm ne3)) nf2
        have fr10 := Rs_mono ex2 fr9
        obtain ⟨r1, hr1, hm⟩ := bindp hm
        refine ⟨_, _, _, bad, (cutT t1 none (some t2)), r1, rfl, G9.sub, (mk_lst ((((ex1.trans s1).trans s2).trans ex2) _ _ fa1) (Rs_mono (((ex1.trans s1).trans s2).trans ex2) fr1)), (mk_lst ((Sub.refl _) _ _ fa4) (Rs_mono (Sub.refl _) fr10)), hr1, fun N1 H4 v3 g6 d1  => ?_⟩
        have G10 := G9.step g6
        have o13 := o11.step g6
        have o14 := o12.step g6
        obtain rfl := bl_of d1
        refine ⟨_, rfl, ?_⟩
        refine ifD (fun hc => ?_) (fun hc => ?_)
        · replace hm := itep hm hc
          with_reducible refine x_drop ?_
          with_reducible refine x_bm ?_
          refine ⟨_, rfl, ?_⟩
          refine ⟨.inl ⟨rfl, _, .inl (.inl o13.at_)⟩, ?_⟩
          with_reducible refine x_cons ?_
          with_reducible refine x_sl ?_
          refine ⟨_, rfl, ?_⟩
          with_reducible refine x_nopart ?_
          with_reducible refine x_part ?_
          refine ⟨_, rfl, ?_⟩
          refine ⟨_, rfl, ?_⟩
          refine ⟨_, _, rfl, .inl (.inl (((((s1.trans s2).trans ex2).trans g6.ex).trans G10.sub) _ _ fa3)), fun p7 np5 => ?_⟩
          have fr11 : Rs (α := Int) (N1) (cutV us3 none (some t2)) (cutT t1 none (some t2)) := Rs_cut (Rs_mono (((s1.trans s2).trans ex2).trans g6.ex) fr6)
          have g7 := Gr.newO (o := .lst (cutV us3 none (some t2))) G10.sub np5
          have o15 := Ow.new (us := (cutV us3 none (some t2))) G10 np5
          have ne4 := o13.ne_new np5
          have G11 := G10.step g7
          have o16 := o13.step g7
          obtain ⟨F5, G12, ex3, fa5, nf3⟩ := o15.frzE G11
          have o17 := o16.frzN (Ne.symm (Ne.symm ne4)) nf3
          have fr12 := Rs_mono ex3 fr11
          obtain ⟨c2, hm⟩ := guardp hm
          refine ⟨_, _, _, rfl, rfl, o17.at_, szl (by rw [Rs_len (Rs_mono ex3 (Rs_mono g6.ex (Rs_mono ex2 fr7)))]; exact c2), ?_⟩
          have G13 := o17.mutG (o := .lst (us4 ++ [(.ref p7)])) G12
          have o18 := o17.mut (ws := us4 ++ [(.ref p7)])
          have fr13 : Rs (α := (List Int)) (F5) (us4 ++ [(.ref p7)]) (x2 ++ [(cutT t1 none (some t2))]) := Rs_snoc (Rs_mono ex3 (Rs_mono g6.ex (Rs_mono ex2 fr7))) (mk_lst ((Sub.refl _) _ _ fa5) (Rs_mono (Sub.refl _) fr12))
          rw [hnx2] at hm
          exact ⟨F5, (x2 ++ [(cutT t1 none (some t2))]), _, _, _, hm, (((s2.trans ex2).trans g6.ex).trans ex3), G13, o18, fr13, rfl⟩
        · replace hm := iten hm (bF hc)
          with_reducible refine x_next ?_
          rw [hnx2] at hm
          exact ⟨N1, x2, _, _, _, hm, ((s2.trans ex2).trans g6.ex), G10, o13, (Rs_mono g6.ex (Rs_mono ex2 fr7)), rfl⟩
      · replace hm := iten hm (bF hc)
        refine iteF ?_
        with_reducible refine x_next ?_
        rw [hnx2] at hm
        exact ⟨F3, x2, _, _, _, hm, s2, G7, o7, fr7, rfl⟩
    · skip
      obtain ⟨F3, x2, p4, us4, y3, hm, s3, G14, o19, fr14, rfl⟩ := hW
      have hm : (_law_all_e4 next1) x2 = some r := forK_n hm
      rw [_law_all_e4] at hm
      rw [hnx1] at hm
      exact ⟨F3, x2, _, _, _, _, hm, (s1.trans s3), G14, o19, fr14, rfl⟩
  · skip
    obtain ⟨F2, x1, p3, us2, y1, y2, hm, s4, G15, o20, fr15, rfl⟩ := hW
    have hm : (_law_all_e2) x1 = some r := forK_n hm
    rw [_law_all_e2] at hm
    with_reducible refine x_ret ?_
    refine ⟨_, rfl, ?_⟩
    obtain ⟨F6, G16, ex4, fa6, nf4⟩ := o20.frzE G15
    have fr16 := Rs_mono ex4 fr15
    obtain rfl : _ = r := Option.some.inj hm
    exact q _ _ _ G16 (mk_lst ((Sub.refl _) _ _ fa6) (Rs_mono (Sub.refl _) fr16))

abbrev N__law_is_rule : List Str := ["thing", "base", "at", "one", "figure"]
theorem sc__law_is_rule : FnScope N__law_is_rule ["thing"] (defScope s__law_is_rule) := ⟨rfl, rfl, rfl, by decide +kernel, rfl, by decide +kernel, by decide +kernel⟩
def sp__law_is_rule : Sp := fun vs H Q _ => ∃ (F : Hp) (v_thing : V) (thing : PyData) (r : Bool), vs = [v_thing] ∧ Sub F H ∧ R F v_thing thing ∧ _law_is_rule thing = some r ∧ ∀ N H2 v, Gr NA F H N H2 → R N v r → Q v H2
theorem ok__law_is_rule {P : Program} {w : World} {K : PySem.W.Frag} {mg : Str → Option Value} {base : Heap} (T : Txt K mg) : FnOk P w K mg base CX0 1 T.f__law_is_rule.f T.f__law_is_rule.fd ["thing"] sp__law_is_rule := by
  have nd := (sc__law_is_rule).nd
  refine T.f__law_is_rule.F.ok sc__law_is_rule (fun vs H Q E h => ?_) (fun cdv A0 outer s H vs Q E hr h => ?_)
  · obtain ⟨_, _, _, _, rfl, _⟩ := h
    rfl
  obtain ⟨F0, v_thing, thing, r, rfl, s0, f_thing, hm, q⟩ := h
  have G0 : Gr NA F0 H F0 H := Gr.refl s0
  refine ⟨_, (pss_cons (ps_if (PW.pt (pw_or (pt_not (pt_val (pe_callB (r := rIsi K) call_isi (by rfl) T.z_isinstance (by decide +kernel) (pa_cons (pv 0) (pa_cons (pe_bltn (v := .ty "tuple") (by rfl) T.z_tuple (by decide +kernel) rfl) pa_nil))))) (pw_or (pt_cmp (pc_neI (pe_callB (r := rLenT K) call_lenT (by rfl) T.z_len PySem.boot_len (pa_cons (pv 0) pa_nil)) pe_int)) (pw_or (pt_not (pt_val (pe_callB (r := rIsi K) call_isi (by rfl) T.z_isinstance (by decide +kernel) (pa_cons (pe_ix (r := rIx K) ix_seq (pv 0) pe_int (fun _ _ => rfl)) (pa_cons (pe_bltn (v := .ty "list") (by rfl) T.z_list (by decide +kernel) rfl) pa_nil))))) (pw_or1 (pt_cmp (pc_gt (pe_callB (r := rLenT K) call_lenT (by rfl) T.z_len PySem.boot_len (pa_cons (pe_ix (r := rIx K) ix_seq (pv 0) pe_int (fun _ _ => rfl)) pa_nil)) pe_int))))))) (pss_one (ps_ret pe_bl)) pss_nil) (pss_cons (ps_set (i := 1) nd rfl (by first | exact Or.inl rfl | exact Or.inr rfl) (pe_ix (r := rIx K) ix_seq (pv 0) pe_int (fun _ _ => rfl))) (pss_cons (ps_if (PW.pt (pw_or (pt_not (pt_val (pe_callB (r := rIsi K) call_isi (by rfl) T.z_isinstance (by decide +kernel) (pa_cons (pv 1) (pa_cons (pe_bltn (v := .ty "int") (by rfl) T.z_int (by decide +kernel) rfl) pa_nil))))) (pw_or (pt_val (pe_callB (r := rIsi K) call_isi (by rfl) T.z_isinstance (by decide +kernel) (pa_cons (pv 1) (pa_cons (pe_bltn (v := .ty "bool") (by rfl) T.z_bool (by decide +kernel) rfl) pa_nil)))) (pw_or1 (pt_not (pt_chain op_le op_le pe_int (pv 1) pe_int)))))) (pss_one (ps_ret pe_bl)) pss_nil) (pss_cons (ps_for PassesOwn.never rfl (pi_enum (by rfl) T.z_enumerate (pa_cons (pe_ix (r := rIx K) ix_seq (pv 0) pe_int (fun _ _ => rfl)) pa_nil)) (pg_tup rfl (pgs_cons (pg_name (i := 2) nd rfl (by first | exact Or.inl rfl | exact Or.inr rfl)) (pgs_cons (pg_name (i := 3) nd rfl (by first | exact Or.inl rfl | exact Or.inr rfl)) pgs_nil))) (pss_cons (ps_if (PW.pt (pw_or (pt_not (pt_val (pe_callB (r := rIsi K) call_isi (by rfl) T.z_isinstance (by decide +kernel) (pa_cons (pv 3) (pa_cons (pe_bltn (v := .ty "list") (by rfl) T.z_list (by decide +kernel) rfl) pa_nil))))) (pw_or1 (pt_not (pt_chain op_le op_le pe_int (pe_callB (r := rLenT K) call_lenT (by rfl) T.z_len PySem.boot_len (pa_cons (pv 3) pa_nil)) pe_int))))) (pss_one (ps_ret pe_bl)) pss_nil) (pss_cons (ps_for PassesOwn.never rfl (pi_list (pv 3)) (pg_name (i := 4) nd rfl (by first | exact Or.inl rfl | exact Or.inr rfl)) (pss_one (ps_if (PW.pt (pw_or (pt_not (pt_val (pe_callB (r := rIsi K) call_isi (by rfl) T.z_isinstance (by decide +kernel) (pa_cons (pv 4) (pa_cons (pe_bltn (v := .ty "int") (by rfl) T.z_int (by decide +kernel) rfl) pa_nil))))) (pw_or (pt_val (pe_callB (r := rIsi K) call_isi (by rfl) T.z_isinstance (by decide +kernel) (pa_cons (pv 4) (pa_cons (pe_bltn (v := .ty "bool") (by rfl) T.z_bool (by decide +kernel) rfl) pa_nil)))) (pw_or1 (pt_not (pt_chain op_le op_lt pe_int (pv 4) (pv 1))))))) (pss_one (ps_ret pe_bl)) pss_nil))) (pss_one (ps_if (PW.pt (pw_and (pt_cmp (pc_gt (pv 2) pe_int)) (pw_and1 (pt_not (pt_cmpR (op_ltA (hu64 hr)) (pe_ix (r := rIx K) ix_seq (pe_ix (r := rIx K) ix_seq (pv 0) pe_int (fun _ _ => rfl)) (pe_op op_sub (pv 2) pe_int) (fun _ _ => rfl)) (pv 3) (nomark _)))))) (pss_one (ps_ret pe_bl)) pss_nil))))) (pss_one (ps_ret pe_bl)))))), ?_⟩
  refine x_start (σ' := ([some v_thing, none, none, none, none] : L2.St)) (by with_unfolding_all rfl) ?_
  rw [_law_is_rule] at hm
  with_reducible refine x_seq ?_
  with_reducible refine x_if ?_
  with_reducible refine x_or ?_
  with_reducible refine x_not ?_
  with_reducible refine x_B ?_
  with_reducible refine x_cb ?_
  with_reducible refine x_cons ?_
  refine ⟨_, rfl, ?_⟩
  with_reducible refine x_cons ?_
  with_reducible refine x_c ?_
  with_reducible refine x_nil ?_
  refine isi_tuple (K := K) G0.sub (RD.mono (Sub.refl _) f_thing) _ ?_
  refine ⟨_, rfl, ?_⟩
  refine ifD (fun hc => ?_) (fun hc => ?_)
  · replace hm := itep hm hc
    refine iteT ?_
    with_reducible refine x_ret ?_
    with_reducible refine x_c ?_
    obtain rfl : _ = r := Option.some.inj hm
    exact q _ _ _ G0 (.bl _)
  · replace hm := iten hm (bF hc)
    with_reducible refine x_or ?_
    with_reducible refine x_B ?_
    with_reducible refine x_cmp ?_
    with_reducible refine x_cb ?_
    with_reducible refine x_cons ?_
    refine ⟨_, rfl, ?_⟩
    obtain ⟨x1, hx1, hm⟩ := bindp hm
    with_reducible refine x_nil ?_
    refine lenD (K := K) G0.sub (RD.mono (Sub.refl _) f_thing) hx1 _ ?_
    with_reducible refine x_c ?_
    refine ⟨_, _, rfl, rfl, ?_⟩
    refine ⟨_, rfl, ?_⟩
    refine ifD (fun hc => ?_) (fun hc => ?_)
    · replace hm := itep hm hc
      refine iteT ?_
      with_reducible refine x_ret ?_
      with_reducible refine x_c ?_
      obtain rfl : _ = r := Option.some.inj hm
      exact q _ _ _ G0 (.bl _)
    · replace hm := iten hm (bF hc)
      with_reducible refine x_or ?_
      with_reducible refine x_not ?_
      with_reducible refine x_B ?_
      with_reducible refine x_cb ?_
      with_reducible refine x_cons ?_
      with_reducible refine x_op ?_
      refine ⟨_, rfl, ?_⟩
      with_reducible refine x_c ?_
      obtain ⟨x2, hx2, hm⟩ := bindp hm
      obtain ⟨x3, hx3, hm⟩ := bindp hm
      obtain ⟨v1, d1, kq1⟩ := ixD (K := K) G0.sub (RD.mono (Sub.refl _) f_thing) hx2 hx3
      refine kq1 _ ?_
      with_reducible refine x_cons ?_
      with_reducible refine x_c ?_
      with_reducible refine x_nil ?_
      refine isi_list (K := K) G0.sub (RD.mono (Sub.refl _) d1) _ ?_
      refine ⟨_, rfl, ?_⟩
      refine ifD (fun hc => ?_) (fun hc => ?_)
      · replace hm := itep hm hc
        refine iteT ?_
        with_reducible refine x_ret ?_
        with_reducible refine x_c ?_
        obtain rfl : _ = r := Option.some.inj hm
        exact q _ _ _ G0 (.bl _)
      · replace hm := iten hm (bF hc)
        with_reducible refine x_B ?_
        with_reducible refine x_cmp ?_
        with_reducible refine x_cb ?_
        with_reducible refine x_cons ?_
        with_reducible refine x_op ?_
        refine ⟨_, rfl, ?_⟩
        with_reducible refine x_c ?_
        obtain ⟨x4, hx4, hm⟩ := bindp hm
        obtain ⟨x5, hx5, hm⟩ := bindp hm
        obtain ⟨v2, d2, kq2⟩ := ixD (K := K) G0.sub (RD.mono (Sub.refl _) f_thing) hx4 hx5
        refine kq2 _ ?_
        obtain ⟨x6, hx6, hm⟩ := bindp hm
        with_reducible refine x_nil ?_
        refine lenD (K := K) G0.sub (RD.mono (Sub.refl _) d2) hx6 _ ?_
        with_reducible refine x_c ?_
        refine ⟨_, _, rfl, rfl, ?_⟩
        refine ⟨_, rfl, ?_⟩
        refine ifD (fun hc => ?_) (fun hc => ?_)
        · replace hm := itep hm hc
          with_reducible refine x_ret ?_
          with_reducible refine x_c ?_
          obtain rfl : _ = r := Option.some.inj hm
          exact q _ _ _ G0 (.bl _)
        · replace hm := iten hm (bF hc)
          with_reducible refine x_next ?_
          with_reducible refine x_seq ?_
          with_reducible refine x_asg ?_
          with_reducible refine x_op ?_
          refine ⟨_, rfl, ?_⟩
          with_reducible refine x_c ?_
          obtain ⟨x7, hx7, hm⟩ := bindp hm
          obtain ⟨x8, hx8, hm⟩ := bindp hm
          obtain ⟨v3, d3, kq3⟩ := ixD (K := K) G0.sub (RD.mono (Sub.refl _) f_thing) hx7 hx8
          refine kq3 _ ?_
          with_reducible refine x_gnE (σ' := ([some v_thing, some v3, none, none, none] : L2.St)) (by with_unfolding_all rfl) ?_
          with_reducible refine x_seq ?_
          with_reducible refine x_if ?_
          with_reducible refine x_or ?_
          with_reducible refine x_not ?_
          with_reducible refine x_B ?_
          with_reducible refine x_cb ?_
          with_reducible refine x_cons ?_
          refine ⟨_, rfl, ?_⟩
          with_reducible refine x_cons ?_
          with_reducible refine x_c ?_
          with_reducible refine x_nil ?_
          refine isi_int (K := K) G0.sub (RD.mono (Sub.refl _) d3) _ ?_
          refine ⟨_, rfl, ?_⟩
          refine ifD (fun hc => ?_) (fun hc => ?_)
          · replace hm := itep hm hc
            refine iteT ?_
            with_reducible refine x_ret ?_
            with_reducible refine x_c ?_
            obtain rfl : _ = r := Option.some.inj hm
            exact q _ _ _ G0 (.bl _)
          · replace hm := iten hm (bF hc)
            with_reducible refine x_or ?_
            with_reducible refine x_B ?_
            with_reducible refine x_cb ?_
            with_reducible refine x_cons ?_
            refine ⟨_, rfl, ?_⟩
            with_reducible refine x_cons ?_
            with_reducible refine x_c ?_
            with_reducible refine x_nil ?_
            refine isi_bool (K := K) G0.sub (RD.mono (Sub.refl _) d3) _ ?_
            refine ⟨_, rfl, ?_⟩
            refine ifD (fun hc => ?_) (fun hc => ?_)
            · replace hm := itep hm hc
              refine iteT ?_
              with_reducible refine x_ret ?_
              with_reducible refine x_c ?_
              obtain rfl : _ = r := Option.some.inj hm
              exact q _ _ _ G0 (.bl _)
            · replace hm := iten hm (bF hc)
              with_reducible refine x_not ?_
              with_reducible refine x_test ?_
              with_reducible refine x_chain ?_
              with_reducible refine x_c ?_
              refine ⟨_, rfl, ?_⟩
              obtain ⟨x9, hx9, hm⟩ := bindp hm
              obtain rfl := asInt_of (RD.mono (Sub.refl _) d3) hx9
              refine ⟨_, _, rfl, rfl, _, rfl, ?_⟩
              refine ifD (fun hc => ?_) (fun hc => ?_)
              · replace hm := itep hm hc
                with_reducible refine x_c ?_
                refine ⟨_, _, rfl, rfl, ?_⟩
                refine ⟨_, rfl, ?_⟩
                refine ifD (fun hc => ?_) (fun hc => ?_)
                · replace hm := itep hm hc
                  with_reducible refine x_ret ?_
                  with_reducible refine x_c ?_
                  obtain rfl : _ = r := Option.some.inj hm
                  exact q _ _ _ G0 (.bl _)
                · replace hm := iten hm (bF hc)
                  with_reducible refine x_next ?_
                  with_reducible refine x_seq ?_
                  with_reducible refine x_for ?_
                  with_reducible refine x_enum ?_
                  with_reducible refine x_cons ?_
                  with_reducible refine x_op ?_
                  refine ⟨_, rfl, ?_⟩
                  with_reducible refine x_c ?_
                  obtain ⟨x10, hx10, hm⟩ := bindp hm
                  obtain ⟨x11, hx11, hm⟩ := bindp hm
                  obtain ⟨v4, d4, kq4⟩ := ixD (K := K) G0.sub (RD.mono (Sub.refl _) f_thing) hx10 hx11
                  refine kq4 _ ?_
                  obtain ⟨x12, hx12, hm⟩ := bindp hm
                  have d5 : R (F0) v4 x12 := asLst_of (RD.mono (Sub.refl _) d4) hx12
                  obtain ⟨a1, us1, rfl, fa1, fr1⟩ := lst_of d5
                  refine ⟨_, _, rfl, .inl (.inl (G0.sub _ _ fa1)), ?_⟩
                  refine for_enum (α := PyData) (fun (ii1 : Nat) (ts1 : List PyData) σ H1 => ∃ (F1 : Hp) (y1 : Option V) (y2 : Option V) (y3 : Option V), forK (_law_is_rule_b1 x9 thing) (List.zipIdx ts1 ii1) () (_law_is_rule_e2) = some r ∧ Sub (F0) F1 ∧ Gr NA F0 H F1 H1 ∧ σ = [some v_thing, some (.int x9), y1, y3, y2]) (Rs_mono (Sub.refl _) fr1) ⟨F0, _, _, _, hm, (Sub.refl _), G0, rfl⟩ (fun _ _ _ _ h => ?_) (fun ii1 t2 ts2 v5 T1 σ H1 hv1 hW np1 => ?_) (fun ii1 σ H1 hW => ?_)
                  · obtain ⟨F1, y1, y2, y3, _, s9, G9, _⟩ := h
                    exact G9.sub _ _ (s9 _ _ ((Sub.refl _) _ _ fa1))
                  · skip
                    obtain ⟨F1, y1, y2, y3, hm, s1, G1, rfl⟩ := hW
                    obtain ⟨t1, rfl, rfl⟩ : ∃ tp : (PyData × Nat), t2 = tp.1 ∧ ii1 = tp.2 := ⟨(_, _), rfl, rfl⟩
                    obtain ⟨next1, hnx1⟩ : ∃ nx, nx = fun s => forK (_law_is_rule_b1 x9 thing) (List.zipIdx ts2 ((t1).2 + 1)) s (_law_is_rule_e2) := ⟨_, rfl⟩
                    have hm : (_law_is_rule_b1 x9 thing) () t1 next1 = some r := by rw [hnx1]; exact forK_c hm
                    rw [_law_is_rule_b1] at hm
                    obtain ⟨F2, g1, fa2⟩ := Gr.newE (o := .tup [(.int ((t1).2 : Int)), v5]) G1.sub np1
                    have G2 := G1.step g1
                    refine ⟨_, _, rfl, .inl (.inl (G2.sub _ _ fa2)), rfl, ?_⟩
                    refine ⟨_, _, rfl, ?_⟩
                    with_reducible refine x_gnE (σ' := ([some v_thing, some (.int x9), some (.int ((t1).2 : Int)), y3, y2] : L2.St)) (by with_unfolding_all rfl) ?_
                    refine ⟨_, _, rfl, ?_⟩
                    with_reducible refine x_gnE (σ' := ([some v_thing, some (.int x9), some (.int ((t1).2 : Int)), some v5, y2] : L2.St)) (by with_unfolding_all rfl) ?_
                    refine ⟨rfl, ?_⟩
                    with_reducible refine x_seq ?_
                    with_reducible refine x_if ?_
                    with_reducible refine x_or ?_
                    with_reducible refine x_not ?_
                    with_reducible refine x_B ?_
                    with_reducible refine x_cb ?_
                    with_reducible refine x_cons ?_
                    refine ⟨_, rfl, ?_⟩
                    with_reducible refine x_cons ?_
                    with_reducible refine x_c ?_
                    with_reducible refine x_nil ?_
                    refine isi_list (K := K) G2.sub (RD.mono (s1.trans g1.ex) hv1) _ ?_
                    refine ⟨_, rfl, ?_⟩
                    refine ifD (fun hc => ?_) (fun hc => ?_)
                    · replace hm := itep hm hc
                      refine iteT ?_
                      with_reducible refine x_ret ?_
                      with_reducible refine x_c ?_
                      obtain rfl : _ = r := Option.some.inj hm
                      exact q _ _ _ G2 (.bl _)
                    · replace hm := iten hm (bF hc)
                      with_reducible refine x_not ?_
                      with_reducible refine x_test ?_
                      with_reducible refine x_chain ?_
                      with_reducible refine x_c ?_
                      with_reducible refine x_cb ?_
                      with_reducible refine x_cons ?_
                      refine ⟨_, rfl, ?_⟩
                      obtain ⟨x13, hx13, hm⟩ := bindp hm
                      with_reducible refine x_nil ?_
                      refine lenD (K := K) G2.sub (RD.mono (s1.trans g1.ex) hv1) hx13 _ ?_
                      refine ⟨_, _, rfl, rfl, _, rfl, ?_⟩
                      refine ifD (fun hc => ?_) (fun hc => ?_)
                      · replace hm := itep hm hc
                        with_reducible refine x_c ?_
                        refine ⟨_, _, rfl, rfl, ?_⟩
                        refine ⟨_, rfl, ?_⟩
                        refine ifD (fun hc => ?_) (fun hc => ?_)
                        · replace hm := itep hm hc
                          with_reducible refine x_ret ?_
                          with_reducible refine x_c ?_
                          obtain rfl : _ = r := Option.some.inj hm
                          exact q _ _ _ G2 (.bl _)
                        · replace hm := iten hm (bF hc)
                          with_reducible refine x_next ?_
                          with_reducible refine x_seq ?_
                          with_reducible refine x_for ?_
                          with_reducible refine x_iter ?_
                          refine ⟨_, rfl, ?_⟩
                          obtain ⟨x14, hx14, hm⟩ := bindp hm
                          have d6 : R (F2) v5 x14 := asLst_of (RD.mono (s1.trans g1.ex) hv1) hx14
                          obtain ⟨a2, us2, rfl, fa3, fr2⟩ := lst_of d6
                          refine ⟨_, rfl, ⟨_, .inl (.inl (G2.sub _ _ fa3))⟩, ?_⟩
                          refine for_lst (α := PyData) (fun (ts3 : List PyData) σ H2 => ∃ (F3 : Hp) (y4 : Option V), forK (_law_is_rule_b3 x9) ts3 () (_law_is_rule_e4 t1 thing next1) = some r ∧ Sub (F2) F3 ∧ Gr NA F0 H F3 H2 ∧ σ = [some v_thing, some (.int x9), some (.int ((t1).2 : Int)), some (.ref a2), y4]) (Rs_mono (Sub.refl _) fr2) ⟨F2, _, hm, (Sub.refl _), G2, rfl⟩ (fun _ _ _ h => ?_) (fun t3 ts4 v6 σ H1 hv2 hW => ?_) (fun σ H1 hW => ?_)
                          · obtain ⟨F3, y4, _, s9, G9, _⟩ := h
                            exact G9.sub _ _ (s9 _ _ ((Sub.refl _) _ _ fa3))
                          · skip
                            obtain ⟨F3, y4, hm, s2, G3, rfl⟩ := hW
                            obtain ⟨next2, hnx2⟩ : ∃ nx, nx = fun s => forK (_law_is_rule_b3 x9) ts4 s (_law_is_rule_e4 t1 thing next1) := ⟨_, rfl⟩
                            have hm : (_law_is_rule_b3 x9) () t3 next2 = some r := by rw [hnx2]; exact forK_c hm
                            rw [_law_is_rule_b3] at hm
                            with_reducible refine x_gnE (σ' := ([some v_thing, some (.int x9), some (.int ((t1).2 : Int)), some (.ref a2), some v6] : L2.St)) (by with_unfolding_all rfl) ?_
                            with_reducible refine x_if ?_
                            with_reducible refine x_or ?_
                            with_reducible refine x_not ?_
                            with_reducible refine x_B ?_
                            with_reducible refine x_cb ?_
                            with_reducible refine x_cons ?_
                            refine ⟨_, rfl, ?_⟩
                            with_reducible refine x_cons ?_
                            with_reducible refine x_c ?_
                            with_reducible refine x_nil ?_
                            refine isi_int (K := K) G3.sub (RD.mono s2 hv2) _ ?_
                            refine ⟨_, rfl, ?_⟩
                            refine ifD (fun hc => ?_) (fun hc => ?_)
                            · replace hm := itep hm hc
                              refine iteT ?_
                              with_reducible refine x_ret ?_
                              with_reducible refine x_c ?_
                              obtain rfl : _ = r := Option.some.inj hm
                              exact q _ _ _ G3 (.bl _)
                            · replace hm := iten hm (bF hc)
                              with_reducible refine x_or ?_
                              with_reducible refine x_B ?_
                              with_reducible refine x_cb ?_
                              with_reducible refine x_cons ?_
                              refine ⟨_, rfl, ?_⟩
                              with_reducible refine x_cons ?_
                              with_reducible refine x_c ?_
                              with_reducible refine x_nil ?_
                              refine isi_bool (K := K) G3.sub (RD.mono s2 hv2) _ ?_
                              refine ⟨_, rfl, ?_⟩
                              refine ifD (fun hc => ?_) (fun hc => ?_)
                              · replace hm := itep hm hc
                                refine iteT ?_
                                with_reducible refine x_ret ?_
                                with_reducible refine x_c ?_
                                obtain rfl : _ = r := Option.some.inj hm
                                exact q _ _ _ G3 (.bl _)
                              · replace hm := iten hm (bF hc)
                                with_reducible refine x_not ?_
                                with_reducible refine x_test ?_
                                with_reducible refine x_chain ?_
                                with_reducible refine x_c ?_
                                refine ⟨_, rfl, ?_⟩
                                obtain ⟨x15, hx15, hm⟩ := bindp hm
                                obtain rfl := asInt_of (RD.mono s2 hv2) hx15
                                refine ⟨_, _, rfl, rfl, _, rfl, ?_⟩
                                refine ifD (fun hc => ?_) (fun hc => ?_)
                                · replace hm := itep hm hc
                                  refine ⟨_, rfl, ?_⟩
                                  refine ⟨_, _, rfl, rfl, ?_⟩
                                  refine ⟨_, rfl, ?_⟩
                                  refine ifD (fun hc => ?_) (fun hc => ?_)
                                  · replace hm := itep hm hc
                                    with_reducible refine x_ret ?_
                                    with_reducible refine x_c ?_
                                    obtain rfl : _ = r := Option.some.inj hm
                                    exact q _ _ _ G3 (.bl _)
                                  · replace hm := iten hm (bF hc)
                                    with_reducible refine x_next ?_
                                    rw [hnx2] at hm
                                    exact ⟨F3, _, hm, s2, G3, rfl⟩
                                · replace hm := iten hm (bF hc)
                                  refine ⟨_, rfl, ?_⟩
                                  refine iteT ?_
                                  with_reducible refine x_ret ?_
                                  with_reducible refine x_c ?_
                                  obtain rfl : _ = r := Option.some.inj hm
                                  exact q _ _ _ G3 (.bl _)
                          · skip
                            obtain ⟨F3, y4, hm, s3, G4, rfl⟩ := hW
                            have hm : (_law_is_rule_e4 t1 thing next1) () = some r := forK_n hm
                            rw [_law_is_rule_e4] at hm
                            with_reducible refine x_if ?_
                            with_reducible refine x_and ?_
                            with_reducible refine x_B ?_
                            refine useEv (.bl (decide ((0 : Int) < ((t1).2 : Int)))) (by exact (ev_cmp (Evl.ev_var rfl) Evl.ev_c)) (fun H3 e1 => ?_)
                            have g2 := gr_ex G4.sub e1
                            have G5 := G4.step g2
                            refine ⟨_, rfl, ?_⟩
                            refine ifD (fun hc => ?_) (fun hc => ?_)
                            · replace hm := itep hm hc
                              with_reducible refine x_not ?_
                              with_reducible refine x_test ?_
                              with_reducible refine x_op ?_
                              with_reducible refine x_op ?_
                              with_reducible refine x_op ?_
                              refine ⟨_, rfl, ?_⟩
                              with_reducible refine x_c ?_
                              obtain ⟨x16, hx16, hm⟩ := bindp hm
                              obtain ⟨x17, hx17, hm⟩ := bindp hm
                              obtain ⟨v7, d7, kq5⟩ := ixD (K := K) G5.sub (RD.mono ((s1.trans g1.ex).trans s3) f_thing) hx16 hx17
                              refine kq5 _ ?_
                              refine useEv (.int (((t1).2 : Int) - (1 : Int))) (by exact (Evl.ev_op (Evl.ev_var rfl) Evl.ev_c Evl.rv_I0)) (fun H4 e2 => ?_)
                              have g3 := gr_ex G5.sub e2
                              have G6 := G5.step g3
                              obtain ⟨x18, hx18, hm⟩ := bindp hm
                              obtain ⟨x19, hx19, hm⟩ := bindp hm
                              obtain ⟨v8, d8, kq6⟩ := ixD (K := K) G6.sub (RD.mono (Sub.refl _) d7) hx18 hx19
                              refine kq6 _ ?_
                              refine ⟨_, rfl, ?_⟩
                              obtain ⟨c1, hm⟩ := guardp hm
                              refine ltA_use (a := x19) (b := (t1).1) G6.sub (RD.mono (Sub.refl _) d8) (RD.mono ((s1.trans g1.ex).trans s3) hv1) c1 ?_
                              refine ⟨_, rfl, ?_⟩
                              refine ifD (fun hc => ?_) (fun hc => ?_)
                              · replace hm := itep hm hc
                                with_reducible refine x_ret ?_
                                with_reducible refine x_c ?_
                                obtain rfl : _ = r := Option.some.inj hm
                                exact q _ _ _ G6 (.bl _)
                              · replace hm := iten hm (bF hc)
                                with_reducible refine x_next ?_
                                rw [hnx1] at hm
                                exact ⟨F3, _, _, _, hm, ((s1.trans g1.ex).trans s3), G6, rfl⟩
                            · replace hm := iten hm (bF hc)
                              refine iteF ?_
                              with_reducible refine x_next ?_
                              rw [hnx1] at hm
                              exact ⟨F3, _, _, _, hm, ((s1.trans g1.ex).trans s3), G5, rfl⟩
                      · replace hm := iten hm (bF hc)
                        refine ⟨_, rfl, ?_⟩
                        refine iteT ?_
                        with_reducible refine x_ret ?_
                        with_reducible refine x_c ?_
                        obtain rfl : _ = r := Option.some.inj hm
                        exact q _ _ _ G2 (.bl _)
                  · skip
                    obtain ⟨F1, y1, y2, y3, hm, s4, G7, rfl⟩ := hW
                    have hm : (_law_is_rule_e2) () = some r := forK_n hm
                    rw [_law_is_rule_e2] at hm
                    with_reducible refine x_ret ?_
                    with_reducible refine x_c ?_
                    obtain rfl : _ = r := Option.some.inj hm
                    exact q _ _ _ G7 (.bl _)
              · replace hm := iten hm (bF hc)
                refine ⟨_, rfl, ?_⟩
                refine iteT ?_
                with_reducible refine x_ret ?_
                with_reducible refine x_c ?_
                obtain rfl : _ = r := Option.some.inj hm
                exact q _ _ _ G0 (.bl _)

abbrev N__law_is_stand : List Str := ["rule", "thing", "kinds", "one"]
theorem sc__law_is_stand : FnScope N__law_is_stand ["rule", "thing"] (defScope s__law_is_stand) := ⟨rfl, rfl, rfl, by decide +kernel, rfl, by decide +kernel, by decide +kernel⟩
def sp__law_is_stand : Sp := fun vs H Q _ => ∃ (F : Hp) (v_rule : V) (v_thing : V) (rule : (Int × (List (List Int)))) (thing : PyData) (r : Bool), vs = [v_rule, v_thing] ∧ Sub F H ∧ R F v_rule rule ∧ R F v_thing thing ∧ _law_is_stand rule thing = some r ∧ ∀ N H2 v, Gr NA F H N H2 → R N v r → Q v H2
theorem ok__law_is_stand {P : Program} {w : World} {K : PySem.W.Frag} {mg : Str → Option Value} {base : Heap} (T : Txt K mg) : FnOk P w K mg base CX0 3 T.f__law_is_stand.f T.f__law_is_stand.fd ["rule", "thing"] sp__law_is_stand := by
  have nd := (sc__law_is_stand).nd
  refine T.f__law_is_stand.F.ok sc__law_is_stand (fun vs H Q E h => ?_) (fun cdv A0 outer s H vs Q E hr h => ?_)
  · obtain ⟨_, _, _, _, _, _, rfl, _⟩ := h
    rfl
  obtain ⟨F0, v_rule, v_thing, rule, thing, r, rfl, s0, f_rule, f_thing, hm, q⟩ := h
  have G0 : Gr NA F0 H F0 H := Gr.refl s0
  obtain ⟨a1, v1, v2, rfl, fa1, d1, d2⟩ := tup2_of f_rule
  obtain rfl := int_of d1
  obtain ⟨a2, us1, rfl, fa2, fr1⟩ := lst_of d2
  refine ⟨_, (pss_cons (ps_if (pt_not (pt_val (pe_callB (r := rIsi K) call_isi (by rfl) T.z_isinstance (by decide +kernel) (pa_cons (pv 1) (pa_cons (pe_bltn (v := .ty "list") (by rfl) T.z_list (by decide +kernel) rfl) pa_nil))))) (pss_one (ps_ret pe_bl)) pss_nil) (pss_cons (ps_setLc (i := 2) (own := [("one", 3)]) (g := (gName 3)) rfl nd rfl rfl (sw_true rfl rfl rfl (by decide +kernel)) (pi_list (pv 1)) (blkOk_by (own := [("one", 3)]) (N := N__law_is_stand) (sc := defScope s__law_is_stand) (by decide +kernel)) (fun _ _ _ _ _ => pg_name (i := 3) nd rfl (Or.inl rfl)) (fun _ _ _ _ _ => pts_nil) (fun _ _ _ _ _ => (pe_and (pe_callB (r := rIsi K) call_isi (by rfl) T.z_isinstance (by decide +kernel) (pa_cons (pv 3) (pa_cons (pe_bltn (v := .ty "int") (by rfl) T.z_int (by decide +kernel) rfl) pa_nil))) (pe_one (pe_not (pe_callB (r := rIsi K) call_isi (by rfl) T.z_isinstance (by decide +kernel) (pa_cons (pv 3) (pa_cons (pe_bltn (v := .ty "bool") (by rfl) T.z_bool (by decide +kernel) rfl) pa_nil)))))))) (pss_one (ps_ret (pe_and (pe_cmpR (op_niT (α := Bool) (by decide) (hu65 hr)) pe_bl (pv 2) (by rfl)) (pe_one (pe_cmpR (op_inT (α := (List Int)) (by decide) (hu65 hr)) (pv 1) (pe_call (ok__law_all T) (hr.mono (by decide)) (by rfl) T.f__law_all.g T.f__law_all.F.kp T.f__law_all.b .nil pass0 (pa_cons (pe_ix (r := rIxT K) ix_tup (pv 0) pe_int (fun _ _ => rfl)) pa_nil)) (by rfl)))))))), ?_⟩
  refine x_start (σ' := ([some (.ref a1), some v_thing, none, none] : L2.St)) (by with_unfolding_all rfl) ?_
  rw [_law_is_stand] at hm
  with_reducible refine x_seq ?_
  with_reducible refine x_if ?_
  with_reducible refine x_not ?_
  with_reducible refine x_B ?_
  with_reducible refine x_cb ?_
  with_reducible refine x_cons ?_
  refine ⟨_, rfl, ?_⟩
  with_reducible refine x_cons ?_
  with_reducible refine x_c ?_
  with_reducible refine x_nil ?_
  refine isi_list (K := K) G0.sub (RD.mono (Sub.refl _) f_thing) _ ?_
  refine ⟨_, rfl, ?_⟩
  refine ifD (fun hc => ?_) (fun hc => ?_)
  · replace hm := itep hm hc
    with_reducible refine x_ret ?_
    with_reducible refine x_c ?_
    obtain rfl : _ = r := Option.some.inj hm
    exact q _ _ _ G0 (.bl _)
  · replace hm := iten hm (bF hc)
    with_reducible refine x_next ?_
    with_reducible refine x_seq ?_
    with_reducible refine x_asg ?_
    with_reducible refine x_lc ?_
    with_reducible refine x_iter ?_
    refine ⟨_, rfl, ?_⟩
    obtain ⟨x1, hx1, hm⟩ := bindp hm
    have d3 : R (F0) v_thing x1 := asLst_of (RD.mono (Sub.refl _) f_thing) hx1
    obtain ⟨a3, us2, rfl, fa3, fr2⟩ := lst_of d3
    refine ⟨_, rfl, ⟨_, .inl (.inl (G0.sub _ _ fa3))⟩, fun p1 np1 => ?_⟩
    have g1 := Gr.newO (o := .lst []) G0.sub np1
    have o1 := Ow.new (us := []) G0 np1
    have G1 := G0.step g1
    refine lc_lst (α := PyData) (fun (ts1 : List PyData) H1 => ∃ (F1 : Hp) (x3 : List Bool) (us4 : List V), forK (_law_is_stand_c1) ts1 x3 (_law_is_stand_k2 rule thing) = some r ∧ Sub (F0) F1 ∧ Gr NA F0 H F1 H1 ∧ Ow H F1 H1 p1 us4 ∧ Rs F1 us4 x3) (Rs_mono (Sub.refl _) fr2) ⟨F0, ([] : List Bool), _, hm, (Sub.refl _), G1, o1, Rs_nil⟩ (fun _ _ h => ?_) (fun t1 ts2 v3 H1 hv1 hW => ?_) (fun H1 hW => ?_)
    · obtain ⟨F9, _, _, _, s9, G9, _⟩ := h
      exact G9.sub _ _ (s9 _ _ ((Sub.refl _) _ _ fa3))
    · skip
      obtain ⟨F1, x3, us4, hm, s1, G2, o2, fr3⟩ := hW
      obtain ⟨next1, hnx1⟩ : ∃ nx, nx = fun s => forK (_law_is_stand_c1) ts2 s (_law_is_stand_k2 rule thing) := ⟨_, rfl⟩
      have hm : (_law_is_stand_c1) x3 t1 next1 = some r := by rw [hnx1]; exact forK_c hm
      rw [_law_is_stand_c1] at hm
      with_reducible refine x_gnE (σ' := ([some (.ref a1), some (.ref a3), none, some v3] : L2.St)) (by with_unfolding_all rfl) ?_
      refine ⟨rfl, ?_⟩
      with_reducible refine x_yes ?_
      refine iteT ?_
      with_reducible refine x_andV ?_
      with_reducible refine x_cb ?_
      with_reducible refine x_cons ?_
      refine ⟨_, rfl, ?_⟩
      with_reducible refine x_cons ?_
      with_reducible refine x_c ?_
      with_reducible refine x_nil ?_
      refine isi_int (K := K) G2.sub (RD.mono s1 hv1) _ ?_
      refine ⟨_, rfl, ?_⟩
      refine ifD (fun hc => ?_) (fun hc => ?_)
      · replace hm := itep hm hc
        with_reducible refine x_notV ?_
        with_reducible refine x_cb ?_
        with_reducible refine x_cons ?_
        refine ⟨_, rfl, ?_⟩
        with_reducible refine x_cons ?_
        with_reducible refine x_c ?_
        with_reducible refine x_nil ?_
        refine isi_bool (K := K) G2.sub (RD.mono s1 hv1) _ ?_
        refine ⟨_, rfl, ?_⟩
        obtain ⟨c1, hm⟩ := guardp hm
        have G3 := o2.mutG (o := .lst (us4 ++ [(.bl (!(isBlD t1)))])) G2
        have o3 := o2.mut (ws := us4 ++ [(.bl (!(isBlD t1)))])
        have fr4 : Rs (α := Bool) (F1) (us4 ++ [(.bl (!(isBlD t1)))]) (x3 ++ [(!(isBlD t1))]) := Rs_snoc fr3 (.bl _)
        rw [hnx1] at hm
        exact ⟨_, o2.at_, szl (by rw [Rs_len fr3]; exact c1), ⟨F1, (x3 ++ [(!(isBlD t1))]), _, hm, s1, G3, o3, fr4⟩⟩
      · replace hm := iten hm (bF hc)
        obtain ⟨c2, hm⟩ := guardp hm
        have G4 := o2.mutG (o := .lst (us4 ++ [(.bl false)])) G2
        have o4 := o2.mut (ws := us4 ++ [(.bl false)])
        have fr5 : Rs (α := Bool) (F1) (us4 ++ [(.bl false)]) (x3 ++ [false]) := Rs_snoc fr3 (.bl _)
        rw [hnx1] at hm
        exact ⟨_, o2.at_, szl (by rw [Rs_len fr3]; exact c2), ⟨F1, (x3 ++ [false]), _, hm, s1, G4, o4, fr5⟩⟩
    · skip
      obtain ⟨F1, x3, us4, hm, s2, G5, o5, fr6⟩ := hW
      have hm : (_law_is_stand_k2 rule thing) x3 = some r := forK_n hm
      rw [_law_is_stand_k2] at hm
      obtain ⟨F2, G6, ex1, fa4, nf1⟩ := o5.frzE G5
      have fr7 := Rs_mono ex1 fr6
      with_reducible refine x_gnE (σ' := ([some (.ref a1), some (.ref a3), some (.ref p1), none] : L2.St)) (by with_unfolding_all rfl) ?_
      with_reducible refine x_ret ?_
      with_reducible refine x_andV ?_
      with_reducible refine x_op ?_
      with_reducible refine x_c ?_
      refine ⟨_, rfl, ?_⟩
      refine ⟨_, false, x3, Sub.refl _, (RD.mono G6.sub (.bl _)), (RD.mono G6.sub (mk_lst ((Sub.refl _) _ _ fa4) (Rs_mono (Sub.refl _) fr7))), ?_⟩
      refine ⟨_, rfl, ?_⟩
      refine ifD (fun hc => ?_) (fun hc => ?_)
      · replace hm := itep hm hc
        with_reducible refine x_op ?_
        refine ⟨_, rfl, ?_⟩
        with_reducible refine x_call ?_
        with_reducible refine x_cons ?_
        with_reducible refine x_op ?_
        refine ⟨_, rfl, ?_⟩
        refine ⟨_, _, _, _, rfl, rfl, .inl (.inl (((s2.trans ex1).trans G6.sub) _ _ fa1)), atI_nat (j := 1) rfl, ?_⟩
        obtain ⟨r1, hr1, hm⟩ := bindp hm
        refine ⟨_, _, (rule).2, r1, rfl, G6.sub, (mk_lst ((s2.trans ex1) _ _ fa2) (Rs_mono (s2.trans ex1) fr1)), hr1, fun N1 H2 v4 g2 d4  => ?_⟩
        have G7 := G6.step g2
        obtain ⟨a4, us5, rfl, fa5, fr8⟩ := lst_of d4
        obtain ⟨x4, hx2, hm⟩ := bindp hm
        have d5 : R (N1) (.ref a3) x4 := un_of (RD.mono ((s2.trans ex1).trans g2.ex) f_thing) hx2
        obtain ⟨us6, fa6, fr9⟩ := lst_ref d5
        refine ⟨_, x4, r1, Sub.refl _, (RD.mono G7.sub (mk_lst ((Sub.refl _) _ _ fa6) (Rs_mono (Sub.refl _) fr9))), (RD.mono G7.sub (mk_lst ((Sub.refl _) _ _ fa5) (Rs_mono (Sub.refl _) fr8))), ?_⟩
        obtain rfl : _ = r := Option.some.inj hm
        exact q _ _ _ G7 (.bl _)
      · replace hm := iten hm (bF hc)
        obtain rfl : _ = r := Option.some.inj hm
        exact q _ _ _ G6 (.bl _)

abbrev N__law_no_base : List Str := ["deck", "some"]
theorem sc__law_no_base : FnScope N__law_no_base ["deck"] (defScope s__law_no_base) := ⟨rfl, rfl, rfl, by decide +kernel, rfl, by decide +kernel, by decide +kernel⟩
def sp__law_no_base : Sp := fun vs H Q _ => ∃ (F : Hp) (A : Addr → Prop) (dk : Addr) (st : DkS) (r : PyData) (stR : DkS), vs = [.ref dk] ∧ Sub F H ∧ Deck A H dk st ∧ (∀ a, A a → F a = none) ∧ _law_no_base st = some (r, stR) ∧ ∀ N H2 v, Gr A F H N H2 → Deck A H2 dk stR → R N v r → Q v H2
theorem ok__law_no_base {P : Program} {w : World} {K : PySem.W.Frag} {mg : Str → Option Value} {base : Heap} (T : Txt K mg) : FnOk P w K mg base CX0 2 T.f__law_no_base.f T.f__law_no_base.fd ["deck"] sp__law_no_base := by
  have nd := (sc__law_no_base).nd
  refine T.f__law_no_base.F.ok sc__law_no_base (fun vs H Q E h => ?_) (fun cdv A0 outer s H vs Q E hr h => ?_)
  · obtain ⟨_, _, _, _, _, _, rfl, _⟩ := h
    rfl
  obtain ⟨F0, A, dk, st, r, stR, rfl, s0, hdk, hnf, hm, q⟩ := h
  have G0 : Gr A F0 H F0 H := Gr.refl s0
  have dk0 := DkAt.mk0 hdk hnf
  refine ⟨_, (pss_cons (ps_set (i := 1) nd rfl (by first | exact Or.inl rfl | exact Or.inr rfl) (pe_lst (pa_cons pe_int (pa_cons pe_int (pa_cons (pe_un un_neg pe_int) (pa_cons pe_int (pa_cons (pe_op op_add pe_int (pe_call (ok__law_draw T) (hr.mono (by decide)) (by rfl) T.f__law_draw.g T.f__law_draw.F.kp T.f__law_draw.b .nil pass0 (pa_cons (pv 0) (pa_cons pe_int pa_nil)))) (pa_cons (pe_op op_sub (pe_un un_neg pe_int) (pe_call (ok__law_draw T) (hr.mono (by decide)) (by rfl) T.f__law_draw.g T.f__law_draw.F.kp T.f__law_draw.b .nil pass0 (pa_cons (pv 0) (pa_cons pe_int pa_nil)))) (pa_cons (pe_op op_pow pe_int pe_int) (pa_cons pe_bl (pa_cons pe_bl (pa_cons pe_non (pa_cons pe_str (pa_cons (pe_lst (pa_cons pe_int pa_nil)) pa_nil)))))))))))))) (pss_one (ps_ret (pe_ix (r := rIxL K) ix_list (pe_op op_cat (pv 1) (pe_lst (pa_cons (pe_tup (pa_cons pe_int pa_nil)) (pa_cons pe_dnewK (pa_cons pe_str (pa_cons (pe_lst pa_nil) pa_nil)))))) (pe_call (ok__law_draw T) (hr.mono (by decide)) (by rfl) T.f__law_draw.g T.f__law_draw.F.kp T.f__law_draw.b .nil pass0 (pa_cons (pv 0) (pa_cons pe_int pa_nil))) (fun _ _ => rfl))))), ?_⟩
  refine x_start (σ' := ([some (.ref dk), none] : L2.St)) (by with_unfolding_all rfl) ?_
  rw [_law_no_base] at hm
  with_reducible refine x_seq ?_
  with_reducible refine x_asg ?_
  with_reducible refine x_lst ?_
  with_reducible refine x_cons ?_
  with_reducible refine x_c ?_
  have d1 : R (α := PyData) (F0) (.int 1) (PyData.int (1 : Int)) := (.int _)
  with_reducible refine x_cons ?_
  with_reducible refine x_c ?_
  have d2 : R (α := PyData) (F0) (.int 0) (PyData.int (0 : Int)) := (.int _)
  with_reducible refine x_cons ?_
  refine useEv (.int (-(2 : Int))) (by exact (Evl.ev_un Evl.ev_c Evl.ru_neg)) (fun H1 e1 => ?_)
  have g1 := gr_ex G0.sub e1
  have G1 := G0.step g1
  have dk1 := dk0.step g1
  have d3 : R (α := PyData) (F0) (.int (-(2 : Int))) (PyData.int (-(2 : Int))) := (.int _)
  with_reducible refine x_cons ?_
  with_reducible refine x_c ?_
  have d4 : R (α := PyData) (F0) (.int 17) (PyData.int (17 : Int)) := (.int _)
  with_reducible refine x_cons ?_
  with_reducible refine x_op ?_
  with_reducible refine x_c ?_
  with_reducible refine x_call ?_
  with_reducible refine x_cons ?_
  refine ⟨_, rfl, ?_⟩
  with_reducible refine x_cons ?_
  with_reducible refine x_c ?_
  obtain ⟨⟨r1, st1⟩, hr1, hm⟩ := bindp hm
  refine ⟨_, _, _, _, _, (90 : Int), r1, st1, rfl, G1.sub, dk1.at_, dk1.nf, (.int _), hr1, fun N1 H2 v1 g2 dk2 d5 => ?_⟩
  have G2 := G1.trans g2
  have dk3 := dk1.stepA g2 dk2
  obtain rfl := int_of d5
  refine ⟨_, _, rfl, rfl, ?_⟩
  have d6 : R (α := PyData) (N1) (.int ((17 : Int) + r1)) (PyData.int ((17 : Int) + r1)) := (.int _)
  with_reducible refine x_cons ?_
  with_reducible refine x_op ?_
  refine useEv (.int (-(1 : Int))) (by exact (Evl.ev_un Evl.ev_c Evl.ru_neg)) (fun H3 e2 => ?_)
  have g3 := gr_ex G2.sub e2
  have G3 := G2.step g3
  have dk4 := dk3.step g3
  with_reducible refine x_call ?_
  with_reducible refine x_cons ?_
  refine ⟨_, rfl, ?_⟩
  with_reducible refine x_cons ?_
  with_reducible refine x_c ?_
  obtain ⟨⟨r2, st2⟩, hr2, hm⟩ := bindp hm
  refine ⟨_, _, _, _, _, (90 : Int), r2, st2, rfl, G3.sub, dk4.at_, dk4.nf, (.int _), hr2, fun N2 H4 v2 g4 dk5 d7 => ?_⟩
  have G4 := G3.trans g4
  have dk6 := dk4.stepA g4 dk5
  obtain rfl := int_of d7
  refine ⟨_, _, rfl, rfl, ?_⟩
  have d8 : R (α := PyData) (N2) (.int ((-(1 : Int)) - r2)) (PyData.int ((-(1 : Int)) - r2)) := (.int _)
  with_reducible refine x_cons ?_
  with_reducible refine x_op ?_
  refine ⟨_, _, rfl, rfl, ⟨by decide, by decide, by decide⟩, ?_⟩
  have d9 : R (α := PyData) (N2) (.int ((10 : Int) ^ (25 : Int).toNat)) (PyData.int ((10 : Int) ^ (25 : Int).toNat)) := (.int _)
  with_reducible refine x_cons ?_
  with_reducible refine x_c ?_
  have d10 : R (α := PyData) (N2) (.bl true) (PyData.bool true) := (.bl _)
  with_reducible refine x_cons ?_
  with_reducible refine x_c ?_
  have d11 : R (α := PyData) (N2) (.bl false) (PyData.bool false) := (.bl _)
  with_reducible refine x_cons ?_
  with_reducible refine x_c ?_
  have d12 : R (α := PyData) (N2) .non PyData.none := .non
  with_reducible refine x_cons ?_
  with_reducible refine x_c ?_
  have d13 : R (α := PyData) (N2) (.str ("10" : Str)) (PyData.str ("10" : Str)) := (.str _)
  with_reducible refine x_cons ?_
  with_reducible refine x_lst ?_
  with_reducible refine x_cons ?_
  with_reducible refine x_c ?_
  refine ⟨szle (show 1 ≤ 16777216 from by decide), fun p1 np1 => ?_⟩
  have fr1 : Rs (α := Int) (N2) [(.int 10)] ([(10 : Int)] : (List Int)) := (Rs_cons (.int _) Rs_nil)
  have g5 := Gr.newO (o := .lst [(.int 10)]) G4.sub np1
  have o1 := Ow.new (us := [(.int 10)]) G4 np1
  have G5 := G4.step g5
  have dk7 := dk6.step g5
  obtain ⟨F1, G6, ex1, fa1, nf1⟩ := o1.frzE G5
  have fr2 := Rs_mono ex1 fr1
  have dk8 := dk7.frzN o1 ex1 nf1
  have d14 : R (α := PyData) (F1) (.ref p1) (PyData.list (([(10 : Int)] : (List Int)).map fun z => (PyData.int z))) := (mk_lst ((Sub.refl _) _ _ fa1) (Rs_mono (Sub.refl _) fr2))
  refine ⟨szle (show 12 ≤ 16777216 from by decide), fun p2 np2 => ?_⟩
  have fr3 : Rs (α := PyData) (F1) [(.int 1), (.int 0), (.int (-(2 : Int))), (.int 17), (.int ((17 : Int) + r1)), (.int ((-(1 : Int)) - r2)), (.int ((10 : Int) ^ (25 : Int).toNat)), (.bl true), (.bl false), .non, (.str ("10" : Str)), (.ref p1)] ([(PyData.int (1 : Int)), (PyData.int (0 : Int)), (PyData.int (-(2 : Int))), (PyData.int (17 : Int)), (PyData.int ((17 : Int) + r1)), (PyData.int ((-(1 : Int)) - r2)), (PyData.int ((10 : Int) ^ (25 : Int).toNat)), (PyData.bool true), (PyData.bool false), PyData.none, (PyData.str ("10" : Str)), (PyData.list (([(10 : Int)] : (List Int)).map fun z => (PyData.int z)))] : (List PyData)) := (Rs_cons (RD.mono ((g2.ex.trans g4.ex).trans ex1) d1) (Rs_cons (RD.mono ((g2.ex.trans g4.ex).trans ex1) d2) (Rs_cons (RD.mono ((g2.ex.trans g4.ex).trans ex1) d3) (Rs_cons (RD.mono ((g2.ex.trans g4.ex).trans ex1) d4) (Rs_cons (RD.mono (g4.ex.trans ex1) d6) (Rs_cons (RD.mono ex1 d8) (Rs_cons (RD.mono ex1 d9) (Rs_cons (RD.mono ex1 d10) (Rs_cons (RD.mono ex1 d11) (Rs_cons (RD.mono ex1 d12) (Rs_cons (RD.mono ex1 d13) (Rs_cons (RD.mono (Sub.refl _) d14) Rs_nil))))))))))))
  have g6 := Gr.newO (o := .lst [(.int 1), (.int 0), (.int (-(2 : Int))), (.int 17), (.int ((17 : Int) + r1)), (.int ((-(1 : Int)) - r2)), (.int ((10 : Int) ^ (25 : Int).toNat)), (.bl true), (.bl false), .non, (.str ("10" : Str)), (.ref p1)]) G6.sub np2
  have o2 := Ow.new (us := [(.int 1), (.int 0), (.int (-(2 : Int))), (.int 17), (.int ((17 : Int) + r1)), (.int ((-(1 : Int)) - r2)), (.int ((10 : Int) ^ (25 : Int).toNat)), (.bl true), (.bl false), .non, (.str ("10" : Str)), (.ref p1)]) G6 np2
  have G7 := G6.step g6
  have dk9 := dk8.step g6
  obtain ⟨F2, G8, ex2, fa2, nf2⟩ := o2.frzE G7
  have fr4 := Rs_mono ex2 fr3
  have dk10 := dk9.frzN o2 ex2 nf2
  obtain ⟨x1, hx1, hm⟩ := bindp hm
  replace hx1 := Option.some.inj hx1
  have fr5 : Rs (α := PyData) (F2) [(.int 1), (.int 0), (.int (-(2 : Int))), (.int 17), (.int ((17 : Int) + r1)), (.int ((-(1 : Int)) - r2)), (.int ((10 : Int) ^ (25 : Int).toNat)), (.bl true), (.bl false), .non, (.str ("10" : Str)), (.ref p1)] x1 := by rw [← hx1]; exact (Rs_mono (Sub.refl _) fr4)
  have fa3 := (Sub.refl _) _ _ fa2
  clear hx1
  with_reducible refine x_gnE (σ' := ([some (.ref dk), some (.ref p2)] : L2.St)) (by with_unfolding_all rfl) ?_
  with_reducible refine x_ret ?_
  with_reducible refine x_op ?_
  with_reducible refine x_op ?_
  refine ⟨_, rfl, ?_⟩
  with_reducible refine x_lst ?_
  with_reducible refine x_cons ?_
  with_reducible refine x_tup ?_
  with_reducible refine x_cons ?_
  with_reducible refine x_c ?_
  have d15 : R (α := PyData) (F2) (.int 10) (PyData.int (10 : Int)) := (.int _)
  refine ⟨szle (show 1 ≤ 16777216 from by decide), fun p3 np3 => ?_⟩
  obtain ⟨F3, g7, fa4⟩ := Gr.newE (o := .tup [(.int 10)]) G8.sub np3
  have G9 := G8.step g7
  have dk11 := dk10.step g7
  have d16 : R (α := PyData) (F3) (.ref p3) (PyData.tuple [(PyData.int (10 : Int))]) := .tup fa4 (.cons (RD.mono g7.ex d15) .nil)
  with_reducible refine x_cons ?_
  refine fun p4 np4 => ?_
  obtain ⟨F4, g8, fa5⟩ := Gr.newE (o := .dK []) G9.sub np4
  have G10 := G9.step g8
  have dk12 := dk11.step g8
  have d17 : R (α := PyData) (F4) (.ref p4) (PyData.dict []) := .dic fa5 .nil
  with_reducible refine x_cons ?_
  with_reducible refine x_c ?_
  have d18 : R (α := PyData) (F4) (.str ("" : Str)) (PyData.str ("" : Str)) := (.str _)
  with_reducible refine x_cons ?_
  with_reducible refine x_lst ?_
  refine ⟨szle (show 0 ≤ 16777216 from by decide), fun p5 np5 => ?_⟩
  have fr6 : Rs (α := PyData) (F4) [] ([] : (List PyData)) := Rs_nil
  have g9 := Gr.newO (o := .lst []) G10.sub np5
  have o3 := Ow.new (us := []) G10 np5
  have G11 := G10.step g9
  have dk13 := dk12.step g9
  obtain ⟨F5, G12, ex3, fa6, nf3⟩ := o3.frzE G11
  have fr7 := Rs_mono ex3 fr6
  have dk14 := dk13.frzN o3 ex3 nf3
  have d19 : R (α := PyData) (F5) (.ref p5) (PyData.list ([] : (List PyData))) := (R_anyL (mk_lst ((Sub.refl _) _ _ fa6) (Rs_mono (Sub.refl _) fr7)))
  refine ⟨szle (show 4 ≤ 16777216 from by decide), fun p6 np6 => ?_⟩
  have fr8 : Rs (α := PyData) (F5) [(.ref p3), (.ref p4), (.str ("" : Str)), (.ref p5)] ([(PyData.tuple [(PyData.int (10 : Int))]), (PyData.dict []), (PyData.str ("" : Str)), (PyData.list ([] : (List PyData)))] : (List PyData)) := (Rs_cons (RD.mono (g8.ex.trans ex3) d16) (Rs_cons (RD.mono ex3 d17) (Rs_cons (RD.mono ex3 d18) (Rs_cons (RD.mono (Sub.refl _) d19) Rs_nil))))
  have g10 := Gr.newO (o := .lst [(.ref p3), (.ref p4), (.str ("" : Str)), (.ref p5)]) G12.sub np6
  have o4 := Ow.new (us := [(.ref p3), (.ref p4), (.str ("" : Str)), (.ref p5)]) G12 np6
  have G13 := G12.step g10
  have dk15 := dk14.step g10
  obtain ⟨c1, hm⟩ := guardp hm
  refine ⟨_, _, _, _, rfl, rfl, ((((g7.ex.trans g8.ex).trans ex3).trans G13.sub) _ _ fa3), o4.at_, szle (by rw [Rs_len (Rs_mono ((g7.ex.trans g8.ex).trans ex3) fr5), Rs_len fr8]; exact c1), fun p7 np7 => ?_⟩
  have fr9 : Rs (α := PyData) (F5) ([(.int 1), (.int 0), (.int (-(2 : Int))), (.int 17), (.int ((17 : Int) + r1)), (.int ((-(1 : Int)) - r2)), (.int ((10 : Int) ^ (25 : Int).toNat)), (.bl true), (.bl false), .non, (.str ("10" : Str)), (.ref p1)] ++ [(.ref p3), (.ref p4), (.str ("" : Str)), (.ref p5)]) (x1 ++ ([(PyData.tuple [(PyData.int (10 : Int))]), (PyData.dict []), (PyData.str ("" : Str)), (PyData.list ([] : (List PyData)))] : (List PyData))) := Rs_app (Rs_mono ((g7.ex.trans g8.ex).trans ex3) fr5) fr8
  have g11 := Gr.newO (o := .lst ([(.int 1), (.int 0), (.int (-(2 : Int))), (.int 17), (.int ((17 : Int) + r1)), (.int ((-(1 : Int)) - r2)), (.int ((10 : Int) ^ (25 : Int).toNat)), (.bl true), (.bl false), .non, (.str ("10" : Str)), (.ref p1)] ++ [(.ref p3), (.ref p4), (.str ("" : Str)), (.ref p5)])) G13.sub np7
  have o5 := Ow.new (us := ([(.int 1), (.int 0), (.int (-(2 : Int))), (.int 17), (.int ((17 : Int) + r1)), (.int ((-(1 : Int)) - r2)), (.int ((10 : Int) ^ (25 : Int).toNat)), (.bl true), (.bl false), .non, (.str ("10" : Str)), (.ref p1)] ++ [(.ref p3), (.ref p4), (.str ("" : Str)), (.ref p5)])) G13 np7
  have G14 := G13.step g11
  have dk16 := dk15.step g11
  with_reducible refine x_call ?_
  with_reducible refine x_cons ?_
  refine ⟨_, rfl, ?_⟩
  with_reducible refine x_cons ?_
  with_reducible refine x_c ?_
  obtain ⟨⟨r3, st3⟩, hr3, hm⟩ := bindp hm
  refine ⟨_, _, _, _, _, (16 : Int), r3, st3, rfl, G14.sub, dk16.at_, dk16.nf, (.int _), hr3, fun N3 H5 v3 g12 dk17 d20 => ?_⟩
  have G15 := G14.trans g12
  have o6 := o5.stepA g12 (dk16.out o5)
  have dk18 := dk16.stepA g12 dk17
  obtain rfl := int_of d20
  obtain ⟨x2, hx2, hm⟩ := bindp hm
  obtain ⟨v4, hu1, d21⟩ := Rs_at (Rs_mono g12.ex fr9) hx2
  refine ⟨_, _, _, _, rfl, rfl, .inl (.inl o6.at_), hu1, ?_⟩
  obtain ⟨rfl, rfl⟩ := pairp hm
  exact q _ _ _ G15 dk18.at_ (RD.mono (Sub.refl _) d21)

abbrev N__law_odd_figure : List Str := ["deck", "base", "some"]
theorem sc__law_odd_figure : FnScope N__law_odd_figure ["deck", "base"] (defScope s__law_odd_figure) := ⟨rfl, rfl, rfl, by decide +kernel, rfl, by decide +kernel, by decide +kernel⟩
def sp__law_odd_figure : Sp := fun vs H Q _ => ∃ (F : Hp) (A : Addr → Prop) (dk : Addr) (st : DkS) (v_base : V) (base : Int) (r : PyData) (stR : DkS), vs = [.ref dk, v_base] ∧ Sub F H ∧ Deck A H dk st ∧ (∀ a, A a → F a = none) ∧ R F v_base base ∧ _law_odd_figure st base = some (r, stR) ∧ ∀ N H2 v, Gr A F H N H2 → Deck A H2 dk stR → R N v r → Q v H2
theorem ok__law_odd_figure {P : Program} {w : World} {K : PySem.W.Frag} {mg : Str → Option Value} {base : Heap} (T : Txt K mg) : FnOk P w K mg base CX0 2 T.f__law_odd_figure.f T.f__law_odd_figure.fd ["deck", "base"] sp__law_odd_figure := by
  have nd := (sc__law_odd_figure).nd
  refine T.f__law_odd_figure.F.ok sc__law_odd_figure (fun vs H Q E h => ?_) (fun cdv A0 outer s H vs Q E hr h => ?_)
  · obtain ⟨_, _, _, _, _, _, _, _, rfl, _⟩ := h
    rfl
  obtain ⟨F0, A, dk, st, v_base, base, r, stR, rfl, s0, hdk, hnf, f_base, hm, q⟩ := h
  have G0 : Gr A F0 H F0 H := Gr.refl s0
  have dk0 := DkAt.mk0 hdk hnf
  obtain rfl := int_of f_base
  refine ⟨_, (pss_cons (ps_set (i := 2) nd rfl (by first | exact Or.inl rfl | exact Or.inr rfl) (pe_lst (pa_cons (pv 1) (pa_cons (pe_op op_add (pv 1) (pe_call (ok__law_draw T) (hr.mono (by decide)) (by rfl) T.f__law_draw.g T.f__law_draw.F.kp T.f__law_draw.b .nil pass0 (pa_cons (pv 0) (pa_cons pe_int pa_nil)))) (pa_cons (pe_un un_neg pe_int) (pa_cons (pe_op op_sub (pe_un un_neg pe_int) (pe_call (ok__law_draw T) (hr.mono (by decide)) (by rfl) T.f__law_draw.g T.f__law_draw.F.kp T.f__law_draw.b .nil pass0 (pa_cons (pv 0) (pa_cons pe_int pa_nil)))) (pa_cons pe_bl (pa_cons pe_bl (pa_cons pe_non (pa_cons pe_str (pa_cons pe_str (pa_cons (pe_lst (pa_cons pe_int pa_nil)) (pa_cons (pe_tup (pa_cons pe_int pa_nil)) (pa_cons pe_dnewK pa_nil)))))))))))))) (pss_one (ps_ret (pe_ix (r := rIxL K) ix_list (pe_op op_cat (pv 2) (pe_lst (pa_cons pe_str (pa_cons (pe_op op_pow pe_int pe_int) (pa_cons (pe_un un_neg (pe_op op_pow pe_int pe_int)) (pa_cons (pe_lst pa_nil) pa_nil)))))) (pe_call (ok__law_draw T) (hr.mono (by decide)) (by rfl) T.f__law_draw.g T.f__law_draw.F.kp T.f__law_draw.b .nil pass0 (pa_cons (pv 0) (pa_cons pe_int pa_nil))) (fun _ _ => rfl))))), ?_⟩
  refine x_start (σ' := ([some (.ref dk), some (.int base), none] : L2.St)) (by with_unfolding_all rfl) ?_
  rw [_law_odd_figure] at hm
  with_reducible refine x_seq ?_
  with_reducible refine x_asg ?_
  with_reducible refine x_lst ?_
  with_reducible refine x_cons ?_
  refine ⟨_, rfl, ?_⟩
  have d1 : R (α := PyData) (F0) (.int base) (PyData.int base) := (.int _)
  with_reducible refine x_cons ?_
  with_reducible refine x_op ?_
  refine ⟨_, rfl, ?_⟩
  with_reducible refine x_call ?_
  with_reducible refine x_cons ?_
  refine ⟨_, rfl, ?_⟩
  with_reducible refine x_cons ?_
  with_reducible refine x_c ?_
  obtain ⟨⟨r1, st1⟩, hr1, hm⟩ := bindp hm
  refine ⟨_, _, _, _, _, (30 : Int), r1, st1, rfl, G0.sub, dk0.at_, dk0.nf, (.int _), hr1, fun N1 H1 v1 g1 dk1 d2 => ?_⟩
  have G1 := G0.trans g1
  have dk2 := dk0.stepA g1 dk1
  obtain rfl := int_of d2
  refine ⟨_, _, rfl, rfl, ?_⟩
  have d3 : R (α := PyData) (N1) (.int (base + r1)) (PyData.int (base + r1)) := (.int _)
  with_reducible refine x_cons ?_
  refine useEv (.int (-(1 : Int))) (by exact (Evl.ev_un Evl.ev_c Evl.ru_neg)) (fun H2 e1 => ?_)
  have g2 := gr_ex G1.sub e1
  have G2 := G1.step g2
  have dk3 := dk2.step g2
  have d4 : R (α := PyData) (N1) (.int (-(1 : Int))) (PyData.int (-(1 : Int))) := (.int _)
  with_reducible refine x_cons ?_
  with_reducible refine x_op ?_
  refine useEv (.int (-(1 : Int))) (by exact (Evl.ev_un Evl.ev_c Evl.ru_neg)) (fun H3 e2 => ?_)
  have g3 := gr_ex G2.sub e2
  have G3 := G2.step g3
  have dk4 := dk3.step g3
  with_reducible refine x_call ?_
  with_reducible refine x_cons ?_
  refine ⟨_, rfl, ?_⟩
  with_reducible refine x_cons ?_
  with_reducible refine x_c ?_
  obtain ⟨⟨r2, st2⟩, hr2, hm⟩ := bindp hm
  refine ⟨_, _, _, _, _, (9 : Int), r2, st2, rfl, G3.sub, dk4.at_, dk4.nf, (.int _), hr2, fun N2 H4 v2 g4 dk5 d5 => ?_⟩
  have G4 := G3.trans g4
  have dk6 := dk4.stepA g4 dk5
  obtain rfl := int_of d5
  refine ⟨_, _, rfl, rfl, ?_⟩
  have d6 : R (α := PyData) (N2) (.int ((-(1 : Int)) - r2)) (PyData.int ((-(1 : Int)) - r2)) := (.int _)
  with_reducible refine x_cons ?_
  with_reducible refine x_c ?_
  have d7 : R (α := PyData) (N2) (.bl true) (PyData.bool true) := (.bl _)
  with_reducible refine x_cons ?_
  with_reducible refine x_c ?_
  have d8 : R (α := PyData) (N2) (.bl false) (PyData.bool false) := (.bl _)
  with_reducible refine x_cons ?_
  with_reducible refine x_c ?_
  have d9 : R (α := PyData) (N2) .non PyData.none := .non
  with_reducible refine x_cons ?_
  with_reducible refine x_c ?_
  have d10 : R (α := PyData) (N2) (.str ("0" : Str)) (PyData.str ("0" : Str)) := (.str _)
  with_reducible refine x_cons ?_
  with_reducible refine x_c ?_
  have d11 : R (α := PyData) (N2) (.str ("a" : Str)) (PyData.str ("a" : Str)) := (.str _)
  with_reducible refine x_cons ?_
  with_reducible refine x_lst ?_
  with_reducible refine x_cons ?_
  with_reducible refine x_c ?_
  refine ⟨szle (show 1 ≤ 16777216 from by decide), fun p1 np1 => ?_⟩
  have fr1 : Rs (α := Int) (N2) [(.int 0)] ([(0 : Int)] : (List Int)) := (Rs_cons (.int _) Rs_nil)
  have g5 := Gr.newO (o := .lst [(.int 0)]) G4.sub np1
  have o1 := Ow.new (us := [(.int 0)]) G4 np1
  have G5 := G4.step g5
  have dk7 := dk6.step g5
  obtain ⟨F1, G6, ex1, fa1, nf1⟩ := o1.frzE G5
  have fr2 := Rs_mono ex1 fr1
  have dk8 := dk7.frzN o1 ex1 nf1
  have d12 : R (α := PyData) (F1) (.ref p1) (PyData.list (([(0 : Int)] : (List Int)).map fun z => (PyData.int z))) := (mk_lst ((Sub.refl _) _ _ fa1) (Rs_mono (Sub.refl _) fr2))
  with_reducible refine x_cons ?_
  with_reducible refine x_tup ?_
  with_reducible refine x_cons ?_
  with_reducible refine x_c ?_
  have d13 : R (α := PyData) (F1) (.int 0) (PyData.int (0 : Int)) := (.int _)
  refine ⟨szle (show 1 ≤ 16777216 from by decide), fun p2 np2 => ?_⟩
  obtain ⟨F2, g6, fa2⟩ := Gr.newE (o := .tup [(.int 0)]) G6.sub np2
  have G7 := G6.step g6
  have dk9 := dk8.step g6
  have d14 : R (α := PyData) (F2) (.ref p2) (PyData.tuple [(PyData.int (0 : Int))]) := .tup fa2 (.cons (RD.mono g6.ex d13) .nil)
  with_reducible refine x_cons ?_
  refine fun p3 np3 => ?_
  obtain ⟨F3, g7, fa3⟩ := Gr.newE (o := .dK []) G7.sub np3
  have G8 := G7.step g7
  have dk10 := dk9.step g7
  have d15 : R (α := PyData) (F3) (.ref p3) (PyData.dict []) := .dic fa3 .nil
  refine ⟨szle (show 12 ≤ 16777216 from by decide), fun p4 np4 => ?_⟩
  have fr3 : Rs (α := PyData) (F3) [(.int base), (.int (base + r1)), (.int (-(1 : Int))), (.int ((-(1 : Int)) - r2)), (.bl true), (.bl false), .non, (.str ("0" : Str)), (.str ("a" : Str)), (.ref p1), (.ref p2), (.ref p3)] ([(PyData.int base), (PyData.int (base + r1)), (PyData.int (-(1 : Int))), (PyData.int ((-(1 : Int)) - r2)), (PyData.bool true), (PyData.bool false), PyData.none, (PyData.str ("0" : Str)), (PyData.str ("a" : Str)), (PyData.list (([(0 : Int)] : (List Int)).map fun z => (PyData.int z))), (PyData.tuple [(PyData.int (0 : Int))]), (PyData.dict [])] : (List PyData)) := (Rs_cons (RD.mono ((((g1.ex.trans g4.ex).trans ex1).trans g6.ex).trans g7.ex) d1) (Rs_cons (RD.mono (((g4.ex.trans ex1).trans g6.ex).trans g7.ex) d3) (Rs_cons (RD.mono (((g4.ex.trans ex1).trans g6.ex).trans g7.ex) d4) (Rs_cons (RD.mono ((ex1.trans g6.ex).trans g7.ex) d6) (Rs_cons (RD.mono ((ex1.trans g6.ex).trans g7.ex) d7) (Rs_cons (RD.mono ((ex1.trans g6.ex).trans g7.ex) d8) (Rs_cons (RD.mono ((ex1.trans g6.ex).trans g7.ex) d9) (Rs_cons (RD.mono ((ex1.trans g6.ex).trans g7.ex) d10) (Rs_cons (RD.mono ((ex1.trans g6.ex).trans g7.ex) d11) (Rs_cons (RD.mono (g6.ex.trans g7.ex) d12) (Rs_cons (RD.mono g7.ex d14) (Rs_cons (RD.mono (Sub.refl _) d15) Rs_nil))))))))))))
  have g8 := Gr.newO (o := .lst [(.int base), (.int (base + r1)), (.int (-(1 : Int))), (.int ((-(1 : Int)) - r2)), (.bl true), (.bl false), .non, (.str ("0" : Str)), (.str ("a" : Str)), (.ref p1), (.ref p2), (.ref p3)]) G8.sub np4
  have o2 := Ow.new (us := [(.int base), (.int (base + r1)), (.int (-(1 : Int))), (.int ((-(1 : Int)) - r2)), (.bl true), (.bl false), .non, (.str ("0" : Str)), (.str ("a" : Str)), (.ref p1), (.ref p2), (.ref p3)]) G8 np4
  have G9 := G8.step g8
  have dk11 := dk10.step g8
  obtain ⟨F4, G10, ex2, fa4, nf2⟩ := o2.frzE G9
  have fr4 := Rs_mono ex2 fr3
  have dk12 := dk11.frzN o2 ex2 nf2
  obtain ⟨x1, hx1, hm⟩ := bindp hm
  replace hx1 := Option.some.inj hx1
  have fr5 : Rs (α := PyData) (F4) [(.int base), (.int (base + r1)), (.int (-(1 : Int))), (.int ((-(1 : Int)) - r2)), (.bl true), (.bl false), .non, (.str ("0" : Str)), (.str ("a" : Str)), (.ref p1), (.ref p2), (.ref p3)] x1 := by rw [← hx1]; exact (Rs_mono (Sub.refl _) fr4)
  have fa5 := (Sub.refl _) _ _ fa4
  clear hx1
  with_reducible refine x_gnE (σ' := ([some (.ref dk), some (.int base), some (.ref p4)] : L2.St)) (by with_unfolding_all rfl) ?_
  with_reducible refine x_ret ?_
  with_reducible refine x_op ?_
  with_reducible refine x_op ?_
  refine ⟨_, rfl, ?_⟩
  with_reducible refine x_lst ?_
  with_reducible refine x_cons ?_
  with_reducible refine x_c ?_
  have d16 : R (α := PyData) (F4) (.str ("" : Str)) (PyData.str ("" : Str)) := (.str _)
  with_reducible refine x_cons ?_
  with_reducible refine x_op ?_
  refine ⟨_, _, rfl, rfl, ⟨by decide, by decide, by decide⟩, ?_⟩
  have d17 : R (α := PyData) (F4) (.int ((10 : Int) ^ (25 : Int).toNat)) (PyData.int ((10 : Int) ^ (25 : Int).toNat)) := (.int _)
  with_reducible refine x_cons ?_
  with_reducible refine x_un ?_
  with_reducible refine x_op ?_
  refine ⟨_, _, rfl, rfl, ⟨by decide, by decide, by decide⟩, ?_⟩
  refine ⟨_, rfl, ?_⟩
  have d18 : R (α := PyData) (F4) (.int (-((10 : Int) ^ (25 : Int).toNat))) (PyData.int (-((10 : Int) ^ (25 : Int).toNat))) := (.int _)
  with_reducible refine x_cons ?_
  with_reducible refine x_lst ?_
  refine ⟨szle (show 0 ≤ 16777216 from by decide), fun p5 np5 => ?_⟩
  have fr6 : Rs (α := PyData) (F4) [] ([] : (List PyData)) := Rs_nil
  have g9 := Gr.newO (o := .lst []) G10.sub np5
  have o3 := Ow.new (us := []) G10 np5
  have G11 := G10.step g9
  have dk13 := dk12.step g9
  obtain ⟨F5, G12, ex3, fa6, nf3⟩ := o3.frzE G11
  have fr7 := Rs_mono ex3 fr6
  have dk14 := dk13.frzN o3 ex3 nf3
  have d19 : R (α := PyData) (F5) (.ref p5) (PyData.list ([] : (List PyData))) := (R_anyL (mk_lst ((Sub.refl _) _ _ fa6) (Rs_mono (Sub.refl _) fr7)))
  refine ⟨szle (show 4 ≤ 16777216 from by decide), fun p6 np6 => ?_⟩
  have fr8 : Rs (α := PyData) (F5) [(.str ("" : Str)), (.int ((10 : Int) ^ (25 : Int).toNat)), (.int (-((10 : Int) ^ (25 : Int).toNat))), (.ref p5)] ([(PyData.str ("" : Str)), (PyData.int ((10 : Int) ^ (25 : Int).toNat)), (PyData.int (-((10 : Int) ^ (25 : Int).toNat))), (PyData.list ([] : (List PyData)))] : (List PyData)) := (Rs_cons (RD.mono ex3 d16) (Rs_cons (RD.mono ex3 d17) (Rs_cons (RD.mono ex3 d18) (Rs_cons (RD.mono (Sub.refl _) d19) Rs_nil))))
  have g10 := Gr.newO (o := .lst [(.str ("" : Str)), (.int ((10 : Int) ^ (25 : Int).toNat)), (.int (-((10 : Int) ^ (25 : Int).toNat))), (.ref p5)]) G12.sub np6
  have o4 := Ow.new (us := [(.str ("" : Str)), (.int ((10 : Int) ^ (25 : Int).toNat)), (.int (-((10 : Int) ^ (25 : Int).toNat))), (.ref p5)]) G12 np6
  have G13 := G12.step g10
  have dk15 := dk14.step g10
  obtain ⟨c1, hm⟩ := guardp hm
  refine ⟨_, _, _, _, rfl, rfl, ((ex3.trans G13.sub) _ _ fa5), o4.at_, szle (by rw [Rs_len (Rs_mono ex3 fr5), Rs_len fr8]; exact c1), fun p7 np7 => ?_⟩
  have fr9 : Rs (α := PyData) (F5) ([(.int base), (.int (base + r1)), (.int (-(1 : Int))), (.int ((-(1 : Int)) - r2)), (.bl true), (.bl false), .non, (.str ("0" : Str)), (.str ("a" : Str)), (.ref p1), (.ref p2), (.ref p3)] ++ [(.str ("" : Str)), (.int ((10 : Int) ^ (25 : Int).toNat)), (.int (-((10 : Int) ^ (25 : Int).toNat))), (.ref p5)]) (x1 ++ ([(PyData.str ("" : Str)), (PyData.int ((10 : Int) ^ (25 : Int).toNat)), (PyData.int (-((10 : Int) ^ (25 : Int).toNat))), (PyData.list ([] : (List PyData)))] : (List PyData))) := Rs_app (Rs_mono ex3 fr5) fr8
  have g11 := Gr.newO (o := .lst ([(.int base), (.int (base + r1)), (.int (-(1 : Int))), (.int ((-(1 : Int)) - r2)), (.bl true), (.bl false), .non, (.str ("0" : Str)), (.str ("a" : Str)), (.ref p1), (.ref p2), (.ref p3)] ++ [(.str ("" : Str)), (.int ((10 : Int) ^ (25 : Int).toNat)), (.int (-((10 : Int) ^ (25 : Int).toNat))), (.ref p5)])) G13.sub np7
  have o5 := Ow.new (us := ([(.int base), (.int (base + r1)), (.int (-(1 : Int))), (.int ((-(1 : Int)) - r2)), (.bl true), (.bl false), .non, (.str ("0" : Str)), (.str ("a" : Str)), (.ref p1), (.ref p2), (.ref p3)] ++ [(.str ("" : Str)), (.int ((10 : Int) ^ (25 : Int).toNat)), (.int (-((10 : Int) ^ (25 : Int).toNat))), (.ref p5)])) G13 np7
  have G14 := G13.step g11
  have dk16 := dk15.step g11
  with_reducible refine x_call ?_
  with_reducible refine x_cons ?_
  refine ⟨_, rfl, ?_⟩
  with_reducible refine x_cons ?_
  with_reducible refine x_c ?_
  obtain ⟨⟨r3, st3⟩, hr3, hm⟩ := bindp hm
  refine ⟨_, _, _, _, _, (16 : Int), r3, st3, rfl, G14.sub, dk16.at_, dk16.nf, (.int _), hr3, fun N3 H5 v3 g12 dk17 d20 => ?_⟩
  have G15 := G14.trans g12
  have o6 := o5.stepA g12 (dk16.out o5)
  have dk18 := dk16.stepA g12 dk17
  obtain rfl := int_of d20
  obtain ⟨x2, hx2, hm⟩ := bindp hm
  obtain ⟨v4, hu1, d21⟩ := Rs_at (Rs_mono g12.ex fr9) hx2
  refine ⟨_, _, _, _, rfl, rfl, .inl (.inl o6.at_), hu1, ?_⟩
  obtain ⟨rfl, rfl⟩ := pairp hm
  exact q _ _ _ G15 dk18.at_ (RD.mono (Sub.refl _) d21)

abbrev N__law_no_rule : List Str := ["deck", "rule", "base", "bad", "at", "here", "to", "odd", "one", "bent", "turned", "rows", "some", "k"]
theorem sc__law_no_rule : FnScope N__law_no_rule ["deck", "rule"] (defScope s__law_no_rule) := ⟨rfl, rfl, rfl, by decide +kernel, rfl, by decide +kernel, by decide +kernel⟩
def sp__law_no_rule : Sp := fun vs H Q _ => ∃ (F : Hp) (A : Addr → Prop) (dk : Addr) (st : DkS) (v_rule : V) (rule : (Int × (List (List Int)))) (r : PyData) (stR : DkS), vs = [.ref dk, v_rule] ∧ Sub F H ∧ Deck A H dk st ∧ (∀ a, A a → F a = none) ∧ R F v_rule rule ∧ _law_no_rule st rule = some (r, stR) ∧ ∀ N H2 v, Gr A F H N H2 → Deck A H2 dk stR → R N v r → Q v H2
theorem ok__law_no_rule {P : Program} {w : World} {K : PySem.W.Frag} {mg : Str → Option Value} {base : Heap} (T : Txt K mg) : FnOk P w K mg base CX0 3 T.f__law_no_rule.f T.f__law_no_rule.fd ["deck", "rule"] sp__law_no_rule := by
  have nd := (sc__law_no_rule).nd
  refine T.f__law_no_rule.F.ok sc__law_no_rule (fun vs H Q E h => ?_) (fun cdv A0 outer s H vs Q E hr h => ?_)
  · obtain ⟨_, _, _, _, _, _, _, _, rfl, _⟩ := h
    rfl
  obtain ⟨F0, A, dk, st, v_rule, rule, r, stR, rfl, s0, hdk, hnf, f_rule, hm, q⟩ := h
  have G0 : Gr A F0 H F0 H := Gr.refl s0
  have dk0 := DkAt.mk0 hdk hnf
  obtain ⟨a1, v1, v2, rfl, fa1, d1, d2⟩ := tup2_of f_rule
  obtain rfl := int_of d1
  obtain ⟨a2, us1, rfl, fa2, fr1⟩ := lst_of d2
  refine ⟨_, (pss_cons (ps_asg (pv 1) (pg_tup rfl (pgs_cons (pg_name (i := 2) nd rfl (by first | exact Or.inl rfl | exact Or.inr rfl)) (pgs_cons (pg_name (i := 3) nd rfl (by first | exact Or.inl rfl | exact Or.inr rfl)) pgs_nil)))) (pss_cons (ps_set (i := 4) nd rfl (by first | exact Or.inl rfl | exact Or.inr rfl) (pe_call (ok__law_draw T) (hr.mono (by decide)) (by rfl) T.f__law_draw.g T.f__law_draw.F.kp T.f__law_draw.b .nil pass0 (pa_cons (pv 0) (pa_cons (pe_op op_add (pe_callB (r := rLenT K) call_lenT (by rfl) T.z_len PySem.boot_len (pa_cons (pv 3) pa_nil)) pe_int) pa_nil)))) (pss_cons (ps_set (i := 5) nd rfl (by first | exact Or.inl rfl | exact Or.inr rfl) (pe_ix (r := rIxL K) ix_list (pe_op op_cat (pv 3) (pe_lst (pa_cons (pe_lst (pa_cons pe_int (pa_cons pe_int pa_nil))) pa_nil))) (pv 4) (fun _ _ => rfl))) (pss_cons (ps_set (i := 6) nd rfl (by first | exact Or.inl rfl | exact Or.inr rfl) (pe_call (ok__law_draw T) (hr.mono (by decide)) (by rfl) T.f__law_draw.g T.f__law_draw.F.kp T.f__law_draw.b .nil pass0 (pa_cons (pv 0) (pa_cons (pe_op op_add (pe_callB (r := rLenT K) call_lenT (by rfl) T.z_len PySem.boot_len (pa_cons (pv 5) pa_nil)) pe_int) pa_nil)))) (pss_cons (ps_set (i := 7) nd rfl (by first | exact Or.inl rfl | exact Or.inr rfl) (pe_call (ok__law_odd_figure T) (hr.mono (by decide)) (by rfl) T.f__law_odd_figure.g T.f__law_odd_figure.F.kp T.f__law_odd_figure.b .nil pass0 (pa_cons (pv 0) (pa_cons (pv 2) pa_nil)))) (pss_cons (ps_set (i := 8) nd rfl (by first | exact Or.inl rfl | exact Or.inr rfl) (pe_lst (pa_cons (pe_op op_cat (pe_op op_cat (pe_slice (r := rSlL K) sl_list (pv 5) po_none (po_some (pv 6))) (pe_lst (pa_cons (pv 7) pa_nil))) (pe_slice (r := rSlL K) sl_list (pv 5) (po_some (pv 6)) po_none)) (pa_cons (pe_op op_cat (pe_op op_cat (pe_slice (r := rSlL K) sl_list (pv 5) po_none (po_some (pv 6))) (pe_lst (pa_cons (pv 7) pa_nil))) (pe_slice (r := rSlL K) sl_list (pv 5) (po_some (pe_op op_add (pv 6) pe_int)) po_none)) (pa_cons (pe_op op_cat (pv 5) (pe_op op_rep (pe_lst (pa_cons pe_int pa_nil)) pe_int)) (pa_cons (pe_lst pa_nil) (pa_cons (pe_callTy (r := rTupL K) call_tupL (by rfl) T.z_tuple (by decide +kernel) (pa_cons (pv 5) pa_nil)) (pa_cons (pe_lst (pa_cons (pv 5) pa_nil)) pa_nil)))))))) (pss_cons (ps_set (i := 8) nd rfl (by first | exact Or.inl rfl | exact Or.inr rfl) (pe_ix (r := rIxL K) ix_list (pe_op op_cat (pv 8) (pe_lst (pa_cons pe_non (pa_cons pe_int (pa_cons pe_str (pa_cons pe_dnewK (pa_cons (pe_op op_cat (pe_slice (r := rSlL K) sl_list (pv 5) po_none (po_some (pv 6))) (pe_slice (r := rSlL K) sl_list (pv 5) (po_some (pe_op op_add (pv 6) pe_int)) po_none)) (pa_cons (pe_op op_cat (pv 5) (pe_lst (pa_cons pe_int pa_nil))) pa_nil)))))))) (pe_call (ok__law_draw T) (hr.mono (by decide)) (by rfl) T.f__law_draw.g T.f__law_draw.F.kp T.f__law_draw.b .nil pass0 (pa_cons (pv 0) (pa_cons pe_int pa_nil))) (fun _ _ => rfl))) (pss_cons (ps_set (i := 9) nd rfl (by first | exact Or.inl rfl | exact Or.inr rfl) (pe_op op_cat (pe_op op_cat (pe_slice (r := rSlL K) sl_list (pv 3) po_none (po_some (pv 4))) (pe_lst (pa_cons (pv 8) pa_nil))) (pe_slice (r := rSlL K) sl_list (pv 3) (po_some (pe_op op_add (pv 4) pe_int)) po_none))) (pss_cons (ps_set (i := 10) nd rfl (by first | exact Or.inl rfl | exact Or.inr rfl) (pe_op op_cat (pe_op op_cat (pe_slice (r := rSlL K) sl_list (pv 3) po_none (po_some (pv 4))) (pe_revL (pe_slice (r := rSlL K) sl_list (pv 3) (po_some (pv 4)) (po_some (pe_op op_add (pv 4) pe_int))))) (pe_slice (r := rSlL K) sl_list (pv 3) (po_some (pe_op op_add (pv 4) pe_int)) po_none))) (pss_cons (ps_set (i := 11) nd rfl (by first | exact Or.inl rfl | exact Or.inr rfl) (pe_lst (pa_cons (pv 9) (pa_cons (pv 9) (pa_cons (pv 9) (pa_cons (pe_op op_cat (pe_op op_cat (pe_slice (r := rSlL K) sl_list (pv 3) po_none (po_some (pv 4))) (pe_lst (pa_cons (pv 8) pa_nil))) (pe_slice (r := rSlL K) sl_list (pv 3) (po_some (pv 4)) po_none)) (pa_cons (pv 10) (pa_cons (pe_revL (pv 3)) (pa_cons (pe_op op_cat (pe_op op_cat (pe_slice (r := rSlL K) sl_list (pv 3) po_none (po_some (pv 4))) (pe_slice (r := rSlL K) sl_list (pv 3) (po_some (pv 4)) (po_some (pe_op op_add (pv 4) pe_int)))) (pe_slice (r := rSlL K) sl_list (pv 3) (po_some (pv 4)) po_none)) pa_nil))))))))) (pss_cons (ps_set (i := 11) nd rfl (by first | exact Or.inl rfl | exact Or.inr rfl) (pe_op op_cat (pv 11) (pe_lst (pa_cons (pe_op op_cat (pe_slice (r := rSlL K) sl_list (pv 3) po_none (po_some (pv 4))) (pe_slice (r := rSlL K) sl_list (pv 3) (po_some (pe_op op_add (pv 4) pe_int)) po_none)) (pa_cons (pe_callTy (r := rTupL K) call_tupL (by rfl) T.z_tuple (by decide +kernel) (pa_cons (pv 3) pa_nil)) (pa_cons pe_non (pa_cons pe_dnewK (pa_cons pe_str (pa_cons pe_int (pa_cons (pe_lc (own := [("k", 13)]) (g := (gName 13)) rfl nd (pi_range1 (by rfl) T.z_range (pa_cons pe_int pa_nil)) (blkOk_by (own := [("k", 13)]) (N := N__law_no_rule) (sc := defScope s__law_no_rule) (by decide +kernel)) (fun _ _ _ _ _ => pg_name (i := 13) nd rfl (Or.inl rfl)) (fun _ _ _ _ _ => pts_nil) (fun _ _ _ _ _ => (pe_lst (pa_cons (pv 13) pa_nil)))) (pa_cons (pe_lst (pa_cons (pv 3) pa_nil)) (pa_cons (pe_tup (pa_cons (pv 3) (pa_cons (pv 3) pa_nil))) pa_nil)))))))))))) (pss_cons (ps_set (i := 12) nd rfl (by first | exact Or.inl rfl | exact Or.inr rfl) (pe_op op_cat (pe_op op_rep (pe_lst (pa_cons (pe_tup (pa_cons (pv 2) (pa_cons (pe_ix (r := rIxL K) ix_list (pv 11) (pe_call (ok__law_draw T) (hr.mono (by decide)) (by rfl) T.f__law_draw.g T.f__law_draw.F.kp T.f__law_draw.b .nil pass0 (pa_cons (pv 0) (pa_cons pe_int pa_nil))) (fun _ _ => rfl)) pa_nil))) pa_nil)) pe_int) (pe_lst (pa_cons (pe_tup (pa_cons (pe_call (ok__law_no_base T) (hr.mono (by decide)) (by rfl) T.f__law_no_base.g T.f__law_no_base.F.kp T.f__law_no_base.b .nil pass0 (pa_cons (pv 0) pa_nil)) (pa_cons (pv 3) pa_nil))) (pa_cons (pe_tup (pa_cons pe_int (pa_cons (pv 3) pa_nil))) (pa_cons (pe_tup (pa_cons (pe_op op_sub (pv 2) pe_int) (pa_cons (pv 3) pa_nil))) (pa_cons (pe_lst (pa_cons (pv 2) (pa_cons (pv 3) pa_nil))) pa_nil))))))) (pss_cons (ps_set (i := 12) nd rfl (by first | exact Or.inl rfl | exact Or.inr rfl) (pe_op op_cat (pv 12) (pe_lst (pa_cons (pe_tup (pa_cons (pv 2) pa_nil)) (pa_cons (pe_tup (pa_cons (pv 2) (pa_cons (pv 3) (pa_cons (pe_lst pa_nil) pa_nil)))) (pa_cons (pe_tup (pa_cons (pv 3) (pa_cons (pv 2) pa_nil))) (pa_cons (pv 3) (pa_cons (pv 2) (pa_cons pe_non (pa_cons (pe_tup pa_nil) (pa_cons pe_str (pa_cons pe_dnewK (pa_cons (pe_tup (pa_cons (pe_lst (pa_cons (pv 2) pa_nil)) (pa_cons (pv 3) pa_nil))) pa_nil))))))))))))) (pss_one (ps_ret (pe_ix (r := rIxL K) ix_list (pv 12) (pe_call (ok__law_draw T) (hr.mono (by decide)) (by rfl) T.f__law_draw.g T.f__law_draw.F.kp T.f__law_draw.b .nil pass0 (pa_cons (pv 0) (pa_cons pe_int pa_nil))) (fun _ _ => rfl))))))))))))))))), ?_⟩
  refine x_start (σ' := ([some (.ref dk), some (.ref a1), none, none, none, none, none, none, none, none, none, none, none, none] : L2.St)) (by with_unfolding_all rfl) ?_
  rw [_law_no_rule] at hm
  with_reducible refine x_seq ?_
  with_reducible refine x_asg ?_
  refine ⟨_, rfl, ?_⟩
  refine ⟨_, _, rfl, .inl (.inl (G0.sub _ _ fa1)), rfl, ?_⟩
  refine ⟨_, _, rfl, ?_⟩
  with_reducible refine x_gnE (σ' := ([some (.ref dk), some (.ref a1), some (.int (rule).1), none, none, none, none, none, none, none, none, none, none, none] : L2.St)) (by with_unfolding_all rfl) ?_
  refine ⟨_, _, rfl, ?_⟩
  with_reducible refine x_gnE (σ' := ([some (.ref dk), some (.ref a1), some (.int (rule).1), some (.ref a2), none, none, none, none, none, none, none, none, none, none] : L2.St)) (by with_unfolding_all rfl) ?_
  refine ⟨rfl, ?_⟩
  with_reducible refine x_seq ?_
  with_reducible refine x_asg ?_
  with_reducible refine x_call ?_
  with_reducible refine x_cons ?_
  refine ⟨_, rfl, ?_⟩
  with_reducible refine x_cons ?_
  refine useEv (.int (((rule).2.length : Int) + (1 : Int))) (by exact (Evl.ev_op (ev_lenT (Evl.ev_var rfl) (G0.sub _ _ fa2) (Rs_mono (Sub.refl _) fr1)) Evl.ev_c Evl.rv_I0)) (fun H1 e1 => ?_)
  have g1 := gr_ex G0.sub e1
  have G1 := G0.step g1
  have dk1 := dk0.step g1
  obtain ⟨⟨r1, st1⟩, hr1, hm⟩ := bindp hm
  refine ⟨_, _, _, _, _, (((rule).2.length : Int) + (1 : Int)), r1, st1, rfl, G1.sub, dk1.at_, dk1.nf, (.int _), hr1, fun N1 H2 v3 g2 dk2 d3 => ?_⟩
  have G2 := G1.trans g2
  have dk3 := dk1.stepA g2 dk2
  obtain rfl := int_of d3
  with_reducible refine x_gnE (σ' := ([some (.ref dk), some (.ref a1), some (.int (rule).1), some (.ref a2), some (.int r1), none, none, none, none, none, none, none, none, none] : L2.St)) (by with_unfolding_all rfl) ?_
  with_reducible refine x_seq ?_
  with_reducible refine x_asg ?_
  with_reducible refine x_op ?_
  with_reducible refine x_op ?_
  refine ⟨_, rfl, ?_⟩
  with_reducible refine x_lst ?_
  with_reducible refine x_cons ?_
  with_reducible refine x_lst ?_
  with_reducible refine x_cons ?_
  with_reducible refine x_c ?_
  with_reducible refine x_cons ?_
  with_reducible refine x_c ?_
  refine ⟨szle (show 2 ≤ 16777216 from by decide), fun p1 np1 => ?_⟩
  have fr2 : Rs (α := Int) (N1) [(.int 0), (.int 1)] ([(0 : Int), (1 : Int)] : (List Int)) := (Rs_cons (.int _) (Rs_cons (.int _) Rs_nil))
  have g3 := Gr.newO (o := .lst [(.int 0), (.int 1)]) G2.sub np1
  have o1 := Ow.new (us := [(.int 0), (.int 1)]) G2 np1
  have G3 := G2.step g3
  have dk4 := dk3.step g3
  obtain ⟨F1, G4, ex1, fa3, nf1⟩ := o1.frzE G3
  have fr3 := Rs_mono ex1 fr2
  have dk5 := dk4.frzN o1 ex1 nf1
  refine ⟨szle (show 1 ≤ 16777216 from by decide), fun p2 np2 => ?_⟩
  have fr4 : Rs (α := (List Int)) (F1) [(.ref p1)] ([([(0 : Int), (1 : Int)] : (List Int))] : (List (List Int))) := (Rs_cons (mk_lst ((Sub.refl _) _ _ fa3) (Rs_mono (Sub.refl _) fr3)) Rs_nil)
  have g4 := Gr.newO (o := .lst [(.ref p1)]) G4.sub np2
  have o2 := Ow.new (us := [(.ref p1)]) G4 np2
  have G5 := G4.step g4
  have dk6 := dk5.step g4
  obtain ⟨c1, hm⟩ := guardp hm
  refine ⟨_, _, _, _, rfl, rfl, (((g2.ex.trans ex1).trans G5.sub) _ _ fa2), o2.at_, szle (by rw [Rs_len (Rs_mono (g2.ex.trans ex1) fr1), Rs_len fr4]; exact c1), fun p3 np3 => ?_⟩
  have fr5 : Rs (α := (List Int)) (F1) (us1 ++ [(.ref p1)]) ((rule).2 ++ ([([(0 : Int), (1 : Int)] : (List Int))] : (List (List Int)))) := Rs_app (Rs_mono (g2.ex.trans ex1) fr1) fr4
  have g5 := Gr.newO (o := .lst (us1 ++ [(.ref p1)])) G5.sub np3
  have o3 := Ow.new (us := (us1 ++ [(.ref p1)])) G5 np3
  have G6 := G5.step g5
  have dk7 := dk6.step g5
  refine ⟨_, rfl, ?_⟩
  obtain ⟨x1, hx1, hm⟩ := bindp hm
  obtain ⟨v4, hu1, d4⟩ := Rs_at fr5 hx1
  refine ⟨_, _, _, _, rfl, rfl, .inl (.inl o3.at_), hu1, ?_⟩
  obtain ⟨a3, us2, rfl, fa4, fr6⟩ := lst_of d4
  with_reducible refine x_gnE (σ' := ([some (.ref dk), some (.ref a1), some (.int (rule).1), some (.ref a2), some (.int r1), some (.ref a3), none, none, none, none, none, none, none, none] : L2.St)) (by with_unfolding_all rfl) ?_
  with_reducible refine x_seq ?_
  with_reducible refine x_asg ?_
  with_reducible refine x_call ?_
  with_reducible refine x_cons ?_
  refine ⟨_, rfl, ?_⟩
  with_reducible refine x_cons ?_
  refine useEv (.int ((x1.length : Int) + (1 : Int))) (by exact (Evl.ev_op (ev_lenT (Evl.ev_var rfl) (G6.sub _ _ fa4) (Rs_mono (Sub.refl _) fr6)) Evl.ev_c Evl.rv_I0)) (fun H3 e2 => ?_)
  have g6 := gr_ex G6.sub e2
  have G7 := G6.step g6
  have dk8 := dk7.step g6
  obtain ⟨⟨r2, st2⟩, hr2, hm⟩ := bindp hm
  refine ⟨_, _, _, _, _, ((x1.length : Int) + (1 : Int)), r2, st2, rfl, G7.sub, dk8.at_, dk8.nf, (.int _), hr2, fun N2 H4 v5 g7 dk9 d5 => ?_⟩
  have G8 := G7.trans g7
  have dk10 := dk8.stepA g7 dk9
  obtain rfl := int_of d5
  with_reducible refine x_gnE (σ' := ([some (.ref dk), some (.ref a1), some (.int (rule).1), some (.ref a2), some (.int r1), some (.ref a3), some (.int r2), none, none, none, none, none, none, none] : L2.St)) (by with_unfolding_all rfl) ?_
  with_reducible refine x_seq ?_
  with_reducible refine x_asg ?_
  with_reducible refine x_call ?_
  with_reducible refine x_cons ?_
  refine ⟨_, rfl, ?_⟩
  with_reducible refine x_cons ?_
  refine ⟨_, rfl, ?_⟩
  obtain ⟨⟨r3, st3⟩, hr3, hm⟩ := bindp hm
  refine ⟨_, _, _, _, _, (rule).1, r3, st3, rfl, G8.sub, dk10.at_, dk10.nf, (.int _), hr3, fun N3 H5 v6 g8 dk11 d6 => ?_⟩
  have G9 := G8.trans g8
  have dk12 := dk10.stepA g8 dk11
  with_reducible refine x_gnE (σ' := ([some (.ref dk), some (.ref a1), some (.int (rule).1), some (.ref a2), some (.int r1), some (.ref a3), some (.int r2), some v6, none, none, none, none, none, none] : L2.St)) (by with_unfolding_all rfl) ?_
  with_reducible refine x_seq ?_
  with_reducible refine x_asg ?_
  with_reducible refine x_lst ?_
  with_reducible refine x_cons ?_
  with_reducible refine x_op ?_
  with_reducible refine x_op ?_
  with_reducible refine x_sl ?_
  refine ⟨_, rfl, ?_⟩
  with_reducible refine x_nopart ?_
  with_reducible refine x_part ?_
  refine ⟨_, rfl, ?_⟩
  refine ⟨_, rfl, ?_⟩
  refine ⟨_, _, rfl, .inl (.inl (((g7.ex.trans g8.ex).trans G9.sub) _ _ fa4)), fun p4 np4 => ?_⟩
  have fr7 : Rs (α := Int) (N3) (cutV us2 none (some r2)) (cutT x1 none (some r2)) := Rs_cut (Rs_mono (g7.ex.trans g8.ex) fr6)
  have g9 := Gr.newO (o := .lst (cutV us2 none (some r2))) G9.sub np4
  have o4 := Ow.new (us := (cutV us2 none (some r2))) G9 np4
  have G10 := G9.step g9
  have dk13 := dk12.step g9
  with_reducible refine x_lst ?_
  with_reducible refine x_cons ?_
  refine ⟨_, rfl, ?_⟩
  refine ⟨szle (show 1 ≤ 16777216 from by decide), fun p5 np5 => ?_⟩
  have fr8 : Rs (α := PyData) (N3) [v6] ([r3] : (List PyData)) := (Rs_cons (RD.mono (Sub.refl _) d6) Rs_nil)
  have g10 := Gr.newO (o := .lst [v6]) G10.sub np5
  have o5 := Ow.new (us := [v6]) G10 np5
  have ne1 := o4.ne_new np5
  have G11 := G10.step g10
  have o6 := o4.step g10
  have dk14 := dk13.step g10
  obtain ⟨c2, hm⟩ := guardp hm
  refine ⟨_, _, _, _, rfl, rfl, o6.at_, o5.at_, szle (by rw [Rs_len (Rs_any fr7), Rs_len fr8]; exact c2), fun p6 np6 => ?_⟩
  have fr9 : Rs (α := PyData) (N3) ((cutV us2 none (some r2)) ++ [v6]) (((cutT x1 none (some r2)).map fun z => (PyData.int z)) ++ ([r3] : (List PyData))) := Rs_app (Rs_any fr7) fr8
  have g11 := Gr.newO (o := .lst ((cutV us2 none (some r2)) ++ [v6])) G11.sub np6
  have o7 := Ow.new (us := ((cutV us2 none (some r2)) ++ [v6])) G11 np6
  have G12 := G11.step g11
  have dk15 := dk14.step g11
  with_reducible refine x_sl ?_
  refine ⟨_, rfl, ?_⟩
  with_reducible refine x_part ?_
  refine ⟨_, rfl, ?_⟩
  refine ⟨_, rfl, ?_⟩
  with_reducible refine x_nopart ?_
  refine ⟨_, _, rfl, .inl (.inl (((g7.ex.trans g8.ex).trans G12.sub) _ _ fa4)), fun p7 np7 => ?_⟩
  have fr10 : Rs (α := Int) (N3) (cutV us2 (some r2) none) (cutT x1 (some r2) none) := Rs_cut (Rs_mono (g7.ex.trans g8.ex) fr6)
  have g12 := Gr.newO (o := .lst (cutV us2 (some r2) none)) G12.sub np7
  have o8 := Ow.new (us := (cutV us2 (some r2) none)) G12 np7
  have ne2 := o7.ne_new np7
  have G13 := G12.step g12
  have o9 := o7.step g12
  have dk16 := dk15.step g12
  obtain ⟨c3, hm⟩ := guardp hm
  refine ⟨_, _, _, _, rfl, rfl, o9.at_, o8.at_, szle (by rw [Rs_len fr9, Rs_len (Rs_any fr10)]; exact c3), fun p8 np8 => ?_⟩
  have fr11 : Rs (α := PyData) (N3) (((cutV us2 none (some r2)) ++ [v6]) ++ (cutV us2 (some r2) none)) ((((cutT x1 none (some r2)).map fun z => (PyData.int z)) ++ ([r3] : (List PyData))) ++ ((cutT x1 (some r2) none).map fun z => (PyData.int z))) := Rs_app fr9 (Rs_any fr10)
  have g13 := Gr.newO (o := .lst (((cutV us2 none (some r2)) ++ [v6]) ++ (cutV us2 (some r2) none))) G13.sub np8
  have o10 := Ow.new (us := (((cutV us2 none (some r2)) ++ [v6]) ++ (cutV us2 (some r2) none))) G13 np8
  have G14 := G13.step g13
  have dk17 := dk16.step g13
  obtain ⟨F2, G15, ex2, fa5, nf2⟩ := o10.frzE G14
  have fr12 := Rs_mono ex2 fr11
  have dk18 := dk17.frzN o10 ex2 nf2
  have d7 : R (α := PyData) (F2) (.ref p8) (PyData.list ((((cutT x1 none (some r2)).map fun z => (PyData.int z)) ++ ([r3] : (List PyData))) ++ ((cutT x1 (some r2) none).map fun z => (PyData.int z)))) := (R_anyL (mk_lst ((Sub.refl _) _ _ fa5) (Rs_mono (Sub.refl _) fr12)))
  with_reducible refine x_cons ?_
  with_reducible refine x_op ?_
  with_reducible refine x_op ?_
  with_reducible refine x_sl ?_
  refine ⟨_, rfl, ?_⟩
  with_reducible refine x_nopart ?_
  with_reducible refine x_part ?_
  refine ⟨_, rfl, ?_⟩
  refine ⟨_, rfl, ?_⟩
  refine ⟨_, _, rfl, .inl (.inl ((((g7.ex.trans g8.ex).trans ex2).trans G15.sub) _ _ fa4)), fun p9 np9 => ?_⟩
  have fr13 : Rs (α := Int) (F2) (cutV us2 none (some r2)) (cutT x1 none (some r2)) := Rs_cut (Rs_mono ((g7.ex.trans g8.ex).trans ex2) fr6)
  have g14 := Gr.newO (o := .lst (cutV us2 none (some r2))) G15.sub np9
  have o11 := Ow.new (us := (cutV us2 none (some r2))) G15 np9
  have G16 := G15.step g14
  have dk19 := dk18.step g14
  with_reducible refine x_lst ?_
  with_reducible refine x_cons ?_
  refine ⟨_, rfl, ?_⟩
  refine ⟨szle (show 1 ≤ 16777216 from by decide), fun p10 np10 => ?_⟩
  have fr14 : Rs (α := PyData) (F2) [v6] ([r3] : (List PyData)) := (Rs_cons (RD.mono ex2 d6) Rs_nil)
  have g15 := Gr.newO (o := .lst [v6]) G16.sub np10
  have o12 := Ow.new (us := [v6]) G16 np10
  have ne3 := o11.ne_new np10
  have G17 := G16.step g15
  have o13 := o11.step g15
  have dk20 := dk19.step g15
  obtain ⟨c4, hm⟩ := guardp hm
  refine ⟨_, _, _, _, rfl, rfl, o13.at_, o12.at_, szle (by rw [Rs_len (Rs_any fr13), Rs_len fr14]; exact c4), fun p11 np11 => ?_⟩
  have fr15 : Rs (α := PyData) (F2) ((cutV us2 none (some r2)) ++ [v6]) (((cutT x1 none (some r2)).map fun z => (PyData.int z)) ++ ([r3] : (List PyData))) := Rs_app (Rs_any fr13) fr14
  have g16 := Gr.newO (o := .lst ((cutV us2 none (some r2)) ++ [v6])) G17.sub np11
  have o14 := Ow.new (us := ((cutV us2 none (some r2)) ++ [v6])) G17 np11
  have G18 := G17.step g16
  have dk21 := dk20.step g16
  with_reducible refine x_sl ?_
  refine ⟨_, rfl, ?_⟩
  with_reducible refine x_part ?_
  refine useEv (.int (r2 + (1 : Int))) (by exact (Evl.ev_op (Evl.ev_var rfl) Evl.ev_c Evl.rv_I0)) (fun H6 e3 => ?_)
  have g17 := gr_ex G18.sub e3
  have G19 := G18.step g17
  have o15 := o14.step g17
  have dk22 := dk21.step g17
  refine ⟨_, rfl, ?_⟩
  with_reducible refine x_nopart ?_
  refine ⟨_, _, rfl, .inl (.inl ((((g7.ex.trans g8.ex).trans ex2).trans G19.sub) _ _ fa4)), fun p12 np12 => ?_⟩
  have fr16 : Rs (α := Int) (F2) (cutV us2 (some (r2 + (1 : Int))) none) (cutT x1 (some (r2 + (1 : Int))) none) := Rs_cut (Rs_mono ((g7.ex.trans g8.ex).trans ex2) fr6)
  have g18 := Gr.newO (o := .lst (cutV us2 (some (r2 + (1 : Int))) none)) G19.sub np12
  have o16 := Ow.new (us := (cutV us2 (some (r2 + (1 : Int))) none)) G19 np12
  have ne4 := o15.ne_new np12
  have G20 := G19.step g18
  have o17 := o15.step g18
  have dk23 := dk22.step g18
  obtain ⟨c5, hm⟩ := guardp hm
  refine ⟨_, _, _, _, rfl, rfl, o17.at_, o16.at_, szle (by rw [Rs_len fr15, Rs_len (Rs_any fr16)]; exact c5), fun p13 np13 => ?_⟩
  have fr17 : Rs (α := PyData) (F2) (((cutV us2 none (some r2)) ++ [v6]) ++ (cutV us2 (some (r2 + (1 : Int))) none)) ((((cutT x1 none (some r2)).map fun z => (PyData.int z)) ++ ([r3] : (List PyData))) ++ ((cutT x1 (some (r2 + (1 : Int))) none).map fun z => (PyData.int z))) := Rs_app fr15 (Rs_any fr16)
  have g19 := Gr.newO (o := .lst (((cutV us2 none (some r2)) ++ [v6]) ++ (cutV us2 (some (r2 + (1 : Int))) none))) G20.sub np13
  have o18 := Ow.new (us := (((cutV us2 none (some r2)) ++ [v6]) ++ (cutV us2 (some (r2 + (1 : Int))) none))) G20 np13
  have G21 := G20.step g19
  have dk24 := dk23.step g19
  obtain ⟨F3, G22, ex3, fa6, nf3⟩ := o18.frzE G21
  have fr18 := Rs_mono ex3 fr17
  have dk25 := dk24.frzN o18 ex3 nf3
  have d8 : R (α := PyData) (F3) (.ref p13) (PyData.list ((((cutT x1 none (some r2)).map fun z => (PyData.int z)) ++ ([r3] : (List PyData))) ++ ((cutT x1 (some (r2 + (1 : Int))) none).map fun z => (PyData.int z)))) := (R_anyL (mk_lst ((Sub.refl _) _ _ fa6) (Rs_mono (Sub.refl _) fr18)))
  with_reducible refine x_cons ?_
  with_reducible refine x_op ?_
  refine ⟨_, rfl, ?_⟩
  with_reducible refine x_op ?_
  with_reducible refine x_lst ?_
  with_reducible refine x_cons ?_
  with_reducible refine x_c ?_
  refine ⟨szle (show 1 ≤ 16777216 from by decide), fun p14 np14 => ?_⟩
  have fr19 : Rs (α := Int) (F3) [(.int 0)] ([(0 : Int)] : (List Int)) := (Rs_cons (.int _) Rs_nil)
  have g20 := Gr.newO (o := .lst [(.int 0)]) G22.sub np14
  have o19 := Ow.new (us := [(.int 0)]) G22 np14
  have G23 := G22.step g20
  have dk26 := dk25.step g20
  with_reducible refine x_c ?_
  obtain ⟨c6, hm⟩ := guardp hm
  refine ⟨_, _, _, rfl, rfl, o19.at_, c6.lo, c6.hi, szle (by rw [Rs_len fr19]; exact c6.sz), fun p15 np15 => ?_⟩
  have fr20 : Rs (α := Int) (F3) (List.replicate (4 : Int).toNat [(.int 0)]).flatten (List.replicate (4 : Int).toNat ([(0 : Int)] : (List Int))).flatten := Rs_rep fr19
  have g21 := Gr.newO (o := .lst (List.replicate (4 : Int).toNat [(.int 0)]).flatten) G23.sub np15
  have o20 := Ow.new (us := (List.replicate (4 : Int).toNat [(.int 0)]).flatten) G23 np15
  have G24 := G23.step g21
  have dk27 := dk26.step g21
  obtain ⟨c7, hm⟩ := guardp hm
  refine ⟨_, _, _, _, rfl, rfl, (((((g7.ex.trans g8.ex).trans ex2).trans ex3).trans G24.sub) _ _ fa4), o20.at_, szle (by rw [Rs_len (Rs_mono (((g7.ex.trans g8.ex).trans ex2).trans ex3) fr6), Rs_len fr20]; exact c7), fun p16 np16 => ?_⟩
  have fr21 : Rs (α := Int) (F3) (us2 ++ (List.replicate (4 : Int).toNat [(.int 0)]).flatten) (x1 ++ ((List.replicate (4 : Int).toNat ([(0 : Int)] : (List Int))).flatten)) := Rs_app (Rs_mono (((g7.ex.trans g8.ex).trans ex2).trans ex3) fr6) fr20
  have g22 := Gr.newO (o := .lst (us2 ++ (List.replicate (4 : Int).toNat [(.int 0)]).flatten)) G24.sub np16
  have o21 := Ow.new (us := (us2 ++ (List.replicate (4 : Int).toNat [(.int 0)]).flatten)) G24 np16
  have G25 := G24.step g22
  have dk28 := dk27.step g22
  obtain ⟨F4, G26, ex4, fa7, nf4⟩ := o21.frzE G25
  have fr22 := Rs_mono ex4 fr21
  have dk29 := dk28.frzN o21 ex4 nf4
  have d9 : R (α := PyData) (F4) (.ref p16) (PyData.list ((x1 ++ ((List.replicate (4 : Int).toNat ([(0 : Int)] : (List Int))).flatten)).map fun z => (PyData.int z))) := (mk_lst ((Sub.refl _) _ _ fa7) (Rs_mono (Sub.refl _) fr22))
  with_reducible refine x_cons ?_
  with_reducible refine x_lst ?_
  refine ⟨szle (show 0 ≤ 16777216 from by decide), fun p17 np17 => ?_⟩
  have fr23 : Rs (α := PyData) (F4) [] ([] : (List PyData)) := Rs_nil
  have g23 := Gr.newO (o := .lst []) G26.sub np17
  have o22 := Ow.new (us := []) G26 np17
  have G27 := G26.step g23
  have dk30 := dk29.step g23
  obtain ⟨F5, G28, ex5, fa8, nf5⟩ := o22.frzE G27
  have fr24 := Rs_mono ex5 fr23
  have dk31 := dk30.frzN o22 ex5 nf5
  have d10 : R (α := PyData) (F5) (.ref p17) (PyData.list ([] : (List PyData))) := (R_anyL (mk_lst ((Sub.refl _) _ _ fa8) (Rs_mono (Sub.refl _) fr24)))
  with_reducible refine x_cons ?_
  with_reducible refine x_cb ?_
  with_reducible refine x_cons ?_
  refine ⟨_, rfl, ?_⟩
  have fr25 := (Rs_mono (((((g7.ex.trans g8.ex).trans ex2).trans ex3).trans ex4).trans ex5) fr6)
  refine ⟨_, _, rfl, .inl ⟨.inl (.inl (((((((g7.ex.trans g8.ex).trans ex2).trans ex3).trans ex4).trans ex5).trans G28.sub) _ _ fa4)), fun p18 np18 => ?_⟩⟩
  obtain ⟨F6, g24, fa9⟩ := Gr.newE (o := .tup us2) G28.sub np18
  have G29 := G28.step g24
  have dk32 := dk31.step g24
  have d11 : R (α := PyData) (F6) (.ref p18) (PyData.tuple (x1.map fun z => (PyData.int z))) := .tup fa9 (Rs_mono g24.ex fr25)
  with_reducible refine x_cons ?_
  with_reducible refine x_lst ?_
  with_reducible refine x_cons ?_
  refine ⟨_, rfl, ?_⟩
  refine ⟨szle (show 1 ≤ 16777216 from by decide), fun p19 np19 => ?_⟩
  have fr26 : Rs (α := (List Int)) (F6) [(.ref a3)] ([x1] : (List (List Int))) := (Rs_cons (mk_lst (((((((g7.ex.trans g8.ex).trans ex2).trans ex3).trans ex4).trans ex5).trans g24.ex) _ _ fa4) (Rs_mono ((((((g7.ex.trans g8.ex).trans ex2).trans ex3).trans ex4).trans ex5).trans g24.ex) fr6)) Rs_nil)
  have g25 := Gr.newO (o := .lst [(.ref a3)]) G29.sub np19
  have o23 := Ow.new (us := [(.ref a3)]) G29 np19
  have G30 := G29.step g25
  have dk33 := dk32.step g25
  obtain ⟨F7, G31, ex6, fa10, nf6⟩ := o23.frzE G30
  have fr27 := Rs_mono ex6 fr26
  have dk34 := dk33.frzN o23 ex6 nf6
  have d12 : R (α := PyData) (F7) (.ref p19) (PyData.list (([x1] : (List (List Int))).map fun z => (PyData.list (z.map fun z => (PyData.int z))))) := (mk_lst ((Sub.refl _) _ _ fa10) (Rs_mono (Sub.refl _) fr27))
  refine ⟨szle (show 6 ≤ 16777216 from by decide), fun p20 np20 => ?_⟩
  have fr28 : Rs (α := PyData) (F7) [(.ref p8), (.ref p13), (.ref p16), (.ref p17), (.ref p18), (.ref p19)] ([(PyData.list ((((cutT x1 none (some r2)).map fun z => (PyData.int z)) ++ ([r3] : (List PyData))) ++ ((cutT x1 (some r2) none).map fun z => (PyData.int z)))), (PyData.list ((((cutT x1 none (some r2)).map fun z => (PyData.int z)) ++ ([r3] : (List PyData))) ++ ((cutT x1 (some (r2 + (1 : Int))) none).map fun z => (PyData.int z)))), (PyData.list ((x1 ++ ((List.replicate (4 : Int).toNat ([(0 : Int)] : (List Int))).flatten)).map fun z => (PyData.int z))), (PyData.list ([] : (List PyData))), (PyData.tuple (x1.map fun z => (PyData.int z))), (PyData.list (([x1] : (List (List Int))).map fun z => (PyData.list (z.map fun z => (PyData.int z)))))] : (List PyData)) := (Rs_cons (RD.mono ((((ex3.trans ex4).trans ex5).trans g24.ex).trans ex6) d7) (Rs_cons (RD.mono (((ex4.trans ex5).trans g24.ex).trans ex6) d8) (Rs_cons (RD.mono ((ex5.trans g24.ex).trans ex6) d9) (Rs_cons (RD.mono (g24.ex.trans ex6) d10) (Rs_cons (RD.mono ex6 d11) (Rs_cons (RD.mono (Sub.refl _) d12) Rs_nil))))))
  have g26 := Gr.newO (o := .lst [(.ref p8), (.ref p13), (.ref p16), (.ref p17), (.ref p18), (.ref p19)]) G31.sub np20
  have o24 := Ow.new (us := [(.ref p8), (.ref p13), (.ref p16), (.ref p17), (.ref p18), (.ref p19)]) G31 np20
  have G32 := G31.step g26
  have dk35 := dk34.step g26
  obtain ⟨F8, G33, ex7, fa11, nf7⟩ := o24.frzE G32
  have fr29 := Rs_mono ex7 fr28
  have dk36 := dk35.frzN o24 ex7 nf7
  obtain ⟨x2, hx2, hm⟩ := bindp hm
  replace hx2 := Option.some.inj hx2
  have fr30 : Rs (α := PyData) (F8) [(.ref p8), (.ref p13), (.ref p16), (.ref p17), (.ref p18), (.ref p19)] x2 := by rw [← hx2]; exact (Rs_mono (Sub.refl _) fr29)
  have fa12 := (Sub.refl _) _ _ fa11
  clear hx2
  with_reducible refine x_gnE (σ' := ([some (.ref dk), some (.ref a1), some (.int (rule).1), some (.ref a2), some (.int r1), some (.ref a3), some (.int r2), some v6, some (.ref p20), none, none, none, none, none] : L2.St)) (by with_unfolding_all rfl) ?_
  with_reducible refine x_seq ?_
  with_reducible refine x_asg ?_
  with_reducible refine x_op ?_
  with_reducible refine x_op ?_
  refine ⟨_, rfl, ?_⟩
  with_reducible refine x_lst ?_
  with_reducible refine x_cons ?_
  with_reducible refine x_c ?_
  have d13 : R (α := PyData) (F8) .non PyData.none := .non
  with_reducible refine x_cons ?_
  with_reducible refine x_c ?_
  have d14 : R (α := PyData) (F8) (.int 0) (PyData.int (0 : Int)) := (.int _)
  with_reducible refine x_cons ?_
  with_reducible refine x_c ?_
  have d15 : R (α := PyData) (F8) (.str ("01" : Str)) (PyData.str ("01" : Str)) := (.str _)
  with_reducible refine x_cons ?_
  refine fun p21 np21 => ?_
  obtain ⟨F9, g27, fa13⟩ := Gr.newE (o := .dK []) G33.sub np21
  have G34 := G33.step g27
  have dk37 := dk36.step g27
  have d16 : R (α := PyData) (F9) (.ref p21) (PyData.dict []) := .dic fa13 .nil
  with_reducible refine x_cons ?_
  with_reducible refine x_op ?_
  with_reducible refine x_sl ?_
  refine ⟨_, rfl, ?_⟩
  with_reducible refine x_nopart ?_
  with_reducible refine x_part ?_
  refine ⟨_, rfl, ?_⟩
  refine ⟨_, rfl, ?_⟩
  refine ⟨_, _, rfl, .inl (.inl (((((((((((g7.ex.trans g8.ex).trans ex2).trans ex3).trans ex4).trans ex5).trans g24.ex).trans ex6).trans ex7).trans g27.ex).trans G34.sub) _ _ fa4)), fun p22 np22 => ?_⟩
  have fr31 : Rs (α := Int) (F9) (cutV us2 none (some r2)) (cutT x1 none (some r2)) := Rs_cut (Rs_mono (((((((((g7.ex.trans g8.ex).trans ex2).trans ex3).trans ex4).trans ex5).trans g24.ex).trans ex6).trans ex7).trans g27.ex) fr6)
  have g28 := Gr.newO (o := .lst (cutV us2 none (some r2))) G34.sub np22
  have o25 := Ow.new (us := (cutV us2 none (some r2))) G34 np22
  have G35 := G34.step g28
  have dk38 := dk37.step g28
  with_reducible refine x_sl ?_
  refine ⟨_, rfl, ?_⟩
  with_reducible refine x_part ?_
  refine useEv (.int (r2 + (1 : Int))) (by exact (Evl.ev_op (Evl.ev_var rfl) Evl.ev_c Evl.rv_I0)) (fun H7 e4 => ?_)
  have g29 := gr_ex G35.sub e4
  have G36 := G35.step g29
  have o26 := o25.step g29
  have dk39 := dk38.step g29
  refine ⟨_, rfl, ?_⟩
  with_reducible refine x_nopart ?_
  refine ⟨_, _, rfl, .inl (.inl (((((((((((g7.ex.trans g8.ex).trans ex2).trans ex3).trans ex4).trans ex5).trans g24.ex).trans ex6).trans ex7).trans g27.ex).trans G36.sub) _ _ fa4)), fun p23 np23 => ?_⟩
  have fr32 : Rs (α := Int) (F9) (cutV us2 (some (r2 + (1 : Int))) none) (cutT x1 (some (r2 + (1 : Int))) none) := Rs_cut (Rs_mono (((((((((g7.ex.trans g8.ex).trans ex2).trans ex3).trans ex4).trans ex5).trans g24.ex).trans ex6).trans ex7).trans g27.ex) fr6)
  have g30 := Gr.newO (o := .lst (cutV us2 (some (r2 + (1 : Int))) none)) G36.sub np23
  have o27 := Ow.new (us := (cutV us2 (some (r2 + (1 : Int))) none)) G36 np23
  have ne5 := o26.ne_new np23
  have G37 := G36.step g30
  have o28 := o26.step g30
  have dk40 := dk39.step g30
  obtain ⟨c8, hm⟩ := guardp hm
  refine ⟨_, _, _, _, rfl, rfl, o28.at_, o27.at_, szle (by rw [Rs_len fr31, Rs_len fr32]; exact c8), fun p24 np24 => ?_⟩
  have fr33 : Rs (α := Int) (F9) ((cutV us2 none (some r2)) ++ (cutV us2 (some (r2 + (1 : Int))) none)) ((cutT x1 none (some r2)) ++ (cutT x1 (some (r2 + (1 : Int))) none)) := Rs_app fr31 fr32
  have g31 := Gr.newO (o := .lst ((cutV us2 none (some r2)) ++ (cutV us2 (some (r2 + (1 : Int))) none))) G37.sub np24
  have o29 := Ow.new (us := ((cutV us2 none (some r2)) ++ (cutV us2 (some (r2 + (1 : Int))) none))) G37 np24
  have G38 := G37.step g31
  have dk41 := dk40.step g31
  obtain ⟨F10, G39, ex8, fa14, nf8⟩ := o29.frzE G38
  have fr34 := Rs_mono ex8 fr33
  have dk42 := dk41.frzN o29 ex8 nf8
  have d17 : R (α := PyData) (F10) (.ref p24) (PyData.list (((cutT x1 none (some r2)) ++ (cutT x1 (some (r2 + (1 : Int))) none)).map fun z => (PyData.int z))) := (mk_lst ((Sub.refl _) _ _ fa14) (Rs_mono (Sub.refl _) fr34))
  with_reducible refine x_cons ?_
  with_reducible refine x_op ?_
  refine ⟨_, rfl, ?_⟩
  with_reducible refine x_lst ?_
  with_reducible refine x_cons ?_
  with_reducible refine x_c ?_
  refine ⟨szle (show 1 ≤ 16777216 from by decide), fun p25 np25 => ?_⟩
  have fr35 : Rs (α := Int) (F10) [(.int 0)] ([(0 : Int)] : (List Int)) := (Rs_cons (.int _) Rs_nil)
  have g32 := Gr.newO (o := .lst [(.int 0)]) G39.sub np25
  have o30 := Ow.new (us := [(.int 0)]) G39 np25
  have G40 := G39.step g32
  have dk43 := dk42.step g32
  obtain ⟨c9, hm⟩ := guardp hm
  refine ⟨_, _, _, _, rfl, rfl, ((((((((((((g7.ex.trans g8.ex).trans ex2).trans ex3).trans ex4).trans ex5).trans g24.ex).trans ex6).trans ex7).trans g27.ex).trans ex8).trans G40.sub) _ _ fa4), o30.at_, szle (by rw [Rs_len (Rs_mono ((((((((((g7.ex.trans g8.ex).trans ex2).trans ex3).trans ex4).trans ex5).trans g24.ex).trans ex6).trans ex7).trans g27.ex).trans ex8) fr6), Rs_len fr35]; exact c9), fun p26 np26 => ?_⟩
  have fr36 : Rs (α := Int) (F10) (us2 ++ [(.int 0)]) (x1 ++ ([(0 : Int)] : (List Int))) := Rs_app (Rs_mono ((((((((((g7.ex.trans g8.ex).trans ex2).trans ex3).trans ex4).trans ex5).trans g24.ex).trans ex6).trans ex7).trans g27.ex).trans ex8) fr6) fr35
  have g33 := Gr.newO (o := .lst (us2 ++ [(.int 0)])) G40.sub np26
  have o31 := Ow.new (us := (us2 ++ [(.int 0)])) G40 np26
  have G41 := G40.step g33
  have dk44 := dk43.step g33
  obtain ⟨F11, G42, ex9, fa15, nf9⟩ := o31.frzE G41
  have fr37 := Rs_mono ex9 fr36
  have dk45 := dk44.frzN o31 ex9 nf9
  have d18 : R (α := PyData) (F11) (.ref p26) (PyData.list ((x1 ++ ([(0 : Int)] : (List Int))).map fun z => (PyData.int z))) := (mk_lst ((Sub.refl _) _ _ fa15) (Rs_mono (Sub.refl _) fr37))
  refine ⟨szle (show 6 ≤ 16777216 from by decide), fun p27 np27 => ?_⟩
  have fr38 : Rs (α := PyData) (F11) [.non, (.int 0), (.str ("01" : Str)), (.ref p21), (.ref p24), (.ref p26)] ([PyData.none, (PyData.int (0 : Int)), (PyData.str ("01" : Str)), (PyData.dict []), (PyData.list (((cutT x1 none (some r2)) ++ (cutT x1 (some (r2 + (1 : Int))) none)).map fun z => (PyData.int z))), (PyData.list ((x1 ++ ([(0 : Int)] : (List Int))).map fun z => (PyData.int z)))] : (List PyData)) := (Rs_cons (RD.mono ((g27.ex.trans ex8).trans ex9) d13) (Rs_cons (RD.mono ((g27.ex.trans ex8).trans ex9) d14) (Rs_cons (RD.mono ((g27.ex.trans ex8).trans ex9) d15) (Rs_cons (RD.mono (ex8.trans ex9) d16) (Rs_cons (RD.mono ex9 d17) (Rs_cons (RD.mono (Sub.refl _) d18) Rs_nil))))))
  have g34 := Gr.newO (o := .lst [.non, (.int 0), (.str ("01" : Str)), (.ref p21), (.ref p24), (.ref p26)]) G42.sub np27
  have o32 := Ow.new (us := [.non, (.int 0), (.str ("01" : Str)), (.ref p21), (.ref p24), (.ref p26)]) G42 np27
  have G43 := G42.step g34
  have dk46 := dk45.step g34
  obtain ⟨c10, hm⟩ := guardp hm
  refine ⟨_, _, _, _, rfl, rfl, ((((g27.ex.trans ex8).trans ex9).trans G43.sub) _ _ fa12), o32.at_, szle (by rw [Rs_len (Rs_mono ((g27.ex.trans ex8).trans ex9) fr30), Rs_len fr38]; exact c10), fun p28 np28 => ?_⟩
  have fr39 : Rs (α := PyData) (F11) ([(.ref p8), (.ref p13), (.ref p16), (.ref p17), (.ref p18), (.ref p19)] ++ [.non, (.int 0), (.str ("01" : Str)), (.ref p21), (.ref p24), (.ref p26)]) (x2 ++ ([PyData.none, (PyData.int (0 : Int)), (PyData.str ("01" : Str)), (PyData.dict []), (PyData.list (((cutT x1 none (some r2)) ++ (cutT x1 (some (r2 + (1 : Int))) none)).map fun z => (PyData.int z))), (PyData.list ((x1 ++ ([(0 : Int)] : (List Int))).map fun z => (PyData.int z)))] : (List PyData))) := Rs_app (Rs_mono ((g27.ex.trans ex8).trans ex9) fr30) fr38
  have g35 := Gr.newO (o := .lst ([(.ref p8), (.ref p13), (.ref p16), (.ref p17), (.ref p18), (.ref p19)] ++ [.non, (.int 0), (.str ("01" : Str)), (.ref p21), (.ref p24), (.ref p26)])) G43.sub np28
  have o33 := Ow.new (us := ([(.ref p8), (.ref p13), (.ref p16), (.ref p17), (.ref p18), (.ref p19)] ++ [.non, (.int 0), (.str ("01" : Str)), (.ref p21), (.ref p24), (.ref p26)])) G43 np28
  have G44 := G43.step g35
  have dk47 := dk46.step g35
  with_reducible refine x_call ?_
  with_reducible refine x_cons ?_
  refine ⟨_, rfl, ?_⟩
  with_reducible refine x_cons ?_
  with_reducible refine x_c ?_
  obtain ⟨⟨r4, st4⟩, hr4, hm⟩ := bindp hm
  refine ⟨_, _, _, _, _, (12 : Int), r4, st4, rfl, G44.sub, dk47.at_, dk47.nf, (.int _), hr4, fun N4 H8 v7 g36 dk48 d19 => ?_⟩
  have G45 := G44.trans g36
  have o34 := o33.stepA g36 (dk47.out o33)
  have dk49 := dk47.stepA g36 dk48
  obtain rfl := int_of d19
  obtain ⟨x3, hx3, hm⟩ := bindp hm
  obtain ⟨v8, hu2, d20⟩ := Rs_at (Rs_mono g36.ex fr39) hx3
  refine ⟨_, _, _, _, rfl, rfl, .inl (.inl o34.at_), hu2, ?_⟩
  with_reducible refine x_gnE (σ' := ([some (.ref dk), some (.ref a1), some (.int (rule).1), some (.ref a2), some (.int r1), some (.ref a3), some (.int r2), some v6, some v8, none, none, none, none, none] : L2.St)) (by with_unfolding_all rfl) ?_
  with_reducible refine x_seq ?_
  with_reducible refine x_asg ?_
  with_reducible refine x_op ?_
  with_reducible refine x_op ?_
  with_reducible refine x_sl ?_
  refine ⟨_, rfl, ?_⟩
  with_reducible refine x_nopart ?_
  with_reducible refine x_part ?_
  refine ⟨_, rfl, ?_⟩
  refine ⟨_, rfl, ?_⟩
  refine ⟨_, _, rfl, .inl (.inl ((((((((((((((((g2.ex.trans ex1).trans g7.ex).trans g8.ex).trans ex2).trans ex3).trans ex4).trans ex5).trans g24.ex).trans ex6).trans ex7).trans g27.ex).trans ex8).trans ex9).trans g36.ex).trans G45.sub) _ _ fa2)), fun p29 np29 => ?_⟩
  have fr40 : Rs (α := (List Int)) (N4) (cutV us1 none (some r1)) (cutT (rule).2 none (some r1)) := Rs_cut (Rs_mono ((((((((((((((g2.ex.trans ex1).trans g7.ex).trans g8.ex).trans ex2).trans ex3).trans ex4).trans ex5).trans g24.ex).trans ex6).trans ex7).trans g27.ex).trans ex8).trans ex9).trans g36.ex) fr1)
  have g37 := Gr.newO (o := .lst (cutV us1 none (some r1))) G45.sub np29
  have o35 := Ow.new (us := (cutV us1 none (some r1))) G45 np29
  have G46 := G45.step g37
  have dk50 := dk49.step g37
  with_reducible refine x_lst ?_
  with_reducible refine x_cons ?_
  refine ⟨_, rfl, ?_⟩
  refine ⟨szle (show 1 ≤ 16777216 from by decide), fun p30 np30 => ?_⟩
  have fr41 : Rs (α := PyData) (N4) [v8] ([x3] : (List PyData)) := (Rs_cons (RD.mono (Sub.refl _) d20) Rs_nil)
  have g38 := Gr.newO (o := .lst [v8]) G46.sub np30
  have o36 := Ow.new (us := [v8]) G46 np30
  have ne6 := o35.ne_new np30
  have G47 := G46.step g38
  have o37 := o35.step g38
  have dk51 := dk50.step g38
  obtain ⟨c11, hm⟩ := guardp hm
  refine ⟨_, _, _, _, rfl, rfl, o37.at_, o36.at_, szle (by rw [Rs_len (Rs_any fr40), Rs_len fr41]; exact c11), fun p31 np31 => ?_⟩
  have fr42 : Rs (α := PyData) (N4) ((cutV us1 none (some r1)) ++ [v8]) (((cutT (rule).2 none (some r1)).map fun z => (PyData.list (z.map fun z => (PyData.int z)))) ++ ([x3] : (List PyData))) := Rs_app (Rs_any fr40) fr41
  have g39 := Gr.newO (o := .lst ((cutV us1 none (some r1)) ++ [v8])) G47.sub np31
  have o38 := Ow.new (us := ((cutV us1 none (some r1)) ++ [v8])) G47 np31
  have G48 := G47.step g39
  have dk52 := dk51.step g39
  with_reducible refine x_sl ?_
  refine ⟨_, rfl, ?_⟩
  with_reducible refine x_part ?_
  refine useEv (.int (r1 + (1 : Int))) (by exact (Evl.ev_op (Evl.ev_var rfl) Evl.ev_c Evl.rv_I0)) (fun H9 e5 => ?_)
  have g40 := gr_ex G48.sub e5
  have G49 := G48.step g40
  have o39 := o38.step g40
  have dk53 := dk52.step g40
  refine ⟨_, rfl, ?_⟩
  with_reducible refine x_nopart ?_
  refine ⟨_, _, rfl, .inl (.inl ((((((((((((((((g2.ex.trans ex1).trans g7.ex).trans g8.ex).trans ex2).trans ex3).trans ex4).trans ex5).trans g24.ex).trans ex6).trans ex7).trans g27.ex).trans ex8).trans ex9).trans g36.ex).trans G49.sub) _ _ fa2)), fun p32 np32 => ?_⟩
  have fr43 : Rs (α := (List Int)) (N4) (cutV us1 (some (r1 + (1 : Int))) none) (cutT (rule).2 (some (r1 + (1 : Int))) none) := Rs_cut (Rs_mono ((((((((((((((g2.ex.trans ex1).trans g7.ex).trans g8.ex).trans ex2).trans ex3).trans ex4).trans ex5).trans g24.ex).trans ex6).trans ex7).trans g27.ex).trans ex8).trans ex9).trans g36.ex) fr1)
  have g41 := Gr.newO (o := .lst (cutV us1 (some (r1 + (1 : Int))) none)) G49.sub np32
  have o40 := Ow.new (us := (cutV us1 (some (r1 + (1 : Int))) none)) G49 np32
  have ne7 := o39.ne_new np32
  have G50 := G49.step g41
  have o41 := o39.step g41
  have dk54 := dk53.step g41
  obtain ⟨c12, hm⟩ := guardp hm
  refine ⟨_, _, _, _, rfl, rfl, o41.at_, o40.at_, szle (by rw [Rs_len fr42, Rs_len (Rs_any fr43)]; exact c12), fun p33 np33 => ?_⟩
  have fr44 : Rs (α := PyData) (N4) (((cutV us1 none (some r1)) ++ [v8]) ++ (cutV us1 (some (r1 + (1 : Int))) none)) ((((cutT (rule).2 none (some r1)).map fun z => (PyData.list (z.map fun z => (PyData.int z)))) ++ ([x3] : (List PyData))) ++ ((cutT (rule).2 (some (r1 + (1 : Int))) none).map fun z => (PyData.list (z.map fun z => (PyData.int z))))) := Rs_app fr42 (Rs_any fr43)
  have g42 := Gr.newO (o := .lst (((cutV us1 none (some r1)) ++ [v8]) ++ (cutV us1 (some (r1 + (1 : Int))) none))) G50.sub np33
  have o42 := Ow.new (us := (((cutV us1 none (some r1)) ++ [v8]) ++ (cutV us1 (some (r1 + (1 : Int))) none))) G50 np33
  have G51 := G50.step g42
  have dk55 := dk54.step g42
  obtain ⟨F12, G52, ex10, fa16, nf10⟩ := o42.frzE G51
  have fr45 := Rs_mono ex10 fr44
  have dk56 := dk55.frzN o42 ex10 nf10
  obtain ⟨x4, hx4, hm⟩ := bindp hm
  replace hx4 := Option.some.inj hx4
  have fr46 : Rs (α := PyData) (F12) (((cutV us1 none (some r1)) ++ [v8]) ++ (cutV us1 (some (r1 + (1 : Int))) none)) x4 := by rw [← hx4]; exact (Rs_mono (Sub.refl _) fr45)
  have fa17 := (Sub.refl _) _ _ fa16
  clear hx4
  with_reducible refine x_gnE (σ' := ([some (.ref dk), some (.ref a1), some (.int (rule).1), some (.ref a2), some (.int r1), some (.ref a3), some (.int r2), some v6, some v8, some (.ref p33), none, none, none, none] : L2.St)) (by with_unfolding_all rfl) ?_
  with_reducible refine x_seq ?_
  with_reducible refine x_asg ?_
  with_reducible refine x_op ?_
  with_reducible refine x_op ?_
  with_reducible refine x_sl ?_
  refine ⟨_, rfl, ?_⟩
  with_reducible refine x_nopart ?_
  with_reducible refine x_part ?_
  refine ⟨_, rfl, ?_⟩
  refine ⟨_, rfl, ?_⟩
  refine ⟨_, _, rfl, .inl (.inl (((((((((((((((((g2.ex.trans ex1).trans g7.ex).trans g8.ex).trans ex2).trans ex3).trans ex4).trans ex5).trans g24.ex).trans ex6).trans ex7).trans g27.ex).trans ex8).trans ex9).trans g36.ex).trans ex10).trans G52.sub) _ _ fa2)), fun p34 np34 => ?_⟩
  have fr47 : Rs (α := (List Int)) (F12) (cutV us1 none (some r1)) (cutT (rule).2 none (some r1)) := Rs_cut (Rs_mono (((((((((((((((g2.ex.trans ex1).trans g7.ex).trans g8.ex).trans ex2).trans ex3).trans ex4).trans ex5).trans g24.ex).trans ex6).trans ex7).trans g27.ex).trans ex8).trans ex9).trans g36.ex).trans ex10) fr1)
  have g43 := Gr.newO (o := .lst (cutV us1 none (some r1))) G52.sub np34
  have o43 := Ow.new (us := (cutV us1 none (some r1))) G52 np34
  have G53 := G52.step g43
  have dk57 := dk56.step g43
  with_reducible refine x_revL ?_
  with_reducible refine x_sl ?_
  refine ⟨_, rfl, ?_⟩
  with_reducible refine x_part ?_
  refine ⟨_, rfl, ?_⟩
  refine ⟨_, rfl, ?_⟩
  with_reducible refine x_part ?_
  refine useEv (.int (r1 + (2 : Int))) (by exact (Evl.ev_op (Evl.ev_var rfl) Evl.ev_c Evl.rv_I0)) (fun H10 e6 => ?_)
  have g44 := gr_ex G53.sub e6
  have G54 := G53.step g44
  have o44 := o43.step g44
  have dk58 := dk57.step g44
  refine ⟨_, rfl, ?_⟩
  refine ⟨_, _, rfl, .inl (.inl (((((((((((((((((g2.ex.trans ex1).trans g7.ex).trans g8.ex).trans ex2).trans ex3).trans ex4).trans ex5).trans g24.ex).trans ex6).trans ex7).trans g27.ex).trans ex8).trans ex9).trans g36.ex).trans ex10).trans G54.sub) _ _ fa2)), fun p35 np35 => ?_⟩
  have fr48 : Rs (α := (List Int)) (F12) (cutV us1 (some r1) (some (r1 + (2 : Int)))) (cutT (rule).2 (some r1) (some (r1 + (2 : Int)))) := Rs_cut (Rs_mono (((((((((((((((g2.ex.trans ex1).trans g7.ex).trans g8.ex).trans ex2).trans ex3).trans ex4).trans ex5).trans g24.ex).trans ex6).trans ex7).trans g27.ex).trans ex8).trans ex9).trans g36.ex).trans ex10) fr1)
  have g45 := Gr.newO (o := .lst (cutV us1 (some r1) (some (r1 + (2 : Int))))) G54.sub np35
  have o45 := Ow.new (us := (cutV us1 (some r1) (some (r1 + (2 : Int))))) G54 np35
  have ne8 := o44.ne_new np35
  have G55 := G54.step g45
  have o46 := o44.step g45
  have dk59 := dk58.step g45
  refine ⟨_, _, rfl, .inl (.inl o45.at_), fun p36 np36 => ?_⟩
  have fr49 : Rs (α := (List Int)) (F12) ((cutV us1 (some r1) (some (r1 + (2 : Int))))).reverse (((cutT (rule).2 (some r1) (some (r1 + (2 : Int))))).reverse) := Rs_rev fr48
  have g46 := Gr.newO (o := .lst ((cutV us1 (some r1) (some (r1 + (2 : Int))))).reverse) G55.sub np36
  have o47 := Ow.new (us := ((cutV us1 (some r1) (some (r1 + (2 : Int))))).reverse) G55 np36
  have ne9 := o46.ne_new np36
  have G56 := G55.step g46
  have o48 := o46.step g46
  have dk60 := dk59.step g46
  obtain ⟨c13, hm⟩ := guardp hm
  refine ⟨_, _, _, _, rfl, rfl, o48.at_, o47.at_, szle (by rw [Rs_len fr47, Rs_len fr49]; exact c13), fun p37 np37 => ?_⟩
  have fr50 : Rs (α := (List Int)) (F12) ((cutV us1 none (some r1)) ++ ((cutV us1 (some r1) (some (r1 + (2 : Int))))).reverse) ((cutT (rule).2 none (some r1)) ++ (((cutT (rule).2 (some r1) (some (r1 + (2 : Int))))).reverse)) := Rs_app fr47 fr49
  have g47 := Gr.newO (o := .lst ((cutV us1 none (some r1)) ++ ((cutV us1 (some r1) (some (r1 + (2 : Int))))).reverse)) G56.sub np37
  have o49 := Ow.new (us := ((cutV us1 none (some r1)) ++ ((cutV us1 (some r1) (some (r1 + (2 : Int))))).reverse)) G56 np37
  have G57 := G56.step g47
  have dk61 := dk60.step g47
  with_reducible refine x_sl ?_
  refine ⟨_, rfl, ?_⟩
  with_reducible refine x_part ?_
  refine useEv (.int (r1 + (2 : Int))) (by exact (Evl.ev_op (Evl.ev_var rfl) Evl.ev_c Evl.rv_I0)) (fun H11 e7 => ?_)
  have g48 := gr_ex G57.sub e7
  have G58 := G57.step g48
  have o50 := o49.step g48
  have dk62 := dk61.step g48
  refine ⟨_, rfl, ?_⟩
  with_reducible refine x_nopart ?_
  refine ⟨_, _, rfl, .inl (.inl (((((((((((((((((g2.ex.trans ex1).trans g7.ex).trans g8.ex).trans ex2).trans ex3).trans ex4).trans ex5).trans g24.ex).trans ex6).trans ex7).trans g27.ex).trans ex8).trans ex9).trans g36.ex).trans ex10).trans G58.sub) _ _ fa2)), fun p38 np38 => ?_⟩
  have fr51 : Rs (α := (List Int)) (F12) (cutV us1 (some (r1 + (2 : Int))) none) (cutT (rule).2 (some (r1 + (2 : Int))) none) := Rs_cut (Rs_mono (((((((((((((((g2.ex.trans ex1).trans g7.ex).trans g8.ex).trans ex2).trans ex3).trans ex4).trans ex5).trans g24.ex).trans ex6).trans ex7).trans g27.ex).trans ex8).trans ex9).trans g36.ex).trans ex10) fr1)
  have g49 := Gr.newO (o := .lst (cutV us1 (some (r1 + (2 : Int))) none)) G58.sub np38
  have o51 := Ow.new (us := (cutV us1 (some (r1 + (2 : Int))) none)) G58 np38
  have ne10 := o50.ne_new np38
  have G59 := G58.step g49
  have o52 := o50.step g49
  have dk63 := dk62.step g49
  obtain ⟨c14, hm⟩ := guardp hm
  refine ⟨_, _, _, _, rfl, rfl, o52.at_, o51.at_, szle (by rw [Rs_len fr50, Rs_len fr51]; exact c14), fun p39 np39 => ?_⟩
  have fr52 : Rs (α := (List Int)) (F12) (((cutV us1 none (some r1)) ++ ((cutV us1 (some r1) (some (r1 + (2 : Int))))).reverse) ++ (cutV us1 (some (r1 + (2 : Int))) none)) (((cutT (rule).2 none (some r1)) ++ (((cutT (rule).2 (some r1) (some (r1 + (2 : Int))))).reverse)) ++ (cutT (rule).2 (some (r1 + (2 : Int))) none)) := Rs_app fr50 fr51
  have g50 := Gr.newO (o := .lst (((cutV us1 none (some r1)) ++ ((cutV us1 (some r1) (some (r1 + (2 : Int))))).reverse) ++ (cutV us1 (some (r1 + (2 : Int))) none))) G59.sub np39
  have o53 := Ow.new (us := (((cutV us1 none (some r1)) ++ ((cutV us1 (some r1) (some (r1 + (2 : Int))))).reverse) ++ (cutV us1 (some (r1 + (2 : Int))) none))) G59 np39
  have G60 := G59.step g50
  have dk64 := dk63.step g50
  obtain ⟨F13, G61, ex11, fa18, nf11⟩ := o53.frzE G60
  have fr53 := Rs_mono ex11 fr52
  have dk65 := dk64.frzN o53 ex11 nf11
  with_reducible refine x_gnE (σ' := ([some (.ref dk), some (.ref a1), some (.int (rule).1), some (.ref a2), some (.int r1), some (.ref a3), some (.int r2), some v6, some v8, some (.ref p33), some (.ref p39), none, none, none] : L2.St)) (by with_unfolding_all rfl) ?_
  with_reducible refine x_seq ?_
  with_reducible refine x_asg ?_
  with_reducible refine x_lst ?_
  with_reducible refine x_cons ?_
  refine ⟨_, rfl, ?_⟩
  have d21 : R (α := PyData) (F13) (.ref p33) (PyData.list x4) := (R_anyL (mk_lst (ex11 _ _ fa17) (Rs_mono ex11 fr46)))
  with_reducible refine x_cons ?_
  refine ⟨_, rfl, ?_⟩
  have d22 : R (α := PyData) (F13) (.ref p33) (PyData.list x4) := (R_anyL (mk_lst (ex11 _ _ fa17) (Rs_mono ex11 fr46)))
  with_reducible refine x_cons ?_
  refine ⟨_, rfl, ?_⟩
  have d23 : R (α := PyData) (F13) (.ref p33) (PyData.list x4) := (R_anyL (mk_lst (ex11 _ _ fa17) (Rs_mono ex11 fr46)))
  with_reducible refine x_cons ?_
  with_reducible refine x_op ?_
  with_reducible refine x_op ?_
  with_reducible refine x_sl ?_
  refine ⟨_, rfl, ?_⟩
  with_reducible refine x_nopart ?_
  with_reducible refine x_part ?_
  refine ⟨_, rfl, ?_⟩
  refine ⟨_, rfl, ?_⟩
  refine ⟨_, _, rfl, .inl (.inl ((((((((((((((((((g2.ex.trans ex1).trans g7.ex).trans g8.ex).trans ex2).trans ex3).trans ex4).trans ex5).trans g24.ex).trans ex6).trans ex7).trans g27.ex).trans ex8).trans ex9).trans g36.ex).trans ex10).trans ex11).trans G61.sub) _ _ fa2)), fun p40 np40 => ?_⟩
  have fr54 : Rs (α := (List Int)) (F13) (cutV us1 none (some r1)) (cutT (rule).2 none (some r1)) := Rs_cut (Rs_mono ((((((((((((((((g2.ex.trans ex1).trans g7.ex).trans g8.ex).trans ex2).trans ex3).trans ex4).trans ex5).trans g24.ex).trans ex6).trans ex7).trans g27.ex).trans ex8).trans ex9).trans g36.ex).trans ex10).trans ex11) fr1)
  have g51 := Gr.newO (o := .lst (cutV us1 none (some r1))) G61.sub np40
  have o54 := Ow.new (us := (cutV us1 none (some r1))) G61 np40
  have G62 := G61.step g51
  have dk66 := dk65.step g51
  with_reducible refine x_lst ?_
  with_reducible refine x_cons ?_
  refine ⟨_, rfl, ?_⟩
  refine ⟨szle (show 1 ≤ 16777216 from by decide), fun p41 np41 => ?_⟩
  have fr55 : Rs (α := PyData) (F13) [v8] ([x3] : (List PyData)) := (Rs_cons (RD.mono (ex10.trans ex11) d20) Rs_nil)
  have g52 := Gr.newO (o := .lst [v8]) G62.sub np41
  have o55 := Ow.new (us := [v8]) G62 np41
  have ne11 := o54.ne_new np41
  have G63 := G62.step g52
  have o56 := o54.step g52
  have dk67 := dk66.step g52
  obtain ⟨c15, hm⟩ := guardp hm
  refine ⟨_, _, _, _, rfl, rfl, o56.at_, o55.at_, szle (by rw [Rs_len (Rs_any fr54), Rs_len fr55]; exact c15), fun p42 np42 => ?_⟩
  have fr56 : Rs (α := PyData) (F13) ((cutV us1 none (some r1)) ++ [v8]) (((cutT (rule).2 none (some r1)).map fun z => (PyData.list (z.map fun z => (PyData.int z)))) ++ ([x3] : (List PyData))) := Rs_app (Rs_any fr54) fr55
  have g53 := Gr.newO (o := .lst ((cutV us1 none (some r1)) ++ [v8])) G63.sub np42
  have o57 := Ow.new (us := ((cutV us1 none (some r1)) ++ [v8])) G63 np42
  have G64 := G63.step g53
  have dk68 := dk67.step g53
  with_reducible refine x_sl ?_
  refine ⟨_, rfl, ?_⟩
  with_reducible refine x_part ?_
  refine ⟨_, rfl, ?_⟩
  refine ⟨_, rfl, ?_⟩
  with_reducible refine x_nopart ?_
  refine ⟨_, _, rfl, .inl (.inl ((((((((((((((((((g2.ex.trans ex1).trans g7.ex).trans g8.ex).trans ex2).trans ex3).trans ex4).trans ex5).trans g24.ex).trans ex6).trans ex7).trans g27.ex).trans ex8).trans ex9).trans g36.ex).trans ex10).trans ex11).trans G64.sub) _ _ fa2)), fun p43 np43 => ?_⟩
  have fr57 : Rs (α := (List Int)) (F13) (cutV us1 (some r1) none) (cutT (rule).2 (some r1) none) := Rs_cut (Rs_mono ((((((((((((((((g2.ex.trans ex1).trans g7.ex).trans g8.ex).trans ex2).trans ex3).trans ex4).trans ex5).trans g24.ex).trans ex6).trans ex7).trans g27.ex).trans ex8).trans ex9).trans g36.ex).trans ex10).trans ex11) fr1)
  have g54 := Gr.newO (o := .lst (cutV us1 (some r1) none)) G64.sub np43
  have o58 := Ow.new (us := (cutV us1 (some r1) none)) G64 np43
  have ne12 := o57.ne_new np43
  have G65 := G64.step g54
  have o59 := o57.step g54
  have dk69 := dk68.step g54
  obtain ⟨c16, hm⟩ := guardp hm
  refine ⟨_, _, _, _, rfl, rfl, o59.at_, o58.at_, szle (by rw [Rs_len fr56, Rs_len (Rs_any fr57)]; exact c16), fun p44 np44 => ?_⟩
  have fr58 : Rs (α := PyData) (F13) (((cutV us1 none (some r1)) ++ [v8]) ++ (cutV us1 (some r1) none)) ((((cutT (rule).2 none (some r1)).map fun z => (PyData.list (z.map fun z => (PyData.int z)))) ++ ([x3] : (List PyData))) ++ ((cutT (rule).2 (some r1) none).map fun z => (PyData.list (z.map fun z => (PyData.int z))))) := Rs_app fr56 (Rs_any fr57)
  have g55 := Gr.newO (o := .lst (((cutV us1 none (some r1)) ++ [v8]) ++ (cutV us1 (some r1) none))) G65.sub np44
  have o60 := Ow.new (us := (((cutV us1 none (some r1)) ++ [v8]) ++ (cutV us1 (some r1) none))) G65 np44
  have G66 := G65.step g55
  have dk70 := dk69.step g55
  obtain ⟨F14, G67, ex12, fa19, nf12⟩ := o60.frzE G66
  have fr59 := Rs_mono ex12 fr58
  have dk71 := dk70.frzN o60 ex12 nf12
  have d24 : R (α := PyData) (F14) (.ref p44) (PyData.list ((((cutT (rule).2 none (some r1)).map fun z => (PyData.list (z.map fun z => (PyData.int z)))) ++ ([x3] : (List PyData))) ++ ((cutT (rule).2 (some r1) none).map fun z => (PyData.list (z.map fun z => (PyData.int z)))))) := (R_anyL (mk_lst ((Sub.refl _) _ _ fa19) (Rs_mono (Sub.refl _) fr59)))
  with_reducible refine x_cons ?_
  refine ⟨_, rfl, ?_⟩
  have d25 : R (α := PyData) (F14) (.ref p39) (PyData.list ((((cutT (rule).2 none (some r1)) ++ (((cutT (rule).2 (some r1) (some (r1 + (2 : Int))))).reverse)) ++ (cutT (rule).2 (some (r1 + (2 : Int))) none)).map fun z => (PyData.list (z.map fun z => (PyData.int z))))) := (mk_lst (ex12 _ _ fa18) (Rs_mono ex12 fr53))
  with_reducible refine x_cons ?_
  with_reducible refine x_revL ?_
  refine ⟨_, rfl, ?_⟩
  refine ⟨_, _, rfl, .inl (.inl (((((((((((((((((((g2.ex.trans ex1).trans g7.ex).trans g8.ex).trans ex2).trans ex3).trans ex4).trans ex5).trans g24.ex).trans ex6).trans ex7).trans g27.ex).trans ex8).trans ex9).trans g36.ex).trans ex10).trans ex11).trans ex12).trans G67.sub) _ _ fa2)), fun p45 np45 => ?_⟩
  have fr60 : Rs (α := (List Int)) (F14) (us1).reverse (((rule).2).reverse) := Rs_rev (Rs_mono (((((((((((((((((g2.ex.trans ex1).trans g7.ex).trans g8.ex).trans ex2).trans ex3).trans ex4).trans ex5).trans g24.ex).trans ex6).trans ex7).trans g27.ex).trans ex8).trans ex9).trans g36.ex).trans ex10).trans ex11).trans ex12) fr1)
  have g56 := Gr.newO (o := .lst (us1).reverse) G67.sub np45
  have o61 := Ow.new (us := (us1).reverse) G67 np45
  have G68 := G67.step g56
  have dk72 := dk71.step g56
  obtain ⟨F15, G69, ex13, fa20, nf13⟩ := o61.frzE G68
  have fr61 := Rs_mono ex13 fr60
  have dk73 := dk72.frzN o61 ex13 nf13
  have d26 : R (α := PyData) (F15) (.ref p45) (PyData.list ((((rule).2).reverse).map fun z => (PyData.list (z.map fun z => (PyData.int z))))) := (mk_lst ((Sub.refl _) _ _ fa20) (Rs_mono (Sub.refl _) fr61))
  with_reducible refine x_cons ?_
  with_reducible refine x_op ?_
  with_reducible refine x_op ?_
  with_reducible refine x_sl ?_
  refine ⟨_, rfl, ?_⟩
  with_reducible refine x_nopart ?_
  with_reducible refine x_part ?_
  refine ⟨_, rfl, ?_⟩
  refine ⟨_, rfl, ?_⟩
  refine ⟨_, _, rfl, .inl (.inl ((((((((((((((((((((g2.ex.trans ex1).trans g7.ex).trans g8.ex).trans ex2).trans ex3).trans ex4).trans ex5).trans g24.ex).trans ex6).trans ex7).trans g27.ex).trans ex8).trans ex9).trans g36.ex).trans ex10).trans ex11).trans ex12).trans ex13).trans G69.sub) _ _ fa2)), fun p46 np46 => ?_⟩
  have fr62 : Rs (α := (List Int)) (F15) (cutV us1 none (some r1)) (cutT (rule).2 none (some r1)) := Rs_cut (Rs_mono ((((((((((((((((((g2.ex.trans ex1).trans g7.ex).trans g8.ex).trans ex2).trans ex3).trans ex4).trans ex5).trans g24.ex).trans ex6).trans ex7).trans g27.ex).trans ex8).trans ex9).trans g36.ex).trans ex10).trans ex11).trans ex12).trans ex13) fr1)
  have g57 := Gr.newO (o := .lst (cutV us1 none (some r1))) G69.sub np46
  have o62 := Ow.new (us := (cutV us1 none (some r1))) G69 np46
  have G70 := G69.step g57
  have dk74 := dk73.step g57
  with_reducible refine x_sl ?_
  refine ⟨_, rfl, ?_⟩
  with_reducible refine x_part ?_
  refine ⟨_, rfl, ?_⟩
  refine ⟨_, rfl, ?_⟩
  with_reducible refine x_part ?_
  refine useEv (.int (r1 + (1 : Int))) (by exact (Evl.ev_op (Evl.ev_var rfl) Evl.ev_c Evl.rv_I0)) (fun H12 e8 => ?_)
  have g58 := gr_ex G70.sub e8
  have G71 := G70.step g58
  have o63 := o62.step g58
  have dk75 := dk74.step g58
  refine ⟨_, rfl, ?_⟩
  refine ⟨_, _, rfl, .inl (.inl ((((((((((((((((((((g2.ex.trans ex1).trans g7.ex).trans g8.ex).trans ex2).trans ex3).trans ex4).trans ex5).trans g24.ex).trans ex6).trans ex7).trans g27.ex).trans ex8).trans ex9).trans g36.ex).trans ex10).trans ex11).trans ex12).trans ex13).trans G71.sub) _ _ fa2)), fun p47 np47 => ?_⟩
  have fr63 : Rs (α := (List Int)) (F15) (cutV us1 (some r1) (some (r1 + (1 : Int)))) (cutT (rule).2 (some r1) (some (r1 + (1 : Int)))) := Rs_cut (Rs_mono ((((((((((((((((((g2.ex.trans ex1).trans g7.ex).trans g8.ex).trans ex2).trans ex3).trans ex4).trans ex5).trans g24.ex).trans ex6).trans ex7).trans g27.ex).trans ex8).trans ex9).trans g36.ex).trans ex10).trans ex11).trans ex12).trans ex13) fr1)
  have g59 := Gr.newO (o := .lst (cutV us1 (some r1) (some (r1 + (1 : Int))))) G71.sub np47
  have o64 := Ow.new (us := (cutV us1 (some r1) (some (r1 + (1 : Int))))) G71 np47
  have ne13 := o63.ne_new np47
  have G72 := G71.step g59
  have o65 := o63.step g59
  have dk76 := dk75.step g59
  obtain ⟨c17, hm⟩ := guardp hm
  refine ⟨_, _, _, _, rfl, rfl, o65.at_, o64.at_, szle (by rw [Rs_len fr62, Rs_len fr63]; exact c17), fun p48 np48 => ?_⟩
  have fr64 : Rs (α := (List Int)) (F15) ((cutV us1 none (some r1)) ++ (cutV us1 (some r1) (some (r1 + (1 : Int))))) ((cutT (rule).2 none (some r1)) ++ (cutT (rule).2 (some r1) (some (r1 + (1 : Int))))) := Rs_app fr62 fr63
  have g60 := Gr.newO (o := .lst ((cutV us1 none (some r1)) ++ (cutV us1 (some r1) (some (r1 + (1 : Int)))))) G72.sub np48
  have o66 := Ow.new (us := ((cutV us1 none (some r1)) ++ (cutV us1 (some r1) (some (r1 + (1 : Int)))))) G72 np48
  have G73 := G72.step g60
  have dk77 := dk76.step g60
  with_reducible refine x_sl ?_
  refine ⟨_, rfl, ?_⟩
  with_reducible refine x_part ?_
  refine ⟨_, rfl, ?_⟩
  refine ⟨_, rfl, ?_⟩
  with_reducible refine x_nopart ?_
  refine ⟨_, _, rfl, .inl (.inl ((((((((((((((((((((g2.ex.trans ex1).trans g7.ex).trans g8.ex).trans ex2).trans ex3).trans ex4).trans ex5).trans g24.ex).trans ex6).trans ex7).trans g27.ex).trans ex8).trans ex9).trans g36.ex).trans ex10).trans ex11).trans ex12).trans ex13).trans G73.sub) _ _ fa2)), fun p49 np49 => ?_⟩
  have fr65 : Rs (α := (List Int)) (F15) (cutV us1 (some r1) none) (cutT (rule).2 (some r1) none) := Rs_cut (Rs_mono ((((((((((((((((((g2.ex.trans ex1).trans g7.ex).trans g8.ex).trans ex2).trans ex3).trans ex4).trans ex5).trans g24.ex).trans ex6).trans ex7).trans g27.ex).trans ex8).trans ex9).trans g36.ex).trans ex10).trans ex11).trans ex12).trans ex13) fr1)
  have g61 := Gr.newO (o := .lst (cutV us1 (some r1) none)) G73.sub np49
  have o67 := Ow.new (us := (cutV us1 (some r1) none)) G73 np49
  have ne14 := o66.ne_new np49
  have G74 := G73.step g61
  have o68 := o66.step g61
  have dk78 := dk77.step g61
  obtain ⟨c18, hm⟩ := guardp hm
  refine ⟨_, _, _, _, rfl, rfl, o68.at_, o67.at_, szle (by rw [Rs_len fr64, Rs_len fr65]; exact c18), fun p50 np50 => ?_⟩
  have fr66 : Rs (α := (List Int)) (F15) (((cutV us1 none (some r1)) ++ (cutV us1 (some r1) (some (r1 + (1 : Int))))) ++ (cutV us1 (some r1) none)) (((cutT (rule).2 none (some r1)) ++ (cutT (rule).2 (some r1) (some (r1 + (1 : Int))))) ++ (cutT (rule).2 (some r1) none)) := Rs_app fr64 fr65
  have g62 := Gr.newO (o := .lst (((cutV us1 none (some r1)) ++ (cutV us1 (some r1) (some (r1 + (1 : Int))))) ++ (cutV us1 (some r1) none))) G74.sub np50
  have o69 := Ow.new (us := (((cutV us1 none (some r1)) ++ (cutV us1 (some r1) (some (r1 + (1 : Int))))) ++ (cutV us1 (some r1) none))) G74 np50
  have G75 := G74.step g62
  have dk79 := dk78.step g62
  obtain ⟨F16, G76, ex14, fa21, nf14⟩ := o69.frzE G75
  have fr67 := Rs_mono ex14 fr66
  have dk80 := dk79.frzN o69 ex14 nf14
  have d27 : R (α := PyData) (F16) (.ref p50) (PyData.list ((((cutT (rule).2 none (some r1)) ++ (cutT (rule).2 (some r1) (some (r1 + (1 : Int))))) ++ (cutT (rule).2 (some r1) none)).map fun z => (PyData.list (z.map fun z => (PyData.int z))))) := (mk_lst ((Sub.refl _) _ _ fa21) (Rs_mono (Sub.refl _) fr67))
  refine ⟨szle (show 7 ≤ 16777216 from by decide), fun p51 np51 => ?_⟩
  have fr68 : Rs (α := PyData) (F16) [(.ref p33), (.ref p33), (.ref p33), (.ref p44), (.ref p39), (.ref p45), (.ref p50)] ([(PyData.list x4), (PyData.list x4), (PyData.list x4), (PyData.list ((((cutT (rule).2 none (some r1)).map fun z => (PyData.list (z.map fun z => (PyData.int z)))) ++ ([x3] : (List PyData))) ++ ((cutT (rule).2 (some r1) none).map fun z => (PyData.list (z.map fun z => (PyData.int z)))))), (PyData.list ((((cutT (rule).2 none (some r1)) ++ (((cutT (rule).2 (some r1) (some (r1 + (2 : Int))))).reverse)) ++ (cutT (rule).2 (some (r1 + (2 : Int))) none)).map fun z => (PyData.list (z.map fun z => (PyData.int z))))), (PyData.list ((((rule).2).reverse).map fun z => (PyData.list (z.map fun z => (PyData.int z))))), (PyData.list ((((cutT (rule).2 none (some r1)) ++ (cutT (rule).2 (some r1) (some (r1 + (1 : Int))))) ++ (cutT (rule).2 (some r1) none)).map fun z => (PyData.list (z.map fun z => (PyData.int z)))))] : (List PyData)) := (Rs_cons (RD.mono ((ex12.trans ex13).trans ex14) d21) (Rs_cons (RD.mono ((ex12.trans ex13).trans ex14) d22) (Rs_cons (RD.mono ((ex12.trans ex13).trans ex14) d23) (Rs_cons (RD.mono (ex13.trans ex14) d24) (Rs_cons (RD.mono (ex13.trans ex14) d25) (Rs_cons (RD.mono ex14 d26) (Rs_cons (RD.mono (Sub.refl _) d27) Rs_nil)))))))
  have g63 := Gr.newO (o := .lst [(.ref p33), (.ref p33), (.ref p33), (.ref p44), (.ref p39), (.ref p45), (.ref p50)]) G76.sub np51
  have o70 := Ow.new (us := [(.ref p33), (.ref p33), (.ref p33), (.ref p44), (.ref p39), (.ref p45), (.ref p50)]) G76 np51
  have G77 := G76.step g63
  have dk81 := dk80.step g63
  obtain ⟨F17, G78, ex15, fa22, nf15⟩ := o70.frzE G77
  have fr69 := Rs_mono ex15 fr68
  have dk82 := dk81.frzN o70 ex15 nf15
  obtain ⟨x5, hx5, hm⟩ := bindp hm
  replace hx5 := Option.some.inj hx5
  have fr70 : Rs (α := PyData) (F17) [(.ref p33), (.ref p33), (.ref p33), (.ref p44), (.ref p39), (.ref p45), (.ref p50)] x5 := by rw [← hx5]; exact (Rs_mono (Sub.refl _) fr69)
  have fa23 := (Sub.refl _) _ _ fa22
  clear hx5
  with_reducible refine x_gnE (σ' := ([some (.ref dk), some (.ref a1), some (.int (rule).1), some (.ref a2), some (.int r1), some (.ref a3), some (.int r2), some v6, some v8, some (.ref p33), some (.ref p39), some (.ref p51), none, none] : L2.St)) (by with_unfolding_all rfl) ?_
  with_reducible refine x_seq ?_
  with_reducible refine x_asg ?_
  with_reducible refine x_op ?_
  refine ⟨_, rfl, ?_⟩
  with_reducible refine x_lst ?_
  with_reducible refine x_cons ?_
  with_reducible refine x_op ?_
  with_reducible refine x_sl ?_
  refine ⟨_, rfl, ?_⟩
  with_reducible refine x_nopart ?_
  with_reducible refine x_part ?_
  refine ⟨_, rfl, ?_⟩
  refine ⟨_, rfl, ?_⟩
  refine ⟨_, _, rfl, .inl (.inl ((((((((((((((((((((((g2.ex.trans ex1).trans g7.ex).trans g8.ex).trans ex2).trans ex3).trans ex4).trans ex5).trans g24.ex).trans ex6).trans ex7).trans g27.ex).trans ex8).trans ex9).trans g36.ex).trans ex10).trans ex11).trans ex12).trans ex13).trans ex14).trans ex15).trans G78.sub) _ _ fa2)), fun p52 np52 => ?_⟩
  have fr71 : Rs (α := (List Int)) (F17) (cutV us1 none (some r1)) (cutT (rule).2 none (some r1)) := Rs_cut (Rs_mono ((((((((((((((((((((g2.ex.trans ex1).trans g7.ex).trans g8.ex).trans ex2).trans ex3).trans ex4).trans ex5).trans g24.ex).trans ex6).trans ex7).trans g27.ex).trans ex8).trans ex9).trans g36.ex).trans ex10).trans ex11).trans ex12).trans ex13).trans ex14).trans ex15) fr1)
  have g64 := Gr.newO (o := .lst (cutV us1 none (some r1))) G78.sub np52
  have o71 := Ow.new (us := (cutV us1 none (some r1))) G78 np52
  have G79 := G78.step g64
  have dk83 := dk82.step g64
  with_reducible refine x_sl ?_
  refine ⟨_, rfl, ?_⟩
  with_reducible refine x_part ?_
  refine useEv (.int (r1 + (1 : Int))) (by exact (Evl.ev_op (Evl.ev_var rfl) Evl.ev_c Evl.rv_I0)) (fun H13 e9 => ?_)
  have g65 := gr_ex G79.sub e9
  have G80 := G79.step g65
  have o72 := o71.step g65
  have dk84 := dk83.step g65
  refine ⟨_, rfl, ?_⟩
  with_reducible refine x_nopart ?_
  refine ⟨_, _, rfl, .inl (.inl ((((((((((((((((((((((g2.ex.trans ex1).trans g7.ex).trans g8.ex).trans ex2).trans ex3).trans ex4).trans ex5).trans g24.ex).trans ex6).trans ex7).trans g27.ex).trans ex8).trans ex9).trans g36.ex).trans ex10).trans ex11).trans ex12).trans ex13).trans ex14).trans ex15).trans G80.sub) _ _ fa2)), fun p53 np53 => ?_⟩
  have fr72 : Rs (α := (List Int)) (F17) (cutV us1 (some (r1 + (1 : Int))) none) (cutT (rule).2 (some (r1 + (1 : Int))) none) := Rs_cut (Rs_mono ((((((((((((((((((((g2.ex.trans ex1).trans g7.ex).trans g8.ex).trans ex2).trans ex3).trans ex4).trans ex5).trans g24.ex).trans ex6).trans ex7).trans g27.ex).trans ex8).trans ex9).trans g36.ex).trans ex10).trans ex11).trans ex12).trans ex13).trans ex14).trans ex15) fr1)
  have g66 := Gr.newO (o := .lst (cutV us1 (some (r1 + (1 : Int))) none)) G80.sub np53
  have o73 := Ow.new (us := (cutV us1 (some (r1 + (1 : Int))) none)) G80 np53
  have ne15 := o72.ne_new np53
  have G81 := G80.step g66
  have o74 := o72.step g66
  have dk85 := dk84.step g66
  obtain ⟨c19, hm⟩ := guardp hm
  refine ⟨_, _, _, _, rfl, rfl, o74.at_, o73.at_, szle (by rw [Rs_len fr71, Rs_len fr72]; exact c19), fun p54 np54 => ?_⟩
  have fr73 : Rs (α := (List Int)) (F17) ((cutV us1 none (some r1)) ++ (cutV us1 (some (r1 + (1 : Int))) none)) ((cutT (rule).2 none (some r1)) ++ (cutT (rule).2 (some (r1 + (1 : Int))) none)) := Rs_app fr71 fr72
  have g67 := Gr.newO (o := .lst ((cutV us1 none (some r1)) ++ (cutV us1 (some (r1 + (1 : Int))) none))) G81.sub np54
  have o75 := Ow.new (us := ((cutV us1 none (some r1)) ++ (cutV us1 (some (r1 + (1 : Int))) none))) G81 np54
  have G82 := G81.step g67
  have dk86 := dk85.step g67
  obtain ⟨F18, G83, ex16, fa24, nf16⟩ := o75.frzE G82
  have fr74 := Rs_mono ex16 fr73
  have dk87 := dk86.frzN o75 ex16 nf16
  have d28 : R (α := PyData) (F18) (.ref p54) (PyData.list (((cutT (rule).2 none (some r1)) ++ (cutT (rule).2 (some (r1 + (1 : Int))) none)).map fun z => (PyData.list (z.map fun z => (PyData.int z))))) := (mk_lst ((Sub.refl _) _ _ fa24) (Rs_mono (Sub.refl _) fr74))
  with_reducible refine x_cons ?_
  with_reducible refine x_cb ?_
  with_reducible refine x_cons ?_
  refine ⟨_, rfl, ?_⟩
  have fr75 := (Rs_mono (((((((((((((((((((((g2.ex.trans ex1).trans g7.ex).trans g8.ex).trans ex2).trans ex3).trans ex4).trans ex5).trans g24.ex).trans ex6).trans ex7).trans g27.ex).trans ex8).trans ex9).trans g36.ex).trans ex10).trans ex11).trans ex12).trans ex13).trans ex14).trans ex15).trans ex16) fr1)
  refine ⟨_, _, rfl, .inl ⟨.inl (.inl (((((((((((((((((((((((g2.ex.trans ex1).trans g7.ex).trans g8.ex).trans ex2).trans ex3).trans ex4).trans ex5).trans g24.ex).trans ex6).trans ex7).trans g27.ex).trans ex8).trans ex9).trans g36.ex).trans ex10).trans ex11).trans ex12).trans ex13).trans ex14).trans ex15).trans ex16).trans G83.sub) _ _ fa2)), fun p55 np55 => ?_⟩⟩
  obtain ⟨F19, g68, fa25⟩ := Gr.newE (o := .tup us1) G83.sub np55
  have G84 := G83.step g68
  have dk88 := dk87.step g68
  have d29 : R (α := PyData) (F19) (.ref p55) (PyData.tuple ((rule).2.map fun z => (PyData.list (z.map fun z => (PyData.int z))))) := .tup fa25 (Rs_mono g68.ex fr75)
  with_reducible refine x_cons ?_
  with_reducible refine x_c ?_
  have d30 : R (α := PyData) (F19) .non PyData.none := .non
  with_reducible refine x_cons ?_
  refine fun p56 np56 => ?_
  obtain ⟨F20, g69, fa26⟩ := Gr.newE (o := .dK []) G84.sub np56
  have G85 := G84.step g69
  have dk89 := dk88.step g69
  have d31 : R (α := PyData) (F20) (.ref p56) (PyData.dict []) := .dic fa26 .nil
  with_reducible refine x_cons ?_
  with_reducible refine x_c ?_
  have d32 : R (α := PyData) (F20) (.str ("" : Str)) (PyData.str ("" : Str)) := (.str _)
  with_reducible refine x_cons ?_
  with_reducible refine x_c ?_
  have d33 : R (α := PyData) (F20) (.int 0) (PyData.int (0 : Int)) := (.int _)
  with_reducible refine x_cons ?_
  with_reducible refine x_lc ?_
  with_reducible refine x_rng1 ?_
  with_reducible refine x_cons ?_
  with_reducible refine x_c ?_
  refine ⟨_, rfl, (show Rg1 (5 : Int) from by decide).lo, (show Rg1 (5 : Int) from by decide).hi, fun p57 np57 => ?_⟩
  have g70 := Gr.newO (o := .lst []) G85.sub np57
  have o76 := Ow.new (us := []) G85 np57
  have G86 := G85.step g70
  have dk90 := dk89.step g70
  refine lc_rng (lo := 0) (hi := (5 : Int)) (by rw [Int.sub_zero]) (fun (ts1 : List Int) H14 => ∃ (F21 : Hp) (st5 : DkS) (x7 : List (List Int)) (us4 : List V), forK (_law_no_rule_c1) ts1 (x7, st5) (_law_no_rule_k2 x5 rule r1) = some (r, stR) ∧ Sub (F20) F21 ∧ Gr A F0 H F21 H14 ∧ Ow H F21 H14 p57 us4 ∧ Rs F21 us4 x7 ∧ DkAt A H F21 H14 dk st5) ⟨F20, _, ([] : List (List Int)), _, hm, (Sub.refl _), G86, o76, Rs_nil, dk90⟩ (fun t1 ts2 H1 hW => ?_) (fun H1 hW => ?_)
  · skip
    obtain ⟨F21, st5, x7, us4, hm, s1, G87, o77, fr76, dk91⟩ := hW
    obtain ⟨next1, hnx1⟩ : ∃ nx, nx = fun s => forK (_law_no_rule_c1) ts2 s (_law_no_rule_k2 x5 rule r1) := ⟨_, rfl⟩
    have hm : (_law_no_rule_c1) (x7, st5) t1 next1 = some (r, stR) := by rw [hnx1]; exact forK_c hm
    rw [_law_no_rule_c1] at hm
    with_reducible refine x_gnE (σ' := ([some (.ref dk), some (.ref a1), some (.int (rule).1), some (.ref a2), some (.int r1), some (.ref a3), some (.int r2), some v6, some v8, some (.ref p33), some (.ref p39), some (.ref p51), none, some (.int t1)] : L2.St)) (by with_unfolding_all rfl) ?_
    refine ⟨rfl, ?_⟩
    with_reducible refine x_yes ?_
    refine iteT ?_
    with_reducible refine x_lst ?_
    with_reducible refine x_cons ?_
    refine ⟨_, rfl, ?_⟩
    refine ⟨szle (show 1 ≤ 16777216 from by decide), fun p58 np58 => ?_⟩
    have fr77 : Rs (α := Int) (F21) [(.int t1)] ([t1] : (List Int)) := (Rs_cons (.int _) Rs_nil)
    have g71 := Gr.newO (o := .lst [(.int t1)]) G87.sub np58
    have o78 := Ow.new (us := [(.int t1)]) G87 np58
    have ne16 := o77.ne_new np58
    have G88 := G87.step g71
    have o79 := o77.step g71
    have dk92 := dk91.step g71
    obtain ⟨F22, G89, ex17, fa27, nf17⟩ := o78.frzE G88
    have o80 := o79.frzN (Ne.symm (Ne.symm ne16)) nf17
    have fr78 := Rs_mono ex17 fr77
    have dk93 := dk92.frzN o78 ex17 nf17
    obtain ⟨c20, hm⟩ := guardp hm
    have G90 := o80.mutG (o := .lst (us4 ++ [(.ref p58)])) G89
    have o81 := o80.mut (ws := us4 ++ [(.ref p58)])
    have fr79 : Rs (α := (List Int)) (F22) (us4 ++ [(.ref p58)]) (x7 ++ [([t1] : (List Int))]) := Rs_snoc (Rs_mono ex17 fr76) (mk_lst ((Sub.refl _) _ _ fa27) (Rs_mono (Sub.refl _) fr78))
    have dk94 := dk93.mut (ws := us4 ++ [(.ref p58)]) o80
    rw [hnx1] at hm
    exact ⟨_, o80.at_, szl (by rw [Rs_len (Rs_mono ex17 fr76)]; exact c20), ⟨F22, _, (x7 ++ [([t1] : (List Int))]), _, hm, (s1.trans ex17), G90, o81, fr79, dk94⟩⟩
  · skip
    obtain ⟨F21, st5, x7, us4, hm, s2, G91, o82, fr80, dk95⟩ := hW
    have hm : (_law_no_rule_k2 x5 rule r1) (x7, st5) = some (r, stR) := forK_n hm
    rw [_law_no_rule_k2] at hm
    obtain ⟨F23, G92, ex18, fa28, nf18⟩ := o82.frzE G91
    have fr81 := Rs_mono ex18 fr80
    have dk96 := dk95.frzN o82 ex18 nf18
    have d34 : R (α := PyData) (F23) (.ref p57) (PyData.list (x7.map fun z => (PyData.list (z.map fun z => (PyData.int z))))) := (mk_lst ((Sub.refl _) _ _ fa28) (Rs_mono (Sub.refl _) fr81))
    with_reducible refine x_cons ?_
    with_reducible refine x_lst ?_
    with_reducible refine x_cons ?_
    refine ⟨_, rfl, ?_⟩
    refine ⟨szle (show 1 ≤ 16777216 from by decide), fun p59 np59 => ?_⟩
    have fr82 : Rs (α := (List (List Int))) (F23) [(.ref a2)] ([(rule).2] : (List (List (List Int)))) := (Rs_cons (mk_lst ((((((((((((((((((((((((((g2.ex.trans ex1).trans g7.ex).trans g8.ex).trans ex2).trans ex3).trans ex4).trans ex5).trans g24.ex).trans ex6).trans ex7).trans g27.ex).trans ex8).trans ex9).trans g36.ex).trans ex10).trans ex11).trans ex12).trans ex13).trans ex14).trans ex15).trans ex16).trans g68.ex).trans g69.ex).trans s2).trans ex18) _ _ fa2) (Rs_mono (((((((((((((((((((((((((g2.ex.trans ex1).trans g7.ex).trans g8.ex).trans ex2).trans ex3).trans ex4).trans ex5).trans g24.ex).trans ex6).trans ex7).trans g27.ex).trans ex8).trans ex9).trans g36.ex).trans ex10).trans ex11).trans ex12).trans ex13).trans ex14).trans ex15).trans ex16).trans g68.ex).trans g69.ex).trans s2).trans ex18) fr1)) Rs_nil)
    have g72 := Gr.newO (o := .lst [(.ref a2)]) G92.sub np59
    have o83 := Ow.new (us := [(.ref a2)]) G92 np59
    have G93 := G92.step g72
    have dk97 := dk96.step g72
    obtain ⟨F24, G94, ex19, fa29, nf19⟩ := o83.frzE G93
    have fr83 := Rs_mono ex19 fr82
    have dk98 := dk97.frzN o83 ex19 nf19
    have d35 : R (α := PyData) (F24) (.ref p59) (PyData.list (([(rule).2] : (List (List (List Int)))).map fun z => (PyData.list (z.map fun z => (PyData.list (z.map fun z => (PyData.int z))))))) := (mk_lst ((Sub.refl _) _ _ fa29) (Rs_mono (Sub.refl _) fr83))
    with_reducible refine x_cons ?_
    with_reducible refine x_tup ?_
    with_reducible refine x_cons ?_
    refine ⟨_, rfl, ?_⟩
    with_reducible refine x_cons ?_
    refine ⟨_, rfl, ?_⟩
    refine ⟨szle (show 2 ≤ 16777216 from by decide), fun p60 np60 => ?_⟩
    obtain ⟨F25, g73, fa30⟩ := Gr.newE (o := .tup [(.ref a2), (.ref a2)]) G94.sub np60
    have G95 := G94.step g73
    have dk99 := dk98.step g73
    have d36 : R (α := PyData) (F25) (.ref p60) (PyData.tuple [(PyData.list ((rule).2.map fun z => (PyData.list (z.map fun z => (PyData.int z))))), (PyData.list ((rule).2.map fun z => (PyData.list (z.map fun z => (PyData.int z)))))]) := (.tup ((Sub.refl _) _ _ fa30) (.cons (mk_lst ((((((((((((((((((((((((((((g2.ex.trans ex1).trans g7.ex).trans g8.ex).trans ex2).trans ex3).trans ex4).trans ex5).trans g24.ex).trans ex6).trans ex7).trans g27.ex).trans ex8).trans ex9).trans g36.ex).trans ex10).trans ex11).trans ex12).trans ex13).trans ex14).trans ex15).trans ex16).trans g68.ex).trans g69.ex).trans s2).trans ex18).trans ex19).trans g73.ex) _ _ fa2) (Rs_mono (((((((((((((((((((((((((((g2.ex.trans ex1).trans g7.ex).trans g8.ex).trans ex2).trans ex3).trans ex4).trans ex5).trans g24.ex).trans ex6).trans ex7).trans g27.ex).trans ex8).trans ex9).trans g36.ex).trans ex10).trans ex11).trans ex12).trans ex13).trans ex14).trans ex15).trans ex16).trans g68.ex).trans g69.ex).trans s2).trans ex18).trans ex19).trans g73.ex) fr1)) (.cons (mk_lst ((((((((((((((((((((((((((((g2.ex.trans ex1).trans g7.ex).trans g8.ex).trans ex2).trans ex3).trans ex4).trans ex5).trans g24.ex).trans ex6).trans ex7).trans g27.ex).trans ex8).trans ex9).trans g36.ex).trans ex10).trans ex11).trans ex12).trans ex13).trans ex14).trans ex15).trans ex16).trans g68.ex).trans g69.ex).trans s2).trans ex18).trans ex19).trans g73.ex) _ _ fa2) (Rs_mono (((((((((((((((((((((((((((g2.ex.trans ex1).trans g7.ex).trans g8.ex).trans ex2).trans ex3).trans ex4).trans ex5).trans g24.ex).trans ex6).trans ex7).trans g27.ex).trans ex8).trans ex9).trans g36.ex).trans ex10).trans ex11).trans ex12).trans ex13).trans ex14).trans ex15).trans ex16).trans g68.ex).trans g69.ex).trans s2).trans ex18).trans ex19).trans g73.ex) fr1)) .nil)))
    refine ⟨szle (show 9 ≤ 16777216 from by decide), fun p61 np61 => ?_⟩
    have fr84 : Rs (α := PyData) (F25) [(.ref p54), (.ref p55), .non, (.ref p56), (.str ("" : Str)), (.int 0), (.ref p57), (.ref p59), (.ref p60)] ([(PyData.list (((cutT (rule).2 none (some r1)) ++ (cutT (rule).2 (some (r1 + (1 : Int))) none)).map fun z => (PyData.list (z.map fun z => (PyData.int z))))), (PyData.tuple ((rule).2.map fun z => (PyData.list (z.map fun z => (PyData.int z))))), PyData.none, (PyData.dict []), (PyData.str ("" : Str)), (PyData.int (0 : Int)), (PyData.list (x7.map fun z => (PyData.list (z.map fun z => (PyData.int z))))), (PyData.list (([(rule).2] : (List (List (List Int)))).map fun z => (PyData.list (z.map fun z => (PyData.list (z.map fun z => (PyData.int z))))))), (PyData.tuple [(PyData.list ((rule).2.map fun z => (PyData.list (z.map fun z => (PyData.int z))))), (PyData.list ((rule).2.map fun z => (PyData.list (z.map fun z => (PyData.int z)))))])] : (List PyData)) := (Rs_cons (RD.mono (((((g68.ex.trans g69.ex).trans s2).trans ex18).trans ex19).trans g73.ex) d28) (Rs_cons (RD.mono ((((g69.ex.trans s2).trans ex18).trans ex19).trans g73.ex) d29) (Rs_cons (RD.mono ((((g69.ex.trans s2).trans ex18).trans ex19).trans g73.ex) d30) (Rs_cons (RD.mono (((s2.trans ex18).trans ex19).trans g73.ex) d31) (Rs_cons (RD.mono (((s2.trans ex18).trans ex19).trans g73.ex) d32) (Rs_cons (RD.mono (((s2.trans ex18).trans ex19).trans g73.ex) d33) (Rs_cons (RD.mono (ex19.trans g73.ex) d34) (Rs_cons (RD.mono g73.ex d35) (Rs_cons (RD.mono (Sub.refl _) d36) Rs_nil)))))))))
    have g74 := Gr.newO (o := .lst [(.ref p54), (.ref p55), .non, (.ref p56), (.str ("" : Str)), (.int 0), (.ref p57), (.ref p59), (.ref p60)]) G95.sub np61
    have o84 := Ow.new (us := [(.ref p54), (.ref p55), .non, (.ref p56), (.str ("" : Str)), (.int 0), (.ref p57), (.ref p59), (.ref p60)]) G95 np61
    have G96 := G95.step g74
    have dk100 := dk99.step g74
    obtain ⟨c21, hm⟩ := guardp hm
    refine ⟨_, _, _, _, rfl, rfl, ((((((((ex16.trans g68.ex).trans g69.ex).trans s2).trans ex18).trans ex19).trans g73.ex).trans G96.sub) _ _ fa23), o84.at_, szle (by rw [Rs_len (Rs_mono ((((((ex16.trans g68.ex).trans g69.ex).trans s2).trans ex18).trans ex19).trans g73.ex) fr70), Rs_len fr84]; exact c21), fun p62 np62 => ?_⟩
    have fr85 : Rs (α := PyData) (F25) ([(.ref p33), (.ref p33), (.ref p33), (.ref p44), (.ref p39), (.ref p45), (.ref p50)] ++ [(.ref p54), (.ref p55), .non, (.ref p56), (.str ("" : Str)), (.int 0), (.ref p57), (.ref p59), (.ref p60)]) (x5 ++ ([(PyData.list (((cutT (rule).2 none (some r1)) ++ (cutT (rule).2 (some (r1 + (1 : Int))) none)).map fun z => (PyData.list (z.map fun z => (PyData.int z))))), (PyData.tuple ((rule).2.map fun z => (PyData.list (z.map fun z => (PyData.int z))))), PyData.none, (PyData.dict []), (PyData.str ("" : Str)), (PyData.int (0 : Int)), (PyData.list (x7.map fun z => (PyData.list (z.map fun z => (PyData.int z))))), (PyData.list (([(rule).2] : (List (List (List Int)))).map fun z => (PyData.list (z.map fun z => (PyData.list (z.map fun z => (PyData.int z))))))), (PyData.tuple [(PyData.list ((rule).2.map fun z => (PyData.list (z.map fun z => (PyData.int z))))), (PyData.list ((rule).2.map fun z => (PyData.list (z.map fun z => (PyData.int z)))))])] : (List PyData))) := Rs_app (Rs_mono ((((((ex16.trans g68.ex).trans g69.ex).trans s2).trans ex18).trans ex19).trans g73.ex) fr70) fr84
    have g75 := Gr.newO (o := .lst ([(.ref p33), (.ref p33), (.ref p33), (.ref p44), (.ref p39), (.ref p45), (.ref p50)] ++ [(.ref p54), (.ref p55), .non, (.ref p56), (.str ("" : Str)), (.int 0), (.ref p57), (.ref p59), (.ref p60)])) G96.sub np62
    have o85 := Ow.new (us := ([(.ref p33), (.ref p33), (.ref p33), (.ref p44), (.ref p39), (.ref p45), (.ref p50)] ++ [(.ref p54), (.ref p55), .non, (.ref p56), (.str ("" : Str)), (.int 0), (.ref p57), (.ref p59), (.ref p60)])) G96 np62
    have G97 := G96.step g75
    have dk101 := dk100.step g75
    obtain ⟨F26, G98, ex20, fa31, nf20⟩ := o85.frzE G97
    have fr86 := Rs_mono ex20 fr85
    have dk102 := dk101.frzN o85 ex20 nf20
    obtain ⟨x8, hx6, hm⟩ := bindp hm
    replace hx6 := Option.some.inj hx6
    have fr87 : Rs (α := PyData) (F26) ([(.ref p33), (.ref p33), (.ref p33), (.ref p44), (.ref p39), (.ref p45), (.ref p50)] ++ [(.ref p54), (.ref p55), .non, (.ref p56), (.str ("" : Str)), (.int 0), (.ref p57), (.ref p59), (.ref p60)]) x8 := by rw [← hx6]; exact (Rs_mono (Sub.refl _) fr86)
    have fa32 := (Sub.refl _) _ _ fa31
    clear hx6
    with_reducible refine x_gnE (σ' := ([some (.ref dk), some (.ref a1), some (.int (rule).1), some (.ref a2), some (.int r1), some (.ref a3), some (.int r2), some v6, some v8, some (.ref p33), some (.ref p39), some (.ref p62), none, none] : L2.St)) (by with_unfolding_all rfl) ?_
    with_reducible refine x_seq ?_
    with_reducible refine x_asg ?_
    with_reducible refine x_op ?_
    with_reducible refine x_op ?_
    with_reducible refine x_lst ?_
    with_reducible refine x_cons ?_
    with_reducible refine x_tup ?_
    with_reducible refine x_cons ?_
    refine ⟨_, rfl, ?_⟩
    with_reducible refine x_cons ?_
    with_reducible refine x_op ?_
    refine ⟨_, rfl, ?_⟩
    with_reducible refine x_call ?_
    with_reducible refine x_cons ?_
    refine ⟨_, rfl, ?_⟩
    with_reducible refine x_cons ?_
    with_reducible refine x_c ?_
    obtain ⟨⟨r5, st6⟩, hr5, hm⟩ := bindp hm
    refine ⟨_, _, _, _, _, (16 : Int), r5, st6, rfl, G98.sub, dk102.at_, dk102.nf, (.int _), hr5, fun N5 H15 v10 g76 dk103 d37 => ?_⟩
    have G99 := G98.trans g76
    have dk104 := dk102.stepA g76 dk103
    obtain rfl := int_of d37
    obtain ⟨x9, hx7, hm⟩ := bindp hm
    obtain ⟨v11, hu3, d38⟩ := Rs_at (Rs_mono g76.ex fr87) hx7
    refine ⟨_, _, _, _, rfl, rfl, .inl (.inl ((g76.ex.trans G99.sub) _ _ fa32)), hu3, ?_⟩
    refine ⟨szle (show 2 ≤ 16777216 from by decide), fun p63 np63 => ?_⟩
    obtain ⟨F27, g77, fa33⟩ := Gr.newE (o := .tup [(.int (rule).1), v11]) G99.sub np63
    have G100 := G99.step g77
    have dk105 := dk104.step g77
    refine ⟨szle (show 1 ≤ 16777216 from by decide), fun p64 np64 => ?_⟩
    have fr88 : Rs (α := (Int × PyData)) (F27) [(.ref p63)] ([((rule).1, x9)] : (List (Int × PyData))) := (Rs_cons (mk_tup2 ((Sub.refl _) _ _ fa33) (.int _) (RD.mono g77.ex d38)) Rs_nil)
    have g78 := Gr.newO (o := .lst [(.ref p63)]) G100.sub np64
    have o86 := Ow.new (us := [(.ref p63)]) G100 np64
    have G101 := G100.step g78
    have dk106 := dk105.step g78
    with_reducible refine x_c ?_
    obtain ⟨c22, hm⟩ := guardp hm
    refine ⟨_, _, _, rfl, rfl, o86.at_, c22.lo, c22.hi, szle (by rw [Rs_len fr88]; exact c22.sz), fun p65 np65 => ?_⟩
    have fr89 : Rs (α := (Int × PyData)) (F27) (List.replicate (6 : Int).toNat [(.ref p63)]).flatten (List.replicate (6 : Int).toNat ([((rule).1, x9)] : (List (Int × PyData)))).flatten := Rs_rep fr88
    have g79 := Gr.newO (o := .lst (List.replicate (6 : Int).toNat [(.ref p63)]).flatten) G101.sub np65
    have o87 := Ow.new (us := (List.replicate (6 : Int).toNat [(.ref p63)]).flatten) G101 np65
    have G102 := G101.step g79
    have dk107 := dk106.step g79
    with_reducible refine x_lst ?_
    with_reducible refine x_cons ?_
    with_reducible refine x_tup ?_
    with_reducible refine x_cons ?_
    with_reducible refine x_call ?_
    with_reducible refine x_cons ?_
    refine ⟨_, rfl, ?_⟩
    obtain ⟨⟨r6, st7⟩, hr6, hm⟩ := bindp hm
    refine ⟨_, _, _, _, r6, st7, rfl, G102.sub, dk107.at_, dk107.nf, hr6, fun N6 H16 v12 g80 dk108 d39 => ?_⟩
    have G103 := G102.trans g80
    have o88 := o87.stepA g80 (dk107.out o87)
    have dk109 := dk107.stepA g80 dk108
    with_reducible refine x_cons ?_
    refine ⟨_, rfl, ?_⟩
    refine ⟨szle (show 2 ≤ 16777216 from by decide), fun p66 np66 => ?_⟩
    obtain ⟨F28, g81, fa34⟩ := Gr.newE (o := .tup [v12, (.ref a2)]) G103.sub np66
    have G104 := G103.step g81
    have o89 := o88.step g81
    have dk110 := dk109.step g81
    have d40 : R (α := PyData) (F28) (.ref p66) (PyData.tuple [r6, (PyData.list ((rule).2.map fun z => (PyData.list (z.map fun z => (PyData.int z)))))]) := (.tup ((Sub.refl _) _ _ fa34) (.cons (RD.mono g81.ex d39) (.cons (mk_lst (((((((((((((((((((((((((((((((((g2.ex.trans ex1).trans g7.ex).trans g8.ex).trans ex2).trans ex3).trans ex4).trans ex5).trans g24.ex).trans ex6).trans ex7).trans g27.ex).trans ex8).trans ex9).trans g36.ex).trans ex10).trans ex11).trans ex12).trans ex13).trans ex14).trans ex15).trans ex16).trans g68.ex).trans g69.ex).trans s2).trans ex18).trans ex19).trans g73.ex).trans ex20).trans g76.ex).trans g77.ex).trans g80.ex).trans g81.ex) _ _ fa2) (Rs_mono ((((((((((((((((((((((((((((((((g2.ex.trans ex1).trans g7.ex).trans g8.ex).trans ex2).trans ex3).trans ex4).trans ex5).trans g24.ex).trans ex6).trans ex7).trans g27.ex).trans ex8).trans ex9).trans g36.ex).trans ex10).trans ex11).trans ex12).trans ex13).trans ex14).trans ex15).trans ex16).trans g68.ex).trans g69.ex).trans s2).trans ex18).trans ex19).trans g73.ex).trans ex20).trans g76.ex).trans g77.ex).trans g80.ex).trans g81.ex) fr1)) .nil)))
    with_reducible refine x_cons ?_
    with_reducible refine x_tup ?_
    with_reducible refine x_cons ?_
    with_reducible refine x_c ?_
    with_reducible refine x_cons ?_
    refine ⟨_, rfl, ?_⟩
    refine ⟨szle (show 2 ≤ 16777216 from by decide), fun p67 np67 => ?_⟩
    obtain ⟨F29, g82, fa35⟩ := Gr.newE (o := .tup [(.int 2), (.ref a2)]) G104.sub np67
    have G105 := G104.step g82
    have o90 := o89.step g82
    have dk111 := dk110.step g82
    have d41 : R (α := PyData) (F29) (.ref p67) (PyData.tuple [(PyData.int (2 : Int)), (PyData.list ((rule).2.map fun z => (PyData.list (z.map fun z => (PyData.int z)))))]) := (.tup ((Sub.refl _) _ _ fa35) (.cons (.int _) (.cons (mk_lst ((((((((((((((((((((((((((((((((((g2.ex.trans ex1).trans g7.ex).trans g8.ex).trans ex2).trans ex3).trans ex4).trans ex5).trans g24.ex).trans ex6).trans ex7).trans g27.ex).trans ex8).trans ex9).trans g36.ex).trans ex10).trans ex11).trans ex12).trans ex13).trans ex14).trans ex15).trans ex16).trans g68.ex).trans g69.ex).trans s2).trans ex18).trans ex19).trans g73.ex).trans ex20).trans g76.ex).trans g77.ex).trans g80.ex).trans g81.ex).trans g82.ex) _ _ fa2) (Rs_mono (((((((((((((((((((((((((((((((((g2.ex.trans ex1).trans g7.ex).trans g8.ex).trans ex2).trans ex3).trans ex4).trans ex5).trans g24.ex).trans ex6).trans ex7).trans g27.ex).trans ex8).trans ex9).trans g36.ex).trans ex10).trans ex11).trans ex12).trans ex13).trans ex14).trans ex15).trans ex16).trans g68.ex).trans g69.ex).trans s2).trans ex18).trans ex19).trans g73.ex).trans ex20).trans g76.ex).trans g77.ex).trans g80.ex).trans g81.ex).trans g82.ex) fr1)) .nil)))
    with_reducible refine x_cons ?_
    with_reducible refine x_tup ?_
    with_reducible refine x_cons ?_
    refine useEv (.int ((rule).1 - (1 : Int))) (by exact (Evl.ev_op (Evl.ev_var rfl) Evl.ev_c Evl.rv_I0)) (fun H17 e10 => ?_)
    have g83 := gr_ex G105.sub e10
    have G106 := G105.step g83
    have o91 := o90.step g83
    have dk112 := dk111.step g83
    with_reducible refine x_cons ?_
    refine ⟨_, rfl, ?_⟩
    refine ⟨szle (show 2 ≤ 16777216 from by decide), fun p68 np68 => ?_⟩
    obtain ⟨F30, g84, fa36⟩ := Gr.newE (o := .tup [(.int ((rule).1 - (1 : Int))), (.ref a2)]) G106.sub np68
    have G107 := G106.step g84
    have o92 := o91.step g84
    have dk113 := dk112.step g84
    have d42 : R (α := PyData) (F30) (.ref p68) (PyData.tuple [(PyData.int ((rule).1 - (1 : Int))), (PyData.list ((rule).2.map fun z => (PyData.list (z.map fun z => (PyData.int z)))))]) := (.tup ((Sub.refl _) _ _ fa36) (.cons (.int _) (.cons (mk_lst (((((((((((((((((((((((((((((((((((g2.ex.trans ex1).trans g7.ex).trans g8.ex).trans ex2).trans ex3).trans ex4).trans ex5).trans g24.ex).trans ex6).trans ex7).trans g27.ex).trans ex8).trans ex9).trans g36.ex).trans ex10).trans ex11).trans ex12).trans ex13).trans ex14).trans ex15).trans ex16).trans g68.ex).trans g69.ex).trans s2).trans ex18).trans ex19).trans g73.ex).trans ex20).trans g76.ex).trans g77.ex).trans g80.ex).trans g81.ex).trans g82.ex).trans g84.ex) _ _ fa2) (Rs_mono ((((((((((((((((((((((((((((((((((g2.ex.trans ex1).trans g7.ex).trans g8.ex).trans ex2).trans ex3).trans ex4).trans ex5).trans g24.ex).trans ex6).trans ex7).trans g27.ex).trans ex8).trans ex9).trans g36.ex).trans ex10).trans ex11).trans ex12).trans ex13).trans ex14).trans ex15).trans ex16).trans g68.ex).trans g69.ex).trans s2).trans ex18).trans ex19).trans g73.ex).trans ex20).trans g76.ex).trans g77.ex).trans g80.ex).trans g81.ex).trans g82.ex).trans g84.ex) fr1)) .nil)))
    with_reducible refine x_cons ?_
    with_reducible refine x_lst ?_
    with_reducible refine x_cons ?_
    refine ⟨_, rfl, ?_⟩
    have d43 : R (α := PyData) (F30) (.int (rule).1) (PyData.int (rule).1) := (.int _)
    with_reducible refine x_cons ?_
    refine ⟨_, rfl, ?_⟩
    have d44 : R (α := PyData) (F30) (.ref a2) (PyData.list ((rule).2.map fun z => (PyData.list (z.map fun z => (PyData.int z))))) := (mk_lst (((((((((((((((((((((((((((((((((((g2.ex.trans ex1).trans g7.ex).trans g8.ex).trans ex2).trans ex3).trans ex4).trans ex5).trans g24.ex).trans ex6).trans ex7).trans g27.ex).trans ex8).trans ex9).trans g36.ex).trans ex10).trans ex11).trans ex12).trans ex13).trans ex14).trans ex15).trans ex16).trans g68.ex).trans g69.ex).trans s2).trans ex18).trans ex19).trans g73.ex).trans ex20).trans g76.ex).trans g77.ex).trans g80.ex).trans g81.ex).trans g82.ex).trans g84.ex) _ _ fa2) (Rs_mono ((((((((((((((((((((((((((((((((((g2.ex.trans ex1).trans g7.ex).trans g8.ex).trans ex2).trans ex3).trans ex4).trans ex5).trans g24.ex).trans ex6).trans ex7).trans g27.ex).trans ex8).trans ex9).trans g36.ex).trans ex10).trans ex11).trans ex12).trans ex13).trans ex14).trans ex15).trans ex16).trans g68.ex).trans g69.ex).trans s2).trans ex18).trans ex19).trans g73.ex).trans ex20).trans g76.ex).trans g77.ex).trans g80.ex).trans g81.ex).trans g82.ex).trans g84.ex) fr1))
    refine ⟨szle (show 2 ≤ 16777216 from by decide), fun p69 np69 => ?_⟩
    have fr90 : Rs (α := PyData) (F30) [(.int (rule).1), (.ref a2)] ([(PyData.int (rule).1), (PyData.list ((rule).2.map fun z => (PyData.list (z.map fun z => (PyData.int z)))))] : (List PyData)) := (Rs_cons (RD.mono (Sub.refl _) d43) (Rs_cons (RD.mono (Sub.refl _) d44) Rs_nil))
    have g85 := Gr.newO (o := .lst [(.int (rule).1), (.ref a2)]) G107.sub np69
    have o93 := Ow.new (us := [(.int (rule).1), (.ref a2)]) G107 np69
    have ne17 := o92.ne_new np69
    have G108 := G107.step g85
    have o94 := o92.step g85
    have dk114 := dk113.step g85
    obtain ⟨F31, G109, ex21, fa37, nf21⟩ := o93.frzE G108
    have o95 := o94.frzN (Ne.symm (Ne.symm ne17)) nf21
    have fr91 := Rs_mono ex21 fr90
    have dk115 := dk114.frzN o93 ex21 nf21
    have d45 : R (α := PyData) (F31) (.ref p69) (PyData.list ([(PyData.int (rule).1), (PyData.list ((rule).2.map fun z => (PyData.list (z.map fun z => (PyData.int z)))))] : (List PyData))) := (R_anyL (mk_lst ((Sub.refl _) _ _ fa37) (Rs_mono (Sub.refl _) fr91)))
    refine ⟨szle (show 4 ≤ 16777216 from by decide), fun p70 np70 => ?_⟩
    have fr92 : Rs (α := PyData) (F31) [(.ref p66), (.ref p67), (.ref p68), (.ref p69)] ([(PyData.tuple [r6, (PyData.list ((rule).2.map fun z => (PyData.list (z.map fun z => (PyData.int z)))))]), (PyData.tuple [(PyData.int (2 : Int)), (PyData.list ((rule).2.map fun z => (PyData.list (z.map fun z => (PyData.int z)))))]), (PyData.tuple [(PyData.int ((rule).1 - (1 : Int))), (PyData.list ((rule).2.map fun z => (PyData.list (z.map fun z => (PyData.int z)))))]), (PyData.list ([(PyData.int (rule).1), (PyData.list ((rule).2.map fun z => (PyData.list (z.map fun z => (PyData.int z)))))] : (List PyData)))] : (List PyData)) := (Rs_cons (RD.mono ((g82.ex.trans g84.ex).trans ex21) d40) (Rs_cons (RD.mono (g84.ex.trans ex21) d41) (Rs_cons (RD.mono ex21 d42) (Rs_cons (RD.mono (Sub.refl _) d45) Rs_nil))))
    have g86 := Gr.newO (o := .lst [(.ref p66), (.ref p67), (.ref p68), (.ref p69)]) G109.sub np70
    have o96 := Ow.new (us := [(.ref p66), (.ref p67), (.ref p68), (.ref p69)]) G109 np70
    have ne18 := o95.ne_new np70
    have G110 := G109.step g86
    have o97 := o95.step g86
    have dk116 := dk115.step g86
    obtain ⟨c23, hm⟩ := guardp hm
    refine ⟨_, _, _, _, rfl, rfl, o97.at_, o96.at_, szle (by rw [Rs_len (Rs_any (Rs_mono ex21 (Rs_mono g84.ex (Rs_mono g82.ex (Rs_mono g81.ex (Rs_mono g80.ex fr89)))))), Rs_len fr92]; exact c23), fun p71 np71 => ?_⟩
    have fr93 : Rs (α := PyData) (F31) ((List.replicate (6 : Int).toNat [(.ref p63)]).flatten ++ [(.ref p66), (.ref p67), (.ref p68), (.ref p69)]) ((((List.replicate (6 : Int).toNat ([((rule).1, x9)] : (List (Int × PyData)))).flatten).map fun z => (PyData.tuple [(PyData.int (z).1), (z).2])) ++ ([(PyData.tuple [r6, (PyData.list ((rule).2.map fun z => (PyData.list (z.map fun z => (PyData.int z)))))]), (PyData.tuple [(PyData.int (2 : Int)), (PyData.list ((rule).2.map fun z => (PyData.list (z.map fun z => (PyData.int z)))))]), (PyData.tuple [(PyData.int ((rule).1 - (1 : Int))), (PyData.list ((rule).2.map fun z => (PyData.list (z.map fun z => (PyData.int z)))))]), (PyData.list ([(PyData.int (rule).1), (PyData.list ((rule).2.map fun z => (PyData.list (z.map fun z => (PyData.int z)))))] : (List PyData)))] : (List PyData))) := Rs_app (Rs_any (Rs_mono ex21 (Rs_mono g84.ex (Rs_mono g82.ex (Rs_mono g81.ex (Rs_mono g80.ex fr89)))))) fr92
    have g87 := Gr.newO (o := .lst ((List.replicate (6 : Int).toNat [(.ref p63)]).flatten ++ [(.ref p66), (.ref p67), (.ref p68), (.ref p69)])) G110.sub np71
    have o98 := Ow.new (us := ((List.replicate (6 : Int).toNat [(.ref p63)]).flatten ++ [(.ref p66), (.ref p67), (.ref p68), (.ref p69)])) G110 np71
    have G111 := G110.step g87
    have dk117 := dk116.step g87
    obtain ⟨F32, G112, ex22, fa38, nf22⟩ := o98.frzE G111
    have fr94 := Rs_mono ex22 fr93
    have dk118 := dk117.frzN o98 ex22 nf22
    obtain ⟨x10, hx8, hm⟩ := bindp hm
    replace hx8 := Option.some.inj hx8
    have fr95 : Rs (α := PyData) (F32) ((List.replicate (6 : Int).toNat [(.ref p63)]).flatten ++ [(.ref p66), (.ref p67), (.ref p68), (.ref p69)]) x10 := by rw [← hx8]; exact (Rs_mono (Sub.refl _) fr94)
    have fa39 := (Sub.refl _) _ _ fa38
    clear hx8
    with_reducible refine x_gnE (σ' := ([some (.ref dk), some (.ref a1), some (.int (rule).1), some (.ref a2), some (.int r1), some (.ref a3), some (.int r2), some v6, some v8, some (.ref p33), some (.ref p39), some (.ref p62), some (.ref p71), none] : L2.St)) (by with_unfolding_all rfl) ?_
    with_reducible refine x_seq ?_
    with_reducible refine x_asg ?_
    with_reducible refine x_op ?_
    refine ⟨_, rfl, ?_⟩
    with_reducible refine x_lst ?_
    with_reducible refine x_cons ?_
    with_reducible refine x_tup ?_
    with_reducible refine x_cons ?_
    refine ⟨_, rfl, ?_⟩
    have d46 : R (α := PyData) (F32) (.int (rule).1) (PyData.int (rule).1) := (.int _)
    refine ⟨szle (show 1 ≤ 16777216 from by decide), fun p72 np72 => ?_⟩
    obtain ⟨F33, g88, fa40⟩ := Gr.newE (o := .tup [(.int (rule).1)]) G112.sub np72
    have G113 := G112.step g88
    have dk119 := dk118.step g88
    have d47 : R (α := PyData) (F33) (.ref p72) (PyData.tuple [(PyData.int (rule).1)]) := .tup fa40 (.cons (RD.mono g88.ex d46) .nil)
    with_reducible refine x_cons ?_
    with_reducible refine x_tup ?_
    with_reducible refine x_cons ?_
    refine ⟨_, rfl, ?_⟩
    have d48 : R (α := PyData) (F33) (.int (rule).1) (PyData.int (rule).1) := (.int _)
    with_reducible refine x_cons ?_
    refine ⟨_, rfl, ?_⟩
    have d49 : R (α := PyData) (F33) (.ref a2) (PyData.list ((rule).2.map fun z => (PyData.list (z.map fun z => (PyData.int z))))) := (mk_lst ((((((((((((((((((((((((((((((((((((((g2.ex.trans ex1).trans g7.ex).trans g8.ex).trans ex2).trans ex3).trans ex4).trans ex5).trans g24.ex).trans ex6).trans ex7).trans g27.ex).trans ex8).trans ex9).trans g36.ex).trans ex10).trans ex11).trans ex12).trans ex13).trans ex14).trans ex15).trans ex16).trans g68.ex).trans g69.ex).trans s2).trans ex18).trans ex19).trans g73.ex).trans ex20).trans g76.ex).trans g77.ex).trans g80.ex).trans g81.ex).trans g82.ex).trans g84.ex).trans ex21).trans ex22).trans g88.ex) _ _ fa2) (Rs_mono (((((((((((((((((((((((((((((((((((((g2.ex.trans ex1).trans g7.ex).trans g8.ex).trans ex2).trans ex3).trans ex4).trans ex5).trans g24.ex).trans ex6).trans ex7).trans g27.ex).trans ex8).trans ex9).trans g36.ex).trans ex10).trans ex11).trans ex12).trans ex13).trans ex14).trans ex15).trans ex16).trans g68.ex).trans g69.ex).trans s2).trans ex18).trans ex19).trans g73.ex).trans ex20).trans g76.ex).trans g77.ex).trans g80.ex).trans g81.ex).trans g82.ex).trans g84.ex).trans ex21).trans ex22).trans g88.ex) fr1))
    with_reducible refine x_cons ?_
    with_reducible refine x_lst ?_
    refine ⟨szle (show 0 ≤ 16777216 from by decide), fun p73 np73 => ?_⟩
    have fr96 : Rs (α := PyData) (F33) [] ([] : (List PyData)) := Rs_nil
    have g89 := Gr.newO (o := .lst []) G113.sub np73
    have o99 := Ow.new (us := []) G113 np73
    have G114 := G113.step g89
    have dk120 := dk119.step g89
    obtain ⟨F34, G115, ex23, fa41, nf23⟩ := o99.frzE G114
    have fr97 := Rs_mono ex23 fr96
    have dk121 := dk120.frzN o99 ex23 nf23
    have d50 : R (α := PyData) (F34) (.ref p73) (PyData.list ([] : (List PyData))) := (R_anyL (mk_lst ((Sub.refl _) _ _ fa41) (Rs_mono (Sub.refl _) fr97)))
    refine ⟨szle (show 3 ≤ 16777216 from by decide), fun p74 np74 => ?_⟩
    obtain ⟨F35, g90, fa42⟩ := Gr.newE (o := .tup [(.int (rule).1), (.ref a2), (.ref p73)]) G115.sub np74
    have G116 := G115.step g90
    have dk122 := dk121.step g90
    have d51 : R (α := PyData) (F35) (.ref p74) (PyData.tuple [(PyData.int (rule).1), (PyData.list ((rule).2.map fun z => (PyData.list (z.map fun z => (PyData.int z))))), (PyData.list ([] : (List PyData)))]) := .tup fa42 (.cons (RD.mono (ex23.trans g90.ex) d48) (.cons (RD.mono (ex23.trans g90.ex) d49) (.cons (RD.mono g90.ex d50) .nil)))
    with_reducible refine x_cons ?_
    with_reducible refine x_tup ?_
    with_reducible refine x_cons ?_
    refine ⟨_, rfl, ?_⟩
    with_reducible refine x_cons ?_
    refine ⟨_, rfl, ?_⟩
    refine ⟨szle (show 2 ≤ 16777216 from by decide), fun p75 np75 => ?_⟩
    obtain ⟨F36, g91, fa43⟩ := Gr.newE (o := .tup [(.ref a2), (.int (rule).1)]) G116.sub np75
    have G117 := G116.step g91
    have dk123 := dk122.step g91
    have d52 : R (α := PyData) (F36) (.ref p75) (PyData.tuple [(PyData.list ((rule).2.map fun z => (PyData.list (z.map fun z => (PyData.int z))))), (PyData.int (rule).1)]) := (.tup ((Sub.refl _) _ _ fa43) (.cons (mk_lst (((((((((((((((((((((((((((((((((((((((((g2.ex.trans ex1).trans g7.ex).trans g8.ex).trans ex2).trans ex3).trans ex4).trans ex5).trans g24.ex).trans ex6).trans ex7).trans g27.ex).trans ex8).trans ex9).trans g36.ex).trans ex10).trans ex11).trans ex12).trans ex13).trans ex14).trans ex15).trans ex16).trans g68.ex).trans g69.ex).trans s2).trans ex18).trans ex19).trans g73.ex).trans ex20).trans g76.ex).trans g77.ex).trans g80.ex).trans g81.ex).trans g82.ex).trans g84.ex).trans ex21).trans ex22).trans g88.ex).trans ex23).trans g90.ex).trans g91.ex) _ _ fa2) (Rs_mono ((((((((((((((((((((((((((((((((((((((((g2.ex.trans ex1).trans g7.ex).trans g8.ex).trans ex2).trans ex3).trans ex4).trans ex5).trans g24.ex).trans ex6).trans ex7).trans g27.ex).trans ex8).trans ex9).trans g36.ex).trans ex10).trans ex11).trans ex12).trans ex13).trans ex14).trans ex15).trans ex16).trans g68.ex).trans g69.ex).trans s2).trans ex18).trans ex19).trans g73.ex).trans ex20).trans g76.ex).trans g77.ex).trans g80.ex).trans g81.ex).trans g82.ex).trans g84.ex).trans ex21).trans ex22).trans g88.ex).trans ex23).trans g90.ex).trans g91.ex) fr1)) (.cons (.int _) .nil)))
    with_reducible refine x_cons ?_
    refine ⟨_, rfl, ?_⟩
    have d53 : R (α := PyData) (F36) (.ref a2) (PyData.list ((rule).2.map fun z => (PyData.list (z.map fun z => (PyData.int z))))) := (mk_lst (((((((((((((((((((((((((((((((((((((((((g2.ex.trans ex1).trans g7.ex).trans g8.ex).trans ex2).trans ex3).trans ex4).trans ex5).trans g24.ex).trans ex6).trans ex7).trans g27.ex).trans ex8).trans ex9).trans g36.ex).trans ex10).trans ex11).trans ex12).trans ex13).trans ex14).trans ex15).trans ex16).trans g68.ex).trans g69.ex).trans s2).trans ex18).trans ex19).trans g73.ex).trans ex20).trans g76.ex).trans g77.ex).trans g80.ex).trans g81.ex).trans g82.ex).trans g84.ex).trans ex21).trans ex22).trans g88.ex).trans ex23).trans g90.ex).trans g91.ex) _ _ fa2) (Rs_mono ((((((((((((((((((((((((((((((((((((((((g2.ex.trans ex1).trans g7.ex).trans g8.ex).trans ex2).trans ex3).trans ex4).trans ex5).trans g24.ex).trans ex6).trans ex7).trans g27.ex).trans ex8).trans ex9).trans g36.ex).trans ex10).trans ex11).trans ex12).trans ex13).trans ex14).trans ex15).trans ex16).trans g68.ex).trans g69.ex).trans s2).trans ex18).trans ex19).trans g73.ex).trans ex20).trans g76.ex).trans g77.ex).trans g80.ex).trans g81.ex).trans g82.ex).trans g84.ex).trans ex21).trans ex22).trans g88.ex).trans ex23).trans g90.ex).trans g91.ex) fr1))
    with_reducible refine x_cons ?_
    refine ⟨_, rfl, ?_⟩
    have d54 : R (α := PyData) (F36) (.int (rule).1) (PyData.int (rule).1) := (.int _)
    with_reducible refine x_cons ?_
    with_reducible refine x_c ?_
    have d55 : R (α := PyData) (F36) .non PyData.none := .non
    with_reducible refine x_cons ?_
    with_reducible refine x_tup ?_
    refine ⟨szle (show 0 ≤ 16777216 from by decide), fun p76 np76 => ?_⟩
    obtain ⟨F37, g92, fa44⟩ := Gr.newE (o := .tup []) G117.sub np76
    have G118 := G117.step g92
    have dk124 := dk123.step g92
    have d56 : R (α := PyData) (F37) (.ref p76) (PyData.tuple []) := .tup fa44 .nil
    with_reducible refine x_cons ?_
    with_reducible refine x_c ?_
    have d57 : R (α := PyData) (F37) (.str ("" : Str)) (PyData.str ("" : Str)) := (.str _)
    with_reducible refine x_cons ?_
    refine fun p77 np77 => ?_
    obtain ⟨F38, g93, fa45⟩ := Gr.newE (o := .dK []) G118.sub np77
    have G119 := G118.step g93
    have dk125 := dk124.step g93
    have d58 : R (α := PyData) (F38) (.ref p77) (PyData.dict []) := .dic fa45 .nil
    with_reducible refine x_cons ?_
    with_reducible refine x_tup ?_
    with_reducible refine x_cons ?_
    with_reducible refine x_lst ?_
    with_reducible refine x_cons ?_
    refine ⟨_, rfl, ?_⟩
    refine ⟨szle (show 1 ≤ 16777216 from by decide), fun p78 np78 => ?_⟩
    have fr98 : Rs (α := Int) (F38) [(.int (rule).1)] ([(rule).1] : (List Int)) := (Rs_cons (.int _) Rs_nil)
    have g94 := Gr.newO (o := .lst [(.int (rule).1)]) G119.sub np78
    have o100 := Ow.new (us := [(.int (rule).1)]) G119 np78
    have G120 := G119.step g94
    have dk126 := dk125.step g94
    with_reducible refine x_cons ?_
    refine ⟨_, rfl, ?_⟩
    obtain ⟨F39, G121, ex24, fa46, nf24⟩ := o100.frzE G120
    have fr99 := Rs_mono ex24 fr98
    have dk127 := dk126.frzN o100 ex24 nf24
    refine ⟨szle (show 2 ≤ 16777216 from by decide), fun p79 np79 => ?_⟩
    obtain ⟨F40, g95, fa47⟩ := Gr.newE (o := .tup [(.ref p78), (.ref a2)]) G121.sub np79
    have G122 := G121.step g95
    have dk128 := dk127.step g95
    have d59 : R (α := PyData) (F40) (.ref p79) (PyData.tuple [(PyData.list (([(rule).1] : (List Int)).map fun z => (PyData.int z))), (PyData.list ((rule).2.map fun z => (PyData.list (z.map fun z => (PyData.int z)))))]) := (.tup ((Sub.refl _) _ _ fa47) (.cons (mk_lst (g95.ex _ _ fa46) (Rs_mono g95.ex fr99)) (.cons (mk_lst (((((((((((((((((((((((((((((((((((((((((((((g2.ex.trans ex1).trans g7.ex).trans g8.ex).trans ex2).trans ex3).trans ex4).trans ex5).trans g24.ex).trans ex6).trans ex7).trans g27.ex).trans ex8).trans ex9).trans g36.ex).trans ex10).trans ex11).trans ex12).trans ex13).trans ex14).trans ex15).trans ex16).trans g68.ex).trans g69.ex).trans s2).trans ex18).trans ex19).trans g73.ex).trans ex20).trans g76.ex).trans g77.ex).trans g80.ex).trans g81.ex).trans g82.ex).trans g84.ex).trans ex21).trans ex22).trans g88.ex).trans ex23).trans g90.ex).trans g91.ex).trans g92.ex).trans g93.ex).trans ex24).trans g95.ex) _ _ fa2) (Rs_mono ((((((((((((((((((((((((((((((((((((((((((((g2.ex.trans ex1).trans g7.ex).trans g8.ex).trans ex2).trans ex3).trans ex4).trans ex5).trans g24.ex).trans ex6).trans ex7).trans g27.ex).trans ex8).trans ex9).trans g36.ex).trans ex10).trans ex11).trans ex12).trans ex13).trans ex14).trans ex15).trans ex16).trans g68.ex).trans g69.ex).trans s2).trans ex18).trans ex19).trans g73.ex).trans ex20).trans g76.ex).trans g77.ex).trans g80.ex).trans g81.ex).trans g82.ex).trans g84.ex).trans ex21).trans ex22).trans g88.ex).trans ex23).trans g90.ex).trans g91.ex).trans g92.ex).trans g93.ex).trans ex24).trans g95.ex) fr1)) .nil)))
    refine ⟨szle (show 10 ≤ 16777216 from by decide), fun p80 np80 => ?_⟩
    have fr100 : Rs (α := PyData) (F40) [(.ref p72), (.ref p74), (.ref p75), (.ref a2), (.int (rule).1), .non, (.ref p76), (.str ("" : Str)), (.ref p77), (.ref p79)] ([(PyData.tuple [(PyData.int (rule).1)]), (PyData.tuple [(PyData.int (rule).1), (PyData.list ((rule).2.map fun z => (PyData.list (z.map fun z => (PyData.int z))))), (PyData.list ([] : (List PyData)))]), (PyData.tuple [(PyData.list ((rule).2.map fun z => (PyData.list (z.map fun z => (PyData.int z))))), (PyData.int (rule).1)]), (PyData.list ((rule).2.map fun z => (PyData.list (z.map fun z => (PyData.int z))))), (PyData.int (rule).1), PyData.none, (PyData.tuple []), (PyData.str ("" : Str)), (PyData.dict []), (PyData.tuple [(PyData.list (([(rule).1] : (List Int)).map fun z => (PyData.int z))), (PyData.list ((rule).2.map fun z => (PyData.list (z.map fun z => (PyData.int z)))))])] : (List PyData)) := (Rs_cons (RD.mono ((((((ex23.trans g90.ex).trans g91.ex).trans g92.ex).trans g93.ex).trans ex24).trans g95.ex) d47) (Rs_cons (RD.mono ((((g91.ex.trans g92.ex).trans g93.ex).trans ex24).trans g95.ex) d51) (Rs_cons (RD.mono (((g92.ex.trans g93.ex).trans ex24).trans g95.ex) d52) (Rs_cons (RD.mono (((g92.ex.trans g93.ex).trans ex24).trans g95.ex) d53) (Rs_cons (RD.mono (((g92.ex.trans g93.ex).trans ex24).trans g95.ex) d54) (Rs_cons (RD.mono (((g92.ex.trans g93.ex).trans ex24).trans g95.ex) d55) (Rs_cons (RD.mono ((g93.ex.trans ex24).trans g95.ex) d56) (Rs_cons (RD.mono ((g93.ex.trans ex24).trans g95.ex) d57) (Rs_cons (RD.mono (ex24.trans g95.ex) d58) (Rs_cons (RD.mono (Sub.refl _) d59) Rs_nil))))))))))
    have g96 := Gr.newO (o := .lst [(.ref p72), (.ref p74), (.ref p75), (.ref a2), (.int (rule).1), .non, (.ref p76), (.str ("" : Str)), (.ref p77), (.ref p79)]) G122.sub np80
    have o101 := Ow.new (us := [(.ref p72), (.ref p74), (.ref p75), (.ref a2), (.int (rule).1), .non, (.ref p76), (.str ("" : Str)), (.ref p77), (.ref p79)]) G122 np80
    have G123 := G122.step g96
    have dk129 := dk128.step g96
    obtain ⟨c24, hm⟩ := guardp hm
    refine ⟨_, _, _, _, rfl, rfl, (((((((((g88.ex.trans ex23).trans g90.ex).trans g91.ex).trans g92.ex).trans g93.ex).trans ex24).trans g95.ex).trans G123.sub) _ _ fa39), o101.at_, szle (by rw [Rs_len (Rs_mono (((((((g88.ex.trans ex23).trans g90.ex).trans g91.ex).trans g92.ex).trans g93.ex).trans ex24).trans g95.ex) fr95), Rs_len fr100]; exact c24), fun p81 np81 => ?_⟩
    have fr101 : Rs (α := PyData) (F40) (((List.replicate (6 : Int).toNat [(.ref p63)]).flatten ++ [(.ref p66), (.ref p67), (.ref p68), (.ref p69)]) ++ [(.ref p72), (.ref p74), (.ref p75), (.ref a2), (.int (rule).1), .non, (.ref p76), (.str ("" : Str)), (.ref p77), (.ref p79)]) (x10 ++ ([(PyData.tuple [(PyData.int (rule).1)]), (PyData.tuple [(PyData.int (rule).1), (PyData.list ((rule).2.map fun z => (PyData.list (z.map fun z => (PyData.int z))))), (PyData.list ([] : (List PyData)))]), (PyData.tuple [(PyData.list ((rule).2.map fun z => (PyData.list (z.map fun z => (PyData.int z))))), (PyData.int (rule).1)]), (PyData.list ((rule).2.map fun z => (PyData.list (z.map fun z => (PyData.int z))))), (PyData.int (rule).1), PyData.none, (PyData.tuple []), (PyData.str ("" : Str)), (PyData.dict []), (PyData.tuple [(PyData.list (([(rule).1] : (List Int)).map fun z => (PyData.int z))), (PyData.list ((rule).2.map fun z => (PyData.list (z.map fun z => (PyData.int z)))))])] : (List PyData))) := Rs_app (Rs_mono (((((((g88.ex.trans ex23).trans g90.ex).trans g91.ex).trans g92.ex).trans g93.ex).trans ex24).trans g95.ex) fr95) fr100
    have g97 := Gr.newO (o := .lst (((List.replicate (6 : Int).toNat [(.ref p63)]).flatten ++ [(.ref p66), (.ref p67), (.ref p68), (.ref p69)]) ++ [(.ref p72), (.ref p74), (.ref p75), (.ref a2), (.int (rule).1), .non, (.ref p76), (.str ("" : Str)), (.ref p77), (.ref p79)])) G123.sub np81
    have o102 := Ow.new (us := (((List.replicate (6 : Int).toNat [(.ref p63)]).flatten ++ [(.ref p66), (.ref p67), (.ref p68), (.ref p69)]) ++ [(.ref p72), (.ref p74), (.ref p75), (.ref a2), (.int (rule).1), .non, (.ref p76), (.str ("" : Str)), (.ref p77), (.ref p79)])) G123 np81
    have G124 := G123.step g97
    have dk130 := dk129.step g97
    obtain ⟨F41, G125, ex25, fa48, nf25⟩ := o102.frzE G124
    have fr102 := Rs_mono ex25 fr101
    have dk131 := dk130.frzN o102 ex25 nf25
    obtain ⟨x11, hx9, hm⟩ := bindp hm
    replace hx9 := Option.some.inj hx9
    have fr103 : Rs (α := PyData) (F41) (((List.replicate (6 : Int).toNat [(.ref p63)]).flatten ++ [(.ref p66), (.ref p67), (.ref p68), (.ref p69)]) ++ [(.ref p72), (.ref p74), (.ref p75), (.ref a2), (.int (rule).1), .non, (.ref p76), (.str ("" : Str)), (.ref p77), (.ref p79)]) x11 := by rw [← hx9]; exact (Rs_mono (Sub.refl _) fr102)
    have fa49 := (Sub.refl _) _ _ fa48
    clear hx9
    with_reducible refine x_gnE (σ' := ([some (.ref dk), some (.ref a1), some (.int (rule).1), some (.ref a2), some (.int r1), some (.ref a3), some (.int r2), some v6, some v8, some (.ref p33), some (.ref p39), some (.ref p62), some (.ref p81), none] : L2.St)) (by with_unfolding_all rfl) ?_
    with_reducible refine x_ret ?_
    with_reducible refine x_op ?_
    refine ⟨_, rfl, ?_⟩
    with_reducible refine x_call ?_
    with_reducible refine x_cons ?_
    refine ⟨_, rfl, ?_⟩
    with_reducible refine x_cons ?_
    with_reducible refine x_c ?_
    obtain ⟨⟨r7, st8⟩, hr7, hm⟩ := bindp hm
    refine ⟨_, _, _, _, _, (20 : Int), r7, st8, rfl, G125.sub, dk131.at_, dk131.nf, (.int _), hr7, fun N7 H18 v13 g98 dk132 d60 => ?_⟩
    have G126 := G125.trans g98
    have dk133 := dk131.stepA g98 dk132
    obtain rfl := int_of d60
    obtain ⟨x12, hx10, hm⟩ := bindp hm
    obtain ⟨v14, hu4, d61⟩ := Rs_at (Rs_mono g98.ex fr103) hx10
    refine ⟨_, _, _, _, rfl, rfl, .inl (.inl ((g98.ex.trans G126.sub) _ _ fa49)), hu4, ?_⟩
    obtain ⟨rfl, rfl⟩ := pairp hm
    exact q _ _ _ G126 dk133.at_ (RD.mono (Sub.refl _) d61)

abbrev N__law_no_stand : List Str := ["deck", "rule", "base", "bad", "some", "stand", "figure", "more"]
theorem sc__law_no_stand : FnScope N__law_no_stand ["deck", "rule"] (defScope s__law_no_stand) := ⟨rfl, rfl, rfl, by decide +kernel, rfl, by decide +kernel, by decide +kernel⟩
def sp__law_no_stand : Sp := fun vs H Q _ => ∃ (F : Hp) (A : Addr → Prop) (dk : Addr) (st : DkS) (v_rule : V) (rule : (Int × (List (List Int)))) (r : PyData) (stR : DkS), vs = [.ref dk, v_rule] ∧ Sub F H ∧ Deck A H dk st ∧ (∀ a, A a → F a = none) ∧ R F v_rule rule ∧ _law_no_stand st rule = some (r, stR) ∧ ∀ N H2 v, Gr A F H N H2 → Deck A H2 dk stR → R N v r → Q v H2
theorem ok__law_no_stand {P : Program} {w : World} {K : PySem.W.Frag} {mg : Str → Option Value} {base : Heap} (T : Txt K mg) : FnOk P w K mg base CX0 3 T.f__law_no_stand.f T.f__law_no_stand.fd ["deck", "rule"] sp__law_no_stand := by
  have nd := (sc__law_no_stand).nd
  refine T.f__law_no_stand.F.ok sc__law_no_stand (fun vs H Q E h => ?_) (fun cdv A0 outer s H vs Q E hr h => ?_)
  · obtain ⟨_, _, _, _, _, _, _, _, rfl, _⟩ := h
    rfl
  obtain ⟨F0, A, dk, st, v_rule, rule, r, stR, rfl, s0, hdk, hnf, f_rule, hm, q⟩ := h
  have G0 : Gr A F0 H F0 H := Gr.refl s0
  have dk0 := DkAt.mk0 hdk hnf
  obtain ⟨a1, v1, v2, rfl, fa1, d1, d2⟩ := tup2_of f_rule
  obtain rfl := int_of d1
  obtain ⟨a2, us1, rfl, fa2, fr1⟩ := lst_of d2
  refine ⟨_, (pss_cons (ps_asg (pv 1) (pg_tup rfl (pgs_cons (pg_name (i := 2) nd rfl (by first | exact Or.inl rfl | exact Or.inr rfl)) (pgs_cons (pg_name (i := 3) nd rfl (by first | exact Or.inl rfl | exact Or.inr rfl)) pgs_nil)))) (pss_cons (ps_set (i := 4) nd rfl (by first | exact Or.inl rfl | exact Or.inr rfl) (pe_call (ok__law_all T) (hr.mono (by decide)) (by rfl) T.f__law_all.g T.f__law_all.F.kp T.f__law_all.b .nil pass0 (pa_cons (pv 3) pa_nil))) (pss_cons (ps_set (i := 5) nd rfl (by first | exact Or.inl rfl | exact Or.inr rfl) (pe_ix (r := rIxL K) ix_list (pv 4) (pe_call (ok__law_draw T) (hr.mono (by decide)) (by rfl) T.f__law_draw.g T.f__law_draw.F.kp T.f__law_draw.b .nil pass0 (pa_cons (pv 0) (pa_cons (pe_callB (r := rLenT K) call_lenT (by rfl) T.z_len PySem.boot_len (pa_cons (pv 4) pa_nil)) pa_nil))) (fun _ _ => rfl))) (pss_cons (ps_set (i := 6) nd rfl (by first | exact Or.inl rfl | exact Or.inr rfl) (pe_call (ok__law_draw T) (hr.mono (by decide)) (by rfl) T.f__law_draw.g T.f__law_draw.F.kp T.f__law_draw.b .nil pass0 (pa_cons (pv 0) (pa_cons (pv 2) pa_nil)))) (pss_cons (ps_set (i := 7) nd rfl (by first | exact Or.inl rfl | exact Or.inr rfl) (pe_lst (pa_cons (pe_op op_cat (pv 5) (pe_lst (pa_cons (pv 6) pa_nil))) (pa_cons (pe_op op_cat (pe_lst (pa_cons (pv 6) pa_nil)) (pv 5)) (pa_cons (pe_lst (pa_cons (pv 6) pa_nil)) (pa_cons (pe_revL (pv 5)) (pa_cons (pe_op op_cat (pe_op op_cat (pv 5) (pv 5)) (pe_lst (pa_cons pe_int pa_nil))) (pa_cons (pe_callTy (r := rTupL K) call_tupL (by rfl) T.z_tuple (by decide +kernel) (pa_cons (pv 5) pa_nil)) (pa_cons pe_non (pa_cons pe_str (pa_cons pe_dnewK pa_nil))))))))))) (pss_cons (ps_set (i := 7) nd rfl (by first | exact Or.inl rfl | exact Or.inr rfl) (pe_op op_cat (pv 7) (pe_lst (pa_cons (pe_ix (r := rIxL K) ix_list (pe_op op_cat (pv 3) (pe_lst (pa_cons (pe_lst (pa_cons pe_int pa_nil)) pa_nil))) pe_int (fun _ _ => rfl)) (pa_cons (pe_ix (r := rIxL K) ix_list (pe_op op_cat (pv 3) (pe_lst (pa_cons (pe_lst (pa_cons pe_int pa_nil)) pa_nil))) (pe_un un_neg pe_int) (fun _ _ => rfl)) (pa_cons pe_int (pa_cons pe_bl (pa_cons (pe_lst (pa_cons (pv 5) pa_nil)) (pa_cons (pe_lst (pa_cons pe_int (pa_cons pe_int (pa_cons pe_int (pa_cons pe_int pa_nil))))) (pa_cons (pe_lst (pa_cons (pv 2) pa_nil)) (pa_cons (pe_lst (pa_cons pe_bl pa_nil)) (pa_cons (pe_lst (pa_cons pe_str pa_nil)) pa_nil)))))))))))) (pss_one (ps_ret (pe_ix (r := rIxL K) ix_list (pv 7) (pe_call (ok__law_draw T) (hr.mono (by decide)) (by rfl) T.f__law_draw.g T.f__law_draw.F.kp T.f__law_draw.b .nil pass0 (pa_cons (pv 0) (pa_cons pe_int pa_nil))) (fun _ _ => rfl)))))))))), ?_⟩
  refine x_start (σ' := ([some (.ref dk), some (.ref a1), none, none, none, none, none, none] : L2.St)) (by with_unfolding_all rfl) ?_
  rw [_law_no_stand] at hm
  with_reducible refine x_seq ?_
  with_reducible refine x_asg ?_
  refine ⟨_, rfl, ?_⟩
  refine ⟨_, _, rfl, .inl (.inl (G0.sub _ _ fa1)), rfl, ?_⟩
  refine ⟨_, _, rfl, ?_⟩
  with_reducible refine x_gnE (σ' := ([some (.ref dk), some (.ref a1), some (.int (rule).1), none, none, none, none, none] : L2.St)) (by with_unfolding_all rfl) ?_
  refine ⟨_, _, rfl, ?_⟩
  with_reducible refine x_gnE (σ' := ([some (.ref dk), some (.ref a1), some (.int (rule).1), some (.ref a2), none, none, none, none] : L2.St)) (by with_unfolding_all rfl) ?_
  refine ⟨rfl, ?_⟩
  with_reducible refine x_seq ?_
  with_reducible refine x_asg ?_
  with_reducible refine x_call ?_
  with_reducible refine x_cons ?_
  refine ⟨_, rfl, ?_⟩
  obtain ⟨r1, hr1, hm⟩ := bindp hm
  refine ⟨_, _, (rule).2, r1, rfl, G0.sub, (mk_lst ((Sub.refl _) _ _ fa2) (Rs_mono (Sub.refl _) fr1)), hr1, fun N1 H1 v3 g1 d3  => ?_⟩
  have G1 := G0.step g1
  have dk1 := dk0.step g1
  obtain ⟨a3, us2, rfl, fa3, fr2⟩ := lst_of d3
  with_reducible refine x_gnE (σ' := ([some (.ref dk), some (.ref a1), some (.int (rule).1), some (.ref a2), some (.ref a3), none, none, none] : L2.St)) (by with_unfolding_all rfl) ?_
  with_reducible refine x_seq ?_
  with_reducible refine x_asg ?_
  with_reducible refine x_op ?_
  refine ⟨_, rfl, ?_⟩
  with_reducible refine x_call ?_
  with_reducible refine x_cons ?_
  refine ⟨_, rfl, ?_⟩
  with_reducible refine x_cons ?_
  refine useEv (.int (r1.length : Int)) (by exact (ev_lenT (Evl.ev_var rfl) (G1.sub _ _ fa3) (Rs_mono (Sub.refl _) fr2))) (fun H2 e1 => ?_)
  have g2 := gr_ex G1.sub e1
  have G2 := G1.step g2
  have dk2 := dk1.step g2
  obtain ⟨⟨r2, st1⟩, hr2, hm⟩ := bindp hm
  refine ⟨_, _, _, _, _, (r1.length : Int), r2, st1, rfl, G2.sub, dk2.at_, dk2.nf, (.int _), hr2, fun N2 H3 v4 g3 dk3 d4 => ?_⟩
  have G3 := G2.trans g3
  have dk4 := dk2.stepA g3 dk3
  obtain rfl := int_of d4
  obtain ⟨x1, hx1, hm⟩ := bindp hm
  obtain ⟨v5, hu1, d5⟩ := Rs_at (Rs_mono g3.ex fr2) hx1
  refine ⟨_, _, _, _, rfl, rfl, .inl (.inl ((g3.ex.trans G3.sub) _ _ fa3)), hu1, ?_⟩
  obtain ⟨a4, us3, rfl, fa4, fr3⟩ := lst_of d5
  with_reducible refine x_gnE (σ' := ([some (.ref dk), some (.ref a1), some (.int (rule).1), some (.ref a2), some (.ref a3), some (.ref a4), none, none] : L2.St)) (by with_unfolding_all rfl) ?_
  with_reducible refine x_seq ?_
  with_reducible refine x_asg ?_
  with_reducible refine x_call ?_
  with_reducible refine x_cons ?_
  refine ⟨_, rfl, ?_⟩
  with_reducible refine x_cons ?_
  refine ⟨_, rfl, ?_⟩
  obtain ⟨⟨r3, st2⟩, hr3, hm⟩ := bindp hm
  refine ⟨_, _, _, _, _, (rule).1, r3, st2, rfl, G3.sub, dk4.at_, dk4.nf, (.int _), hr3, fun N3 H4 v6 g4 dk5 d6 => ?_⟩
  have G4 := G3.trans g4
  have dk6 := dk4.stepA g4 dk5
  obtain rfl := int_of d6
  with_reducible refine x_gnE (σ' := ([some (.ref dk), some (.ref a1), some (.int (rule).1), some (.ref a2), some (.ref a3), some (.ref a4), some (.int r3), none] : L2.St)) (by with_unfolding_all rfl) ?_
  with_reducible refine x_seq ?_
  with_reducible refine x_asg ?_
  with_reducible refine x_lst ?_
  with_reducible refine x_cons ?_
  with_reducible refine x_op ?_
  refine ⟨_, rfl, ?_⟩
  with_reducible refine x_lst ?_
  with_reducible refine x_cons ?_
  refine ⟨_, rfl, ?_⟩
  refine ⟨szle (show 1 ≤ 16777216 from by decide), fun p1 np1 => ?_⟩
  have fr4 : Rs (α := Int) (N3) [(.int r3)] ([r3] : (List Int)) := (Rs_cons (.int _) Rs_nil)
  have g5 := Gr.newO (o := .lst [(.int r3)]) G4.sub np1
  have o1 := Ow.new (us := [(.int r3)]) G4 np1
  have G5 := G4.step g5
  have dk7 := dk6.step g5
  obtain ⟨c1, hm⟩ := guardp hm
  refine ⟨_, _, _, _, rfl, rfl, ((g4.ex.trans G5.sub) _ _ fa4), o1.at_, szle (by rw [Rs_len (Rs_mono g4.ex fr3), Rs_len fr4]; exact c1), fun p2 np2 => ?_⟩
  have fr5 : Rs (α := Int) (N3) (us3 ++ [(.int r3)]) (x1 ++ ([r3] : (List Int))) := Rs_app (Rs_mono g4.ex fr3) fr4
  have g6 := Gr.newO (o := .lst (us3 ++ [(.int r3)])) G5.sub np2
  have o2 := Ow.new (us := (us3 ++ [(.int r3)])) G5 np2
  have G6 := G5.step g6
  have dk8 := dk7.step g6
  obtain ⟨F1, G7, ex1, fa5, nf1⟩ := o2.frzE G6
  have fr6 := Rs_mono ex1 fr5
  have dk9 := dk8.frzN o2 ex1 nf1
  have d7 : R (α := PyData) (F1) (.ref p2) (PyData.list ((x1 ++ ([r3] : (List Int))).map fun z => (PyData.int z))) := (mk_lst ((Sub.refl _) _ _ fa5) (Rs_mono (Sub.refl _) fr6))
  with_reducible refine x_cons ?_
  with_reducible refine x_op ?_
  with_reducible refine x_lst ?_
  with_reducible refine x_cons ?_
  refine ⟨_, rfl, ?_⟩
  refine ⟨szle (show 1 ≤ 16777216 from by decide), fun p3 np3 => ?_⟩
  have fr7 : Rs (α := Int) (F1) [(.int r3)] ([r3] : (List Int)) := (Rs_cons (.int _) Rs_nil)
  have g7 := Gr.newO (o := .lst [(.int r3)]) G7.sub np3
  have o3 := Ow.new (us := [(.int r3)]) G7 np3
  have G8 := G7.step g7
  have dk10 := dk9.step g7
  refine ⟨_, rfl, ?_⟩
  obtain ⟨c2, hm⟩ := guardp hm
  refine ⟨_, _, _, _, rfl, rfl, o3.at_, (((g4.ex.trans ex1).trans G8.sub) _ _ fa4), szle (by rw [Rs_len fr7, Rs_len (Rs_mono (g4.ex.trans ex1) fr3)]; exact c2), fun p4 np4 => ?_⟩
  have fr8 : Rs (α := Int) (F1) ([(.int r3)] ++ us3) (([r3] : (List Int)) ++ x1) := Rs_app fr7 (Rs_mono (g4.ex.trans ex1) fr3)
  have g8 := Gr.newO (o := .lst ([(.int r3)] ++ us3)) G8.sub np4
  have o4 := Ow.new (us := ([(.int r3)] ++ us3)) G8 np4
  have G9 := G8.step g8
  have dk11 := dk10.step g8
  obtain ⟨F2, G10, ex2, fa6, nf2⟩ := o4.frzE G9
  have fr9 := Rs_mono ex2 fr8
  have dk12 := dk11.frzN o4 ex2 nf2
  have d8 : R (α := PyData) (F2) (.ref p4) (PyData.list ((([r3] : (List Int)) ++ x1).map fun z => (PyData.int z))) := (mk_lst ((Sub.refl _) _ _ fa6) (Rs_mono (Sub.refl _) fr9))
  with_reducible refine x_cons ?_
  with_reducible refine x_lst ?_
  with_reducible refine x_cons ?_
  refine ⟨_, rfl, ?_⟩
  refine ⟨szle (show 1 ≤ 16777216 from by decide), fun p5 np5 => ?_⟩
  have fr10 : Rs (α := Int) (F2) [(.int r3)] ([r3] : (List Int)) := (Rs_cons (.int _) Rs_nil)
  have g9 := Gr.newO (o := .lst [(.int r3)]) G10.sub np5
  have o5 := Ow.new (us := [(.int r3)]) G10 np5
  have G11 := G10.step g9
  have dk13 := dk12.step g9
  obtain ⟨F3, G12, ex3, fa7, nf3⟩ := o5.frzE G11
  have fr11 := Rs_mono ex3 fr10
  have dk14 := dk13.frzN o5 ex3 nf3
  have d9 : R (α := PyData) (F3) (.ref p5) (PyData.list (([r3] : (List Int)).map fun z => (PyData.int z))) := (mk_lst ((Sub.refl _) _ _ fa7) (Rs_mono (Sub.refl _) fr11))
  with_reducible refine x_cons ?_
  with_reducible refine x_revL ?_
  refine ⟨_, rfl, ?_⟩
  refine ⟨_, _, rfl, .inl (.inl (((((g4.ex.trans ex1).trans ex2).trans ex3).trans G12.sub) _ _ fa4)), fun p6 np6 => ?_⟩
  have fr12 : Rs (α := Int) (F3) (us3).reverse ((x1).reverse) := Rs_rev (Rs_mono (((g4.ex.trans ex1).trans ex2).trans ex3) fr3)
  have g10 := Gr.newO (o := .lst (us3).reverse) G12.sub np6
  have o6 := Ow.new (us := (us3).reverse) G12 np6
  have G13 := G12.step g10
  have dk15 := dk14.step g10
  obtain ⟨F4, G14, ex4, fa8, nf4⟩ := o6.frzE G13
  have fr13 := Rs_mono ex4 fr12
  have dk16 := dk15.frzN o6 ex4 nf4
  have d10 : R (α := PyData) (F4) (.ref p6) (PyData.list (((x1).reverse).map fun z => (PyData.int z))) := (mk_lst ((Sub.refl _) _ _ fa8) (Rs_mono (Sub.refl _) fr13))
  with_reducible refine x_cons ?_
  with_reducible refine x_op ?_
  with_reducible refine x_op ?_
  refine ⟨_, rfl, ?_⟩
  refine ⟨_, rfl, ?_⟩
  obtain ⟨c3, hm⟩ := guardp hm
  refine ⟨_, _, _, _, rfl, rfl, ((((((g4.ex.trans ex1).trans ex2).trans ex3).trans ex4).trans G14.sub) _ _ fa4), ((((((g4.ex.trans ex1).trans ex2).trans ex3).trans ex4).trans G14.sub) _ _ fa4), szle (by rw [Rs_len (Rs_mono ((((g4.ex.trans ex1).trans ex2).trans ex3).trans ex4) fr3)]; exact c3), fun p7 np7 => ?_⟩
  have fr14 : Rs (α := Int) (F4) (us3 ++ us3) (x1 ++ x1) := Rs_app (Rs_mono ((((g4.ex.trans ex1).trans ex2).trans ex3).trans ex4) fr3) (Rs_mono ((((g4.ex.trans ex1).trans ex2).trans ex3).trans ex4) fr3)
  have g11 := Gr.newO (o := .lst (us3 ++ us3)) G14.sub np7
  have o7 := Ow.new (us := (us3 ++ us3)) G14 np7
  have G15 := G14.step g11
  have dk17 := dk16.step g11
  with_reducible refine x_lst ?_
  with_reducible refine x_cons ?_
  with_reducible refine x_c ?_
  refine ⟨szle (show 1 ≤ 16777216 from by decide), fun p8 np8 => ?_⟩
  have fr15 : Rs (α := Int) (F4) [(.int 0)] ([(0 : Int)] : (List Int)) := (Rs_cons (.int _) Rs_nil)
  have g12 := Gr.newO (o := .lst [(.int 0)]) G15.sub np8
  have o8 := Ow.new (us := [(.int 0)]) G15 np8
  have ne1 := o7.ne_new np8
  have G16 := G15.step g12
  have o9 := o7.step g12
  have dk18 := dk17.step g12
  obtain ⟨c4, hm⟩ := guardp hm
  refine ⟨_, _, _, _, rfl, rfl, o9.at_, o8.at_, szle (by rw [Rs_len fr14, Rs_len fr15]; exact c4), fun p9 np9 => ?_⟩
  have fr16 : Rs (α := Int) (F4) ((us3 ++ us3) ++ [(.int 0)]) ((x1 ++ x1) ++ ([(0 : Int)] : (List Int))) := Rs_app fr14 fr15
  have g13 := Gr.newO (o := .lst ((us3 ++ us3) ++ [(.int 0)])) G16.sub np9
  have o10 := Ow.new (us := ((us3 ++ us3) ++ [(.int 0)])) G16 np9
  have G17 := G16.step g13
  have dk19 := dk18.step g13
  obtain ⟨F5, G18, ex5, fa9, nf5⟩ := o10.frzE G17
  have fr17 := Rs_mono ex5 fr16
  have dk20 := dk19.frzN o10 ex5 nf5
  have d11 : R (α := PyData) (F5) (.ref p9) (PyData.list (((x1 ++ x1) ++ ([(0 : Int)] : (List Int))).map fun z => (PyData.int z))) := (mk_lst ((Sub.refl _) _ _ fa9) (Rs_mono (Sub.refl _) fr17))
  with_reducible refine x_cons ?_
  with_reducible refine x_cb ?_
  with_reducible refine x_cons ?_
  refine ⟨_, rfl, ?_⟩
  have fr18 := (Rs_mono (((((g4.ex.trans ex1).trans ex2).trans ex3).trans ex4).trans ex5) fr3)
  refine ⟨_, _, rfl, .inl ⟨.inl (.inl (((((((g4.ex.trans ex1).trans ex2).trans ex3).trans ex4).trans ex5).trans G18.sub) _ _ fa4)), fun p10 np10 => ?_⟩⟩
  obtain ⟨F6, g14, fa10⟩ := Gr.newE (o := .tup us3) G18.sub np10
  have G19 := G18.step g14
  have dk21 := dk20.step g14
  have d12 : R (α := PyData) (F6) (.ref p10) (PyData.tuple (x1.map fun z => (PyData.int z))) := .tup fa10 (Rs_mono g14.ex fr18)
  with_reducible refine x_cons ?_
  with_reducible refine x_c ?_
  have d13 : R (α := PyData) (F6) .non PyData.none := .non
  with_reducible refine x_cons ?_
  with_reducible refine x_c ?_
  have d14 : R (α := PyData) (F6) (.str ("" : Str)) (PyData.str ("" : Str)) := (.str _)
  with_reducible refine x_cons ?_
  refine fun p11 np11 => ?_
  obtain ⟨F7, g15, fa11⟩ := Gr.newE (o := .dK []) G19.sub np11
  have G20 := G19.step g15
  have dk22 := dk21.step g15
  have d15 : R (α := PyData) (F7) (.ref p11) (PyData.dict []) := .dic fa11 .nil
  refine ⟨szle (show 9 ≤ 16777216 from by decide), fun p12 np12 => ?_⟩
  have fr19 : Rs (α := PyData) (F7) [(.ref p2), (.ref p4), (.ref p5), (.ref p6), (.ref p9), (.ref p10), .non, (.str ("" : Str)), (.ref p11)] ([(PyData.list ((x1 ++ ([r3] : (List Int))).map fun z => (PyData.int z))), (PyData.list ((([r3] : (List Int)) ++ x1).map fun z => (PyData.int z))), (PyData.list (([r3] : (List Int)).map fun z => (PyData.int z))), (PyData.list (((x1).reverse).map fun z => (PyData.int z))), (PyData.list (((x1 ++ x1) ++ ([(0 : Int)] : (List Int))).map fun z => (PyData.int z))), (PyData.tuple (x1.map fun z => (PyData.int z))), PyData.none, (PyData.str ("" : Str)), (PyData.dict [])] : (List PyData)) := (Rs_cons (RD.mono (((((ex2.trans ex3).trans ex4).trans ex5).trans g14.ex).trans g15.ex) d7) (Rs_cons (RD.mono ((((ex3.trans ex4).trans ex5).trans g14.ex).trans g15.ex) d8) (Rs_cons (RD.mono (((ex4.trans ex5).trans g14.ex).trans g15.ex) d9) (Rs_cons (RD.mono ((ex5.trans g14.ex).trans g15.ex) d10) (Rs_cons (RD.mono (g14.ex.trans g15.ex) d11) (Rs_cons (RD.mono g15.ex d12) (Rs_cons (RD.mono g15.ex d13) (Rs_cons (RD.mono g15.ex d14) (Rs_cons (RD.mono (Sub.refl _) d15) Rs_nil)))))))))
  have g16 := Gr.newO (o := .lst [(.ref p2), (.ref p4), (.ref p5), (.ref p6), (.ref p9), (.ref p10), .non, (.str ("" : Str)), (.ref p11)]) G20.sub np12
  have o11 := Ow.new (us := [(.ref p2), (.ref p4), (.ref p5), (.ref p6), (.ref p9), (.ref p10), .non, (.str ("" : Str)), (.ref p11)]) G20 np12
  have G21 := G20.step g16
  have dk23 := dk22.step g16
  obtain ⟨F8, G22, ex6, fa12, nf6⟩ := o11.frzE G21
  have fr20 := Rs_mono ex6 fr19
  have dk24 := dk23.frzN o11 ex6 nf6
  obtain ⟨x2, hx2, hm⟩ := bindp hm
  replace hx2 := Option.some.inj hx2
  have fr21 : Rs (α := PyData) (F8) [(.ref p2), (.ref p4), (.ref p5), (.ref p6), (.ref p9), (.ref p10), .non, (.str ("" : Str)), (.ref p11)] x2 := by rw [← hx2]; exact (Rs_mono (Sub.refl _) fr20)
  have fa13 := (Sub.refl _) _ _ fa12
  clear hx2
  with_reducible refine x_gnE (σ' := ([some (.ref dk), some (.ref a1), some (.int (rule).1), some (.ref a2), some (.ref a3), some (.ref a4), some (.int r3), some (.ref p12)] : L2.St)) (by with_unfolding_all rfl) ?_
  with_reducible refine x_seq ?_
  with_reducible refine x_asg ?_
  with_reducible refine x_op ?_
  refine ⟨_, rfl, ?_⟩
  with_reducible refine x_lst ?_
  with_reducible refine x_cons ?_
  with_reducible refine x_op ?_
  with_reducible refine x_op ?_
  refine ⟨_, rfl, ?_⟩
  with_reducible refine x_lst ?_
  with_reducible refine x_cons ?_
  with_reducible refine x_lst ?_
  with_reducible refine x_cons ?_
  with_reducible refine x_c ?_
  refine ⟨szle (show 1 ≤ 16777216 from by decide), fun p13 np13 => ?_⟩
  have fr22 : Rs (α := Int) (F8) [(.int 0)] ([(0 : Int)] : (List Int)) := (Rs_cons (.int _) Rs_nil)
  have g17 := Gr.newO (o := .lst [(.int 0)]) G22.sub np13
  have o12 := Ow.new (us := [(.int 0)]) G22 np13
  have G23 := G22.step g17
  have dk25 := dk24.step g17
  obtain ⟨F9, G24, ex7, fa14, nf7⟩ := o12.frzE G23
  have fr23 := Rs_mono ex7 fr22
  have dk26 := dk25.frzN o12 ex7 nf7
  refine ⟨szle (show 1 ≤ 16777216 from by decide), fun p14 np14 => ?_⟩
  have fr24 : Rs (α := (List Int)) (F9) [(.ref p13)] ([([(0 : Int)] : (List Int))] : (List (List Int))) := (Rs_cons (mk_lst ((Sub.refl _) _ _ fa14) (Rs_mono (Sub.refl _) fr23)) Rs_nil)
  have g18 := Gr.newO (o := .lst [(.ref p13)]) G24.sub np14
  have o13 := Ow.new (us := [(.ref p13)]) G24 np14
  have G25 := G24.step g18
  have dk27 := dk26.step g18
  obtain ⟨c5, hm⟩ := guardp hm
  refine ⟨_, _, _, _, rfl, rfl, (((((((((((((g1.ex.trans g3.ex).trans g4.ex).trans ex1).trans ex2).trans ex3).trans ex4).trans ex5).trans g14.ex).trans g15.ex).trans ex6).trans ex7).trans G25.sub) _ _ fa2), o13.at_, szle (by rw [Rs_len (Rs_mono (((((((((((g1.ex.trans g3.ex).trans g4.ex).trans ex1).trans ex2).trans ex3).trans ex4).trans ex5).trans g14.ex).trans g15.ex).trans ex6).trans ex7) fr1), Rs_len fr24]; exact c5), fun p15 np15 => ?_⟩
  have fr25 : Rs (α := (List Int)) (F9) (us1 ++ [(.ref p13)]) ((rule).2 ++ ([([(0 : Int)] : (List Int))] : (List (List Int)))) := Rs_app (Rs_mono (((((((((((g1.ex.trans g3.ex).trans g4.ex).trans ex1).trans ex2).trans ex3).trans ex4).trans ex5).trans g14.ex).trans g15.ex).trans ex6).trans ex7) fr1) fr24
  have g19 := Gr.newO (o := .lst (us1 ++ [(.ref p13)])) G25.sub np15
  have o14 := Ow.new (us := (us1 ++ [(.ref p13)])) G25 np15
  have G26 := G25.step g19
  have dk28 := dk27.step g19
  with_reducible refine x_c ?_
  obtain ⟨x3, hx3, hm⟩ := bindp hm
  obtain ⟨v7, hu2, d16⟩ := Rs_at fr25 hx3
  refine ⟨_, _, _, _, rfl, rfl, .inl (.inl o14.at_), hu2, ?_⟩
  obtain ⟨a5, us4, rfl, fa15, fr26⟩ := lst_of d16
  have d17 : R (α := PyData) (F9) (.ref a5) (PyData.list (x3.map fun z => (PyData.int z))) := (mk_lst ((Sub.refl _) _ _ fa15) (Rs_mono (Sub.refl _) fr26))
  with_reducible refine x_cons ?_
  with_reducible refine x_op ?_
  with_reducible refine x_op ?_
  refine ⟨_, rfl, ?_⟩
  with_reducible refine x_lst ?_
  with_reducible refine x_cons ?_
  with_reducible refine x_lst ?_
  with_reducible refine x_cons ?_
  with_reducible refine x_c ?_
  refine ⟨szle (show 1 ≤ 16777216 from by decide), fun p16 np16 => ?_⟩
  have fr27 : Rs (α := Int) (F9) [(.int 1)] ([(1 : Int)] : (List Int)) := (Rs_cons (.int _) Rs_nil)
  have g20 := Gr.newO (o := .lst [(.int 1)]) G26.sub np16
  have o15 := Ow.new (us := [(.int 1)]) G26 np16
  have G27 := G26.step g20
  have dk29 := dk28.step g20
  obtain ⟨F10, G28, ex8, fa16, nf8⟩ := o15.frzE G27
  have fr28 := Rs_mono ex8 fr27
  have dk30 := dk29.frzN o15 ex8 nf8
  refine ⟨szle (show 1 ≤ 16777216 from by decide), fun p17 np17 => ?_⟩
  have fr29 : Rs (α := (List Int)) (F10) [(.ref p16)] ([([(1 : Int)] : (List Int))] : (List (List Int))) := (Rs_cons (mk_lst ((Sub.refl _) _ _ fa16) (Rs_mono (Sub.refl _) fr28)) Rs_nil)
  have g21 := Gr.newO (o := .lst [(.ref p16)]) G28.sub np17
  have o16 := Ow.new (us := [(.ref p16)]) G28 np17
  have G29 := G28.step g21
  have dk31 := dk30.step g21
  obtain ⟨c6, hm⟩ := guardp hm
  refine ⟨_, _, _, _, rfl, rfl, ((((((((((((((g1.ex.trans g3.ex).trans g4.ex).trans ex1).trans ex2).trans ex3).trans ex4).trans ex5).trans g14.ex).trans g15.ex).trans ex6).trans ex7).trans ex8).trans G29.sub) _ _ fa2), o16.at_, szle (by rw [Rs_len (Rs_mono ((((((((((((g1.ex.trans g3.ex).trans g4.ex).trans ex1).trans ex2).trans ex3).trans ex4).trans ex5).trans g14.ex).trans g15.ex).trans ex6).trans ex7).trans ex8) fr1), Rs_len fr29]; exact c6), fun p18 np18 => ?_⟩
  have fr30 : Rs (α := (List Int)) (F10) (us1 ++ [(.ref p16)]) ((rule).2 ++ ([([(1 : Int)] : (List Int))] : (List (List Int)))) := Rs_app (Rs_mono ((((((((((((g1.ex.trans g3.ex).trans g4.ex).trans ex1).trans ex2).trans ex3).trans ex4).trans ex5).trans g14.ex).trans g15.ex).trans ex6).trans ex7).trans ex8) fr1) fr29
  have g22 := Gr.newO (o := .lst (us1 ++ [(.ref p16)])) G29.sub np18
  have o17 := Ow.new (us := (us1 ++ [(.ref p16)])) G29 np18
  have G30 := G29.step g22
  have dk32 := dk31.step g22
  with_reducible refine x_un ?_
  with_reducible refine x_c ?_
  refine ⟨_, rfl, ?_⟩
  obtain ⟨x4, hx4, hm⟩ := bindp hm
  obtain ⟨v8, hu3, d18⟩ := Rs_at fr30 hx4
  refine ⟨_, _, _, _, rfl, rfl, .inl (.inl o17.at_), hu3, ?_⟩
  obtain ⟨a6, us5, rfl, fa17, fr31⟩ := lst_of d18
  have d19 : R (α := PyData) (F10) (.ref a6) (PyData.list (x4.map fun z => (PyData.int z))) := (mk_lst ((Sub.refl _) _ _ fa17) (Rs_mono (Sub.refl _) fr31))
  with_reducible refine x_cons ?_
  with_reducible refine x_c ?_
  have d20 : R (α := PyData) (F10) (.int 0) (PyData.int (0 : Int)) := (.int _)
  with_reducible refine x_cons ?_
  with_reducible refine x_c ?_
  have d21 : R (α := PyData) (F10) (.bl true) (PyData.bool true) := (.bl _)
  with_reducible refine x_cons ?_
  with_reducible refine x_lst ?_
  with_reducible refine x_cons ?_
  refine ⟨_, rfl, ?_⟩
  refine ⟨szle (show 1 ≤ 16777216 from by decide), fun p19 np19 => ?_⟩
  have fr32 : Rs (α := (List Int)) (F10) [(.ref a4)] ([x1] : (List (List Int))) := (Rs_cons (mk_lst (((((((((((g4.ex.trans ex1).trans ex2).trans ex3).trans ex4).trans ex5).trans g14.ex).trans g15.ex).trans ex6).trans ex7).trans ex8) _ _ fa4) (Rs_mono ((((((((((g4.ex.trans ex1).trans ex2).trans ex3).trans ex4).trans ex5).trans g14.ex).trans g15.ex).trans ex6).trans ex7).trans ex8) fr3)) Rs_nil)
  have g23 := Gr.newO (o := .lst [(.ref a4)]) G30.sub np19
  have o18 := Ow.new (us := [(.ref a4)]) G30 np19
  have G31 := G30.step g23
  have dk33 := dk32.step g23
  obtain ⟨F11, G32, ex9, fa18, nf9⟩ := o18.frzE G31
  have fr33 := Rs_mono ex9 fr32
  have dk34 := dk33.frzN o18 ex9 nf9
  have d22 : R (α := PyData) (F11) (.ref p19) (PyData.list (([x1] : (List (List Int))).map fun z => (PyData.list (z.map fun z => (PyData.int z))))) := (mk_lst ((Sub.refl _) _ _ fa18) (Rs_mono (Sub.refl _) fr33))
  with_reducible refine x_cons ?_
  with_reducible refine x_lst ?_
  with_reducible refine x_cons ?_
  with_reducible refine x_c ?_
  with_reducible refine x_cons ?_
  with_reducible refine x_c ?_
  with_reducible refine x_cons ?_
  with_reducible refine x_c ?_
  with_reducible refine x_cons ?_
  with_reducible refine x_c ?_
  refine ⟨szle (show 4 ≤ 16777216 from by decide), fun p20 np20 => ?_⟩
  have fr34 : Rs (α := Int) (F11) [(.int 0), (.int 0), (.int 0), (.int 0)] ([(0 : Int), (0 : Int), (0 : Int), (0 : Int)] : (List Int)) := (Rs_cons (.int _) (Rs_cons (.int _) (Rs_cons (.int _) (Rs_cons (.int _) Rs_nil))))
  have g24 := Gr.newO (o := .lst [(.int 0), (.int 0), (.int 0), (.int 0)]) G32.sub np20
  have o19 := Ow.new (us := [(.int 0), (.int 0), (.int 0), (.int 0)]) G32 np20
  have G33 := G32.step g24
  have dk35 := dk34.step g24
  obtain ⟨F12, G34, ex10, fa19, nf10⟩ := o19.frzE G33
  have fr35 := Rs_mono ex10 fr34
  have dk36 := dk35.frzN o19 ex10 nf10
  have d23 : R (α := PyData) (F12) (.ref p20) (PyData.list (([(0 : Int), (0 : Int), (0 : Int), (0 : Int)] : (List Int)).map fun z => (PyData.int z))) := (mk_lst ((Sub.refl _) _ _ fa19) (Rs_mono (Sub.refl _) fr35))
  with_reducible refine x_cons ?_
  with_reducible refine x_lst ?_
  with_reducible refine x_cons ?_
  refine ⟨_, rfl, ?_⟩
  refine ⟨szle (show 1 ≤ 16777216 from by decide), fun p21 np21 => ?_⟩
  have fr36 : Rs (α := Int) (F12) [(.int (rule).1)] ([(rule).1] : (List Int)) := (Rs_cons (.int _) Rs_nil)
  have g25 := Gr.newO (o := .lst [(.int (rule).1)]) G34.sub np21
  have o20 := Ow.new (us := [(.int (rule).1)]) G34 np21
  have G35 := G34.step g25
  have dk37 := dk36.step g25
  obtain ⟨F13, G36, ex11, fa20, nf11⟩ := o20.frzE G35
  have fr37 := Rs_mono ex11 fr36
  have dk38 := dk37.frzN o20 ex11 nf11
  have d24 : R (α := PyData) (F13) (.ref p21) (PyData.list (([(rule).1] : (List Int)).map fun z => (PyData.int z))) := (mk_lst ((Sub.refl _) _ _ fa20) (Rs_mono (Sub.refl _) fr37))
  with_reducible refine x_cons ?_
  with_reducible refine x_lst ?_
  with_reducible refine x_cons ?_
  with_reducible refine x_c ?_
  refine ⟨szle (show 1 ≤ 16777216 from by decide), fun p22 np22 => ?_⟩
  have fr38 : Rs (α := Bool) (F13) [(.bl true)] ([true] : (List Bool)) := (Rs_cons (.bl _) Rs_nil)
  have g26 := Gr.newO (o := .lst [(.bl true)]) G36.sub np22
  have o21 := Ow.new (us := [(.bl true)]) G36 np22
  have G37 := G36.step g26
  have dk39 := dk38.step g26
  obtain ⟨F14, G38, ex12, fa21, nf12⟩ := o21.frzE G37
  have fr39 := Rs_mono ex12 fr38
  have dk40 := dk39.frzN o21 ex12 nf12
  have d25 : R (α := PyData) (F14) (.ref p22) (PyData.list (([true] : (List Bool)).map fun z => (PyData.bool z))) := (mk_lst ((Sub.refl _) _ _ fa21) (Rs_mono (Sub.refl _) fr39))
  with_reducible refine x_cons ?_
  with_reducible refine x_lst ?_
  with_reducible refine x_cons ?_
  with_reducible refine x_c ?_
  refine ⟨szle (show 1 ≤ 16777216 from by decide), fun p23 np23 => ?_⟩
  have fr40 : Rs (α := Str) (F14) [(.str ("0" : Str))] ([("0" : Str)] : (List Str)) := (Rs_cons (.str _) Rs_nil)
  have g27 := Gr.newO (o := .lst [(.str ("0" : Str))]) G38.sub np23
  have o22 := Ow.new (us := [(.str ("0" : Str))]) G38 np23
  have G39 := G38.step g27
  have dk41 := dk40.step g27
  obtain ⟨F15, G40, ex13, fa22, nf13⟩ := o22.frzE G39
  have fr41 := Rs_mono ex13 fr40
  have dk42 := dk41.frzN o22 ex13 nf13
  have d26 : R (α := PyData) (F15) (.ref p23) (PyData.list (([("0" : Str)] : (List Str)).map fun z => (PyData.str z))) := (mk_lst ((Sub.refl _) _ _ fa22) (Rs_mono (Sub.refl _) fr41))
  refine ⟨szle (show 9 ≤ 16777216 from by decide), fun p24 np24 => ?_⟩
  have fr42 : Rs (α := PyData) (F15) [(.ref a5), (.ref a6), (.int 0), (.bl true), (.ref p19), (.ref p20), (.ref p21), (.ref p22), (.ref p23)] ([(PyData.list (x3.map fun z => (PyData.int z))), (PyData.list (x4.map fun z => (PyData.int z))), (PyData.int (0 : Int)), (PyData.bool true), (PyData.list (([x1] : (List (List Int))).map fun z => (PyData.list (z.map fun z => (PyData.int z))))), (PyData.list (([(0 : Int), (0 : Int), (0 : Int), (0 : Int)] : (List Int)).map fun z => (PyData.int z))), (PyData.list (([(rule).1] : (List Int)).map fun z => (PyData.int z))), (PyData.list (([true] : (List Bool)).map fun z => (PyData.bool z))), (PyData.list (([("0" : Str)] : (List Str)).map fun z => (PyData.str z)))] : (List PyData)) := (Rs_cons (RD.mono (((((ex8.trans ex9).trans ex10).trans ex11).trans ex12).trans ex13) d17) (Rs_cons (RD.mono ((((ex9.trans ex10).trans ex11).trans ex12).trans ex13) d19) (Rs_cons (RD.mono ((((ex9.trans ex10).trans ex11).trans ex12).trans ex13) d20) (Rs_cons (RD.mono ((((ex9.trans ex10).trans ex11).trans ex12).trans ex13) d21) (Rs_cons (RD.mono (((ex10.trans ex11).trans ex12).trans ex13) d22) (Rs_cons (RD.mono ((ex11.trans ex12).trans ex13) d23) (Rs_cons (RD.mono (ex12.trans ex13) d24) (Rs_cons (RD.mono ex13 d25) (Rs_cons (RD.mono (Sub.refl _) d26) Rs_nil)))))))))
  have g28 := Gr.newO (o := .lst [(.ref a5), (.ref a6), (.int 0), (.bl true), (.ref p19), (.ref p20), (.ref p21), (.ref p22), (.ref p23)]) G40.sub np24
  have o23 := Ow.new (us := [(.ref a5), (.ref a6), (.int 0), (.bl true), (.ref p19), (.ref p20), (.ref p21), (.ref p22), (.ref p23)]) G40 np24
  have G41 := G40.step g28
  have dk43 := dk42.step g28
  obtain ⟨c7, hm⟩ := guardp hm
  refine ⟨_, _, _, _, rfl, rfl, ((((((((ex7.trans ex8).trans ex9).trans ex10).trans ex11).trans ex12).trans ex13).trans G41.sub) _ _ fa13), o23.at_, szle (by rw [Rs_len (Rs_mono ((((((ex7.trans ex8).trans ex9).trans ex10).trans ex11).trans ex12).trans ex13) fr21), Rs_len fr42]; exact c7), fun p25 np25 => ?_⟩
  have fr43 : Rs (α := PyData) (F15) ([(.ref p2), (.ref p4), (.ref p5), (.ref p6), (.ref p9), (.ref p10), .non, (.str ("" : Str)), (.ref p11)] ++ [(.ref a5), (.ref a6), (.int 0), (.bl true), (.ref p19), (.ref p20), (.ref p21), (.ref p22), (.ref p23)]) (x2 ++ ([(PyData.list (x3.map fun z => (PyData.int z))), (PyData.list (x4.map fun z => (PyData.int z))), (PyData.int (0 : Int)), (PyData.bool true), (PyData.list (([x1] : (List (List Int))).map fun z => (PyData.list (z.map fun z => (PyData.int z))))), (PyData.list (([(0 : Int), (0 : Int), (0 : Int), (0 : Int)] : (List Int)).map fun z => (PyData.int z))), (PyData.list (([(rule).1] : (List Int)).map fun z => (PyData.int z))), (PyData.list (([true] : (List Bool)).map fun z => (PyData.bool z))), (PyData.list (([("0" : Str)] : (List Str)).map fun z => (PyData.str z)))] : (List PyData))) := Rs_app (Rs_mono ((((((ex7.trans ex8).trans ex9).trans ex10).trans ex11).trans ex12).trans ex13) fr21) fr42
  have g29 := Gr.newO (o := .lst ([(.ref p2), (.ref p4), (.ref p5), (.ref p6), (.ref p9), (.ref p10), .non, (.str ("" : Str)), (.ref p11)] ++ [(.ref a5), (.ref a6), (.int 0), (.bl true), (.ref p19), (.ref p20), (.ref p21), (.ref p22), (.ref p23)])) G41.sub np25
  have o24 := Ow.new (us := ([(.ref p2), (.ref p4), (.ref p5), (.ref p6), (.ref p9), (.ref p10), .non, (.str ("" : Str)), (.ref p11)] ++ [(.ref a5), (.ref a6), (.int 0), (.bl true), (.ref p19), (.ref p20), (.ref p21), (.ref p22), (.ref p23)])) G41 np25
  have G42 := G41.step g29
  have dk44 := dk43.step g29
  obtain ⟨F16, G43, ex14, fa23, nf14⟩ := o24.frzE G42
  have fr44 := Rs_mono ex14 fr43
  have dk45 := dk44.frzN o24 ex14 nf14
  obtain ⟨x5, hx5, hm⟩ := bindp hm
  replace hx5 := Option.some.inj hx5
  have fr45 : Rs (α := PyData) (F16) ([(.ref p2), (.ref p4), (.ref p5), (.ref p6), (.ref p9), (.ref p10), .non, (.str ("" : Str)), (.ref p11)] ++ [(.ref a5), (.ref a6), (.int 0), (.bl true), (.ref p19), (.ref p20), (.ref p21), (.ref p22), (.ref p23)]) x5 := by rw [← hx5]; exact (Rs_mono (Sub.refl _) fr44)
  have fa24 := (Sub.refl _) _ _ fa23
  clear hx5
  with_reducible refine x_gnE (σ' := ([some (.ref dk), some (.ref a1), some (.int (rule).1), some (.ref a2), some (.ref a3), some (.ref a4), some (.int r3), some (.ref p25)] : L2.St)) (by with_unfolding_all rfl) ?_
  with_reducible refine x_ret ?_
  with_reducible refine x_op ?_
  refine ⟨_, rfl, ?_⟩
  with_reducible refine x_call ?_
  with_reducible refine x_cons ?_
  refine ⟨_, rfl, ?_⟩
  with_reducible refine x_cons ?_
  with_reducible refine x_c ?_
  obtain ⟨⟨r4, st3⟩, hr4, hm⟩ := bindp hm
  refine ⟨_, _, _, _, _, (18 : Int), r4, st3, rfl, G43.sub, dk45.at_, dk45.nf, (.int _), hr4, fun N4 H5 v9 g30 dk46 d27 => ?_⟩
  have G44 := G43.trans g30
  have dk47 := dk45.stepA g30 dk46
  obtain rfl := int_of d27
  obtain ⟨x6, hx6, hm⟩ := bindp hm
  obtain ⟨v10, hu4, d28⟩ := Rs_at (Rs_mono g30.ex fr45) hx6
  refine ⟨_, _, _, _, rfl, rfl, .inl (.inl ((g30.ex.trans G44.sub) _ _ fa24)), hu4, ?_⟩
  obtain ⟨rfl, rfl⟩ := pairp hm
  exact q _ _ _ G44 dk47.at_ (RD.mono (Sub.refl _) d28)

abbrev N__law_odd_figures : List Str := ["deck", "base", "figures", "at", "odd", "some", "one"]
theorem sc__law_odd_figures : FnScope N__law_odd_figures ["deck", "base", "figures"] (defScope s__law_odd_figures) := ⟨rfl, rfl, rfl, by decide +kernel, rfl, by decide +kernel, by decide +kernel⟩
def sp__law_odd_figures : Sp := fun vs H Q _ => ∃ (F : Hp) (A : Addr → Prop) (dk : Addr) (st : DkS) (v_base : V) (v_figures : V) (base : Int) (figures : (List Int)) (r : PyData) (stR : DkS), vs = [.ref dk, v_base, v_figures] ∧ Sub F H ∧ Deck A H dk st ∧ (∀ a, A a → F a = none) ∧ R F v_base base ∧ R F v_figures figures ∧ _law_odd_figures st base figures = some (r, stR) ∧ ∀ N H2 v, Gr A F H N H2 → Deck A H2 dk stR → R N v r → Q v H2
theorem ok__law_odd_figures {P : Program} {w : World} {K : PySem.W.Frag} {mg : Str → Option Value} {base : Heap} (T : Txt K mg) : FnOk P w K mg base CX0 3 T.f__law_odd_figures.f T.f__law_odd_figures.fd ["deck", "base", "figures"] sp__law_odd_figures := by
  have nd := (sc__law_odd_figures).nd
  refine T.f__law_odd_figures.F.ok sc__law_odd_figures (fun vs H Q E h => ?_) (fun cdv A0 outer s H vs Q E hr h => ?_)
  · obtain ⟨_, _, _, _, _, _, _, _, _, _, rfl, _⟩ := h
    rfl
  obtain ⟨F0, A, dk, st, v_base, v_figures, base, figures, r, stR, rfl, s0, hdk, hnf, f_base, f_figures, hm, q⟩ := h
  have G0 : Gr A F0 H F0 H := Gr.refl s0
  have dk0 := DkAt.mk0 hdk hnf
  obtain rfl := int_of f_base
  obtain ⟨a1, us1, rfl, fa1, fr1⟩ := lst_of f_figures
  refine ⟨_, (pss_cons (ps_set (i := 3) nd rfl (by first | exact Or.inl rfl | exact Or.inr rfl) (pe_call (ok__law_draw T) (hr.mono (by decide)) (by rfl) T.f__law_draw.g T.f__law_draw.F.kp T.f__law_draw.b .nil pass0 (pa_cons (pv 0) (pa_cons (pe_op op_add (pe_callB (r := rLenT K) call_lenT (by rfl) T.z_len PySem.boot_len (pa_cons (pv 2) pa_nil)) pe_int) pa_nil)))) (pss_cons (ps_set (i := 4) nd rfl (by first | exact Or.inl rfl | exact Or.inr rfl) (pe_call (ok__law_odd_figure T) (hr.mono (by decide)) (by rfl) T.f__law_odd_figure.g T.f__law_odd_figure.F.kp T.f__law_odd_figure.b .nil pass0 (pa_cons (pv 0) (pa_cons (pv 1) pa_nil)))) (pss_cons (ps_set (i := 5) nd rfl (by first | exact Or.inl rfl | exact Or.inr rfl) (pe_lst (pa_cons (pe_op op_cat (pe_op op_cat (pe_slice (r := rSlL K) sl_list (pv 2) po_none (po_some (pv 3))) (pe_lst (pa_cons (pv 4) pa_nil))) (pe_slice (r := rSlL K) sl_list (pv 2) (po_some (pv 3)) po_none)) (pa_cons (pe_op op_cat (pe_op op_cat (pe_slice (r := rSlL K) sl_list (pv 2) po_none (po_some (pv 3))) (pe_lst (pa_cons (pv 4) pa_nil))) (pe_slice (r := rSlL K) sl_list (pv 2) (po_some (pe_op op_add (pv 3) pe_int)) po_none)) (pa_cons (pe_op op_cat (pv 2) (pe_lst (pa_cons (pv 4) pa_nil))) pa_nil))))) (pss_cons (ps_set (i := 5) nd rfl (by first | exact Or.inl rfl | exact Or.inr rfl) (pe_op op_cat (pv 5) (pe_lst (pa_cons (pe_callTy (r := rTupL K) call_tupL (by rfl) T.z_tuple (by decide +kernel) (pa_cons (pv 2) pa_nil)) (pa_cons pe_non (pa_cons pe_int (pa_cons pe_str (pa_cons pe_str (pa_cons pe_dnewK (pa_cons (pe_lst (pa_cons (pv 2) pa_nil)) (pa_cons pe_bl (pa_cons (pe_callTy (call_dictP (by rfl)) (by rfl) T.z_dict (by decide +kernel) (pa_cons (pe_lc (own := [("one", 6)]) (g := (gName 6)) rfl nd (pi_list (pv 2)) (blkOk_by (own := [("one", 6)]) (N := N__law_odd_figures) (sc := defScope s__law_odd_figures) (by decide +kernel)) (fun _ _ _ _ _ => pg_name (i := 6) nd rfl (Or.inl rfl)) (fun _ _ _ _ _ => pts_nil) (fun _ _ _ _ _ => (pe_tup (pa_cons (pv 6) (pa_cons pe_int pa_nil))))) pa_nil)) pa_nil)))))))))))) (pss_one (ps_ret (pe_ix (r := rIxL K) ix_list (pv 5) (pe_ix (r := rIxL K) ix_list (pe_lst (pa_cons pe_int (pa_cons pe_int (pa_cons pe_int (pa_cons pe_int (pa_cons pe_int (pa_cons pe_int (pa_cons pe_int (pa_cons pe_int (pa_cons pe_int (pa_cons pe_int (pa_cons pe_int (pa_cons pe_int (pa_cons pe_int (pa_cons pe_int (pa_cons pe_int (pa_cons pe_int (pa_cons pe_int pa_nil)))))))))))))))))) (pe_call (ok__law_draw T) (hr.mono (by decide)) (by rfl) T.f__law_draw.g T.f__law_draw.F.kp T.f__law_draw.b .nil pass0 (pa_cons (pv 0) (pa_cons pe_int pa_nil))) (fun _ _ => rfl)) (fun _ _ => rfl)))))))), ?_⟩
  refine x_start (σ' := ([some (.ref dk), some (.int base), some (.ref a1), none, none, none, none] : L2.St)) (by with_unfolding_all rfl) ?_
  rw [_law_odd_figures] at hm
  with_reducible refine x_seq ?_
  with_reducible refine x_asg ?_
  with_reducible refine x_call ?_
  with_reducible refine x_cons ?_
  refine ⟨_, rfl, ?_⟩
  with_reducible refine x_cons ?_
  refine useEv (.int ((figures.length : Int) + (1 : Int))) (by exact (Evl.ev_op (ev_lenT (Evl.ev_var rfl) (G0.sub _ _ fa1) (Rs_mono (Sub.refl _) fr1)) Evl.ev_c Evl.rv_I0)) (fun H1 e1 => ?_)
  have g1 := gr_ex G0.sub e1
  have G1 := G0.step g1
  have dk1 := dk0.step g1
  obtain ⟨⟨r1, st1⟩, hr1, hm⟩ := bindp hm
  refine ⟨_, _, _, _, _, ((figures.length : Int) + (1 : Int)), r1, st1, rfl, G1.sub, dk1.at_, dk1.nf, (.int _), hr1, fun N1 H2 v1 g2 dk2 d1 => ?_⟩
  have G2 := G1.trans g2
  have dk3 := dk1.stepA g2 dk2
  obtain rfl := int_of d1
  with_reducible refine x_gnE (σ' := ([some (.ref dk), some (.int base), some (.ref a1), some (.int r1), none, none, none] : L2.St)) (by with_unfolding_all rfl) ?_
  with_reducible refine x_seq ?_
  with_reducible refine x_asg ?_
  with_reducible refine x_call ?_
  with_reducible refine x_cons ?_
  refine ⟨_, rfl, ?_⟩
  with_reducible refine x_cons ?_
  refine ⟨_, rfl, ?_⟩
  obtain ⟨⟨r2, st2⟩, hr2, hm⟩ := bindp hm
  refine ⟨_, _, _, _, _, base, r2, st2, rfl, G2.sub, dk3.at_, dk3.nf, (.int _), hr2, fun N2 H3 v2 g3 dk4 d2 => ?_⟩
  have G3 := G2.trans g3
  have dk5 := dk3.stepA g3 dk4
  with_reducible refine x_gnE (σ' := ([some (.ref dk), some (.int base), some (.ref a1), some (.int r1), some v2, none, none] : L2.St)) (by with_unfolding_all rfl) ?_
  with_reducible refine x_seq ?_
  with_reducible refine x_asg ?_
  with_reducible refine x_lst ?_
  with_reducible refine x_cons ?_
  with_reducible refine x_op ?_
  with_reducible refine x_op ?_
  with_reducible refine x_sl ?_
  refine ⟨_, rfl, ?_⟩
  with_reducible refine x_nopart ?_
  with_reducible refine x_part ?_
  refine ⟨_, rfl, ?_⟩
  refine ⟨_, rfl, ?_⟩
  refine ⟨_, _, rfl, .inl (.inl (((g2.ex.trans g3.ex).trans G3.sub) _ _ fa1)), fun p1 np1 => ?_⟩
  have fr2 : Rs (α := Int) (N2) (cutV us1 none (some r1)) (cutT figures none (some r1)) := Rs_cut (Rs_mono (g2.ex.trans g3.ex) fr1)
  have g4 := Gr.newO (o := .lst (cutV us1 none (some r1))) G3.sub np1
  have o1 := Ow.new (us := (cutV us1 none (some r1))) G3 np1
  have G4 := G3.step g4
  have dk6 := dk5.step g4
  with_reducible refine x_lst ?_
  with_reducible refine x_cons ?_
  refine ⟨_, rfl, ?_⟩
  refine ⟨szle (show 1 ≤ 16777216 from by decide), fun p2 np2 => ?_⟩
  have fr3 : Rs (α := PyData) (N2) [v2] ([r2] : (List PyData)) := (Rs_cons (RD.mono (Sub.refl _) d2) Rs_nil)
  have g5 := Gr.newO (o := .lst [v2]) G4.sub np2
  have o2 := Ow.new (us := [v2]) G4 np2
  have ne1 := o1.ne_new np2
  have G5 := G4.step g5
  have o3 := o1.step g5
  have dk7 := dk6.step g5
  obtain ⟨c1, hm⟩ := guardp hm
  refine ⟨_, _, _, _, rfl, rfl, o3.at_, o2.at_, szle (by rw [Rs_len (Rs_any fr2), Rs_len fr3]; exact c1), fun p3 np3 => ?_⟩
  have fr4 : Rs (α := PyData) (N2) ((cutV us1 none (some r1)) ++ [v2]) (((cutT figures none (some r1)).map fun z => (PyData.int z)) ++ ([r2] : (List PyData))) := Rs_app (Rs_any fr2) fr3
  have g6 := Gr.newO (o := .lst ((cutV us1 none (some r1)) ++ [v2])) G5.sub np3
  have o4 := Ow.new (us := ((cutV us1 none (some r1)) ++ [v2])) G5 np3
  have G6 := G5.step g6
  have dk8 := dk7.step g6
  with_reducible refine x_sl ?_
  refine ⟨_, rfl, ?_⟩
  with_reducible refine x_part ?_
  refine ⟨_, rfl, ?_⟩
  refine ⟨_, rfl, ?_⟩
  with_reducible refine x_nopart ?_
  refine ⟨_, _, rfl, .inl (.inl (((g2.ex.trans g3.ex).trans G6.sub) _ _ fa1)), fun p4 np4 => ?_⟩
  have fr5 : Rs (α := Int) (N2) (cutV us1 (some r1) none) (cutT figures (some r1) none) := Rs_cut (Rs_mono (g2.ex.trans g3.ex) fr1)
  have g7 := Gr.newO (o := .lst (cutV us1 (some r1) none)) G6.sub np4
  have o5 := Ow.new (us := (cutV us1 (some r1) none)) G6 np4
  have ne2 := o4.ne_new np4
  have G7 := G6.step g7
  have o6 := o4.step g7
  have dk9 := dk8.step g7
  obtain ⟨c2, hm⟩ := guardp hm
  refine ⟨_, _, _, _, rfl, rfl, o6.at_, o5.at_, szle (by rw [Rs_len fr4, Rs_len (Rs_any fr5)]; exact c2), fun p5 np5 => ?_⟩
  have fr6 : Rs (α := PyData) (N2) (((cutV us1 none (some r1)) ++ [v2]) ++ (cutV us1 (some r1) none)) ((((cutT figures none (some r1)).map fun z => (PyData.int z)) ++ ([r2] : (List PyData))) ++ ((cutT figures (some r1) none).map fun z => (PyData.int z))) := Rs_app fr4 (Rs_any fr5)
  have g8 := Gr.newO (o := .lst (((cutV us1 none (some r1)) ++ [v2]) ++ (cutV us1 (some r1) none))) G7.sub np5
  have o7 := Ow.new (us := (((cutV us1 none (some r1)) ++ [v2]) ++ (cutV us1 (some r1) none))) G7 np5
  have G8 := G7.step g8
  have dk10 := dk9.step g8
  obtain ⟨F1, G9, ex1, fa2, nf1⟩ := o7.frzE G8
  have fr7 := Rs_mono ex1 fr6
  have dk11 := dk10.frzN o7 ex1 nf1
  with_reducible refine x_cons ?_
  with_reducible refine x_op ?_
  with_reducible refine x_op ?_
  with_reducible refine x_sl ?_
  refine ⟨_, rfl, ?_⟩
  with_reducible refine x_nopart ?_
  with_reducible refine x_part ?_
  refine ⟨_, rfl, ?_⟩
  refine ⟨_, rfl, ?_⟩
  refine ⟨_, _, rfl, .inl (.inl ((((g2.ex.trans g3.ex).trans ex1).trans G9.sub) _ _ fa1)), fun p6 np6 => ?_⟩
  have fr8 : Rs (α := Int) (F1) (cutV us1 none (some r1)) (cutT figures none (some r1)) := Rs_cut (Rs_mono ((g2.ex.trans g3.ex).trans ex1) fr1)
  have g9 := Gr.newO (o := .lst (cutV us1 none (some r1))) G9.sub np6
  have o8 := Ow.new (us := (cutV us1 none (some r1))) G9 np6
  have G10 := G9.step g9
  have dk12 := dk11.step g9
  with_reducible refine x_lst ?_
  with_reducible refine x_cons ?_
  refine ⟨_, rfl, ?_⟩
  refine ⟨szle (show 1 ≤ 16777216 from by decide), fun p7 np7 => ?_⟩
  have fr9 : Rs (α := PyData) (F1) [v2] ([r2] : (List PyData)) := (Rs_cons (RD.mono ex1 d2) Rs_nil)
  have g10 := Gr.newO (o := .lst [v2]) G10.sub np7
  have o9 := Ow.new (us := [v2]) G10 np7
  have ne3 := o8.ne_new np7
  have G11 := G10.step g10
  have o10 := o8.step g10
  have dk13 := dk12.step g10
  obtain ⟨c3, hm⟩ := guardp hm
  refine ⟨_, _, _, _, rfl, rfl, o10.at_, o9.at_, szle (by rw [Rs_len (Rs_any fr8), Rs_len fr9]; exact c3), fun p8 np8 => ?_⟩
  have fr10 : Rs (α := PyData) (F1) ((cutV us1 none (some r1)) ++ [v2]) (((cutT figures none (some r1)).map fun z => (PyData.int z)) ++ ([r2] : (List PyData))) := Rs_app (Rs_any fr8) fr9
  have g11 := Gr.newO (o := .lst ((cutV us1 none (some r1)) ++ [v2])) G11.sub np8
  have o11 := Ow.new (us := ((cutV us1 none (some r1)) ++ [v2])) G11 np8
  have G12 := G11.step g11
  have dk14 := dk13.step g11
  with_reducible refine x_sl ?_
  refine ⟨_, rfl, ?_⟩
  with_reducible refine x_part ?_
  refine useEv (.int (r1 + (1 : Int))) (by exact (Evl.ev_op (Evl.ev_var rfl) Evl.ev_c Evl.rv_I0)) (fun H4 e2 => ?_)
  have g12 := gr_ex G12.sub e2
  have G13 := G12.step g12
  have o12 := o11.step g12
  have dk15 := dk14.step g12
  refine ⟨_, rfl, ?_⟩
  with_reducible refine x_nopart ?_
  refine ⟨_, _, rfl, .inl (.inl ((((g2.ex.trans g3.ex).trans ex1).trans G13.sub) _ _ fa1)), fun p9 np9 => ?_⟩
  have fr11 : Rs (α := Int) (F1) (cutV us1 (some (r1 + (1 : Int))) none) (cutT figures (some (r1 + (1 : Int))) none) := Rs_cut (Rs_mono ((g2.ex.trans g3.ex).trans ex1) fr1)
  have g13 := Gr.newO (o := .lst (cutV us1 (some (r1 + (1 : Int))) none)) G13.sub np9
  have o13 := Ow.new (us := (cutV us1 (some (r1 + (1 : Int))) none)) G13 np9
  have ne4 := o12.ne_new np9
  have G14 := G13.step g13
  have o14 := o12.step g13
  have dk16 := dk15.step g13
  obtain ⟨c4, hm⟩ := guardp hm
  refine ⟨_, _, _, _, rfl, rfl, o14.at_, o13.at_, szle (by rw [Rs_len fr10, Rs_len (Rs_any fr11)]; exact c4), fun p10 np10 => ?_⟩
  have fr12 : Rs (α := PyData) (F1) (((cutV us1 none (some r1)) ++ [v2]) ++ (cutV us1 (some (r1 + (1 : Int))) none)) ((((cutT figures none (some r1)).map fun z => (PyData.int z)) ++ ([r2] : (List PyData))) ++ ((cutT figures (some (r1 + (1 : Int))) none).map fun z => (PyData.int z))) := Rs_app fr10 (Rs_any fr11)
  have g14 := Gr.newO (o := .lst (((cutV us1 none (some r1)) ++ [v2]) ++ (cutV us1 (some (r1 + (1 : Int))) none))) G14.sub np10
  have o15 := Ow.new (us := (((cutV us1 none (some r1)) ++ [v2]) ++ (cutV us1 (some (r1 + (1 : Int))) none))) G14 np10
  have G15 := G14.step g14
  have dk17 := dk16.step g14
  obtain ⟨F2, G16, ex2, fa3, nf2⟩ := o15.frzE G15
  have fr13 := Rs_mono ex2 fr12
  have dk18 := dk17.frzN o15 ex2 nf2
  with_reducible refine x_cons ?_
  with_reducible refine x_op ?_
  refine ⟨_, rfl, ?_⟩
  with_reducible refine x_lst ?_
  with_reducible refine x_cons ?_
  refine ⟨_, rfl, ?_⟩
  refine ⟨szle (show 1 ≤ 16777216 from by decide), fun p11 np11 => ?_⟩
  have fr14 : Rs (α := PyData) (F2) [v2] ([r2] : (List PyData)) := (Rs_cons (RD.mono (ex1.trans ex2) d2) Rs_nil)
  have g15 := Gr.newO (o := .lst [v2]) G16.sub np11
  have o16 := Ow.new (us := [v2]) G16 np11
  have G17 := G16.step g15
  have dk19 := dk18.step g15
  obtain ⟨c5, hm⟩ := guardp hm
  refine ⟨_, _, _, _, rfl, rfl, (((((g2.ex.trans g3.ex).trans ex1).trans ex2).trans G17.sub) _ _ fa1), o16.at_, szle (by rw [Rs_len (Rs_any (Rs_mono (((g2.ex.trans g3.ex).trans ex1).trans ex2) fr1)), Rs_len fr14]; exact c5), fun p12 np12 => ?_⟩
  have fr15 : Rs (α := PyData) (F2) (us1 ++ [v2]) ((figures.map fun z => (PyData.int z)) ++ ([r2] : (List PyData))) := Rs_app (Rs_any (Rs_mono (((g2.ex.trans g3.ex).trans ex1).trans ex2) fr1)) fr14
  have g16 := Gr.newO (o := .lst (us1 ++ [v2])) G17.sub np12
  have o17 := Ow.new (us := (us1 ++ [v2])) G17 np12
  have G18 := G17.step g16
  have dk20 := dk19.step g16
  obtain ⟨F3, G19, ex3, fa4, nf3⟩ := o17.frzE G18
  have fr16 := Rs_mono ex3 fr15
  have dk21 := dk20.frzN o17 ex3 nf3
  refine ⟨szle (show 3 ≤ 16777216 from by decide), fun p13 np13 => ?_⟩
  have fr17 : Rs (α := (List PyData)) (F3) [(.ref p5), (.ref p10), (.ref p12)] ([((((cutT figures none (some r1)).map fun z => (PyData.int z)) ++ ([r2] : (List PyData))) ++ ((cutT figures (some r1) none).map fun z => (PyData.int z))), ((((cutT figures none (some r1)).map fun z => (PyData.int z)) ++ ([r2] : (List PyData))) ++ ((cutT figures (some (r1 + (1 : Int))) none).map fun z => (PyData.int z))), ((figures.map fun z => (PyData.int z)) ++ ([r2] : (List PyData)))] : (List (List PyData))) := (Rs_cons (mk_lst ((ex2.trans ex3) _ _ fa2) (Rs_mono (ex2.trans ex3) fr7)) (Rs_cons (mk_lst (ex3 _ _ fa3) (Rs_mono ex3 fr13)) (Rs_cons (mk_lst ((Sub.refl _) _ _ fa4) (Rs_mono (Sub.refl _) fr16)) Rs_nil)))
  have g17 := Gr.newO (o := .lst [(.ref p5), (.ref p10), (.ref p12)]) G19.sub np13
  have o18 := Ow.new (us := [(.ref p5), (.ref p10), (.ref p12)]) G19 np13
  have G20 := G19.step g17
  have dk22 := dk21.step g17
  obtain ⟨F4, G21, ex4, fa5, nf4⟩ := o18.frzE G20
  have fr18 := Rs_mono ex4 fr17
  have dk23 := dk22.frzN o18 ex4 nf4
  obtain ⟨x1, hx1, hm⟩ := bindp hm
  replace hx1 := Option.some.inj hx1
  have fr19 : Rs (α := (List PyData)) (F4) [(.ref p5), (.ref p10), (.ref p12)] x1 := by rw [← hx1]; exact (Rs_mono (Sub.refl _) fr18)
  have fa6 := (Sub.refl _) _ _ fa5
  clear hx1
  with_reducible refine x_gnE (σ' := ([some (.ref dk), some (.int base), some (.ref a1), some (.int r1), some v2, some (.ref p13), none] : L2.St)) (by with_unfolding_all rfl) ?_
  with_reducible refine x_seq ?_
  with_reducible refine x_asg ?_
  with_reducible refine x_op ?_
  refine ⟨_, rfl, ?_⟩
  with_reducible refine x_lst ?_
  with_reducible refine x_cons ?_
  with_reducible refine x_cb ?_
  with_reducible refine x_cons ?_
  refine ⟨_, rfl, ?_⟩
  have fr20 := (Rs_mono (((((g2.ex.trans g3.ex).trans ex1).trans ex2).trans ex3).trans ex4) fr1)
  refine ⟨_, _, rfl, .inl ⟨.inl (.inl (((((((g2.ex.trans g3.ex).trans ex1).trans ex2).trans ex3).trans ex4).trans G21.sub) _ _ fa1)), fun p14 np14 => ?_⟩⟩
  obtain ⟨F5, g18, fa7⟩ := Gr.newE (o := .tup us1) G21.sub np14
  have G22 := G21.step g18
  have dk24 := dk23.step g18
  have d3 : R (α := PyData) (F5) (.ref p14) (PyData.tuple (figures.map fun z => (PyData.int z))) := .tup fa7 (Rs_mono g18.ex fr20)
  with_reducible refine x_cons ?_
  with_reducible refine x_c ?_
  have d4 : R (α := PyData) (F5) .non PyData.none := .non
  with_reducible refine x_cons ?_
  with_reducible refine x_c ?_
  have d5 : R (α := PyData) (F5) (.int 0) (PyData.int (0 : Int)) := (.int _)
  with_reducible refine x_cons ?_
  with_reducible refine x_c ?_
  have d6 : R (α := PyData) (F5) (.str ("10" : Str)) (PyData.str ("10" : Str)) := (.str _)
  with_reducible refine x_cons ?_
  with_reducible refine x_c ?_
  have d7 : R (α := PyData) (F5) (.str ("" : Str)) (PyData.str ("" : Str)) := (.str _)
  with_reducible refine x_cons ?_
  refine fun p15 np15 => ?_
  obtain ⟨F6, g19, fa8⟩ := Gr.newE (o := .dK []) G22.sub np15
  have G23 := G22.step g19
  have dk25 := dk24.step g19
  have d8 : R (α := PyData) (F6) (.ref p15) (PyData.dict []) := .dic fa8 .nil
  with_reducible refine x_cons ?_
  with_reducible refine x_lst ?_
  with_reducible refine x_cons ?_
  refine ⟨_, rfl, ?_⟩
  refine ⟨szle (show 1 ≤ 16777216 from by decide), fun p16 np16 => ?_⟩
  have fr21 : Rs (α := (List Int)) (F6) [(.ref a1)] ([figures] : (List (List Int))) := (Rs_cons (mk_lst ((((((((g2.ex.trans g3.ex).trans ex1).trans ex2).trans ex3).trans ex4).trans g18.ex).trans g19.ex) _ _ fa1) (Rs_mono (((((((g2.ex.trans g3.ex).trans ex1).trans ex2).trans ex3).trans ex4).trans g18.ex).trans g19.ex) fr1)) Rs_nil)
  have g20 := Gr.newO (o := .lst [(.ref a1)]) G23.sub np16
  have o19 := Ow.new (us := [(.ref a1)]) G23 np16
  have G24 := G23.step g20
  have dk26 := dk25.step g20
  obtain ⟨F7, G25, ex5, fa9, nf5⟩ := o19.frzE G24
  have fr22 := Rs_mono ex5 fr21
  have dk27 := dk26.frzN o19 ex5 nf5
  have d9 : R (α := PyData) (F7) (.ref p16) (PyData.list (([figures] : (List (List Int))).map fun z => (PyData.list (z.map fun z => (PyData.int z))))) := (mk_lst ((Sub.refl _) _ _ fa9) (Rs_mono (Sub.refl _) fr22))
  with_reducible refine x_cons ?_
  with_reducible refine x_c ?_
  have d10 : R (α := PyData) (F7) (.bl true) (PyData.bool true) := (.bl _)
  with_reducible refine x_cons ?_
  with_reducible refine x_cb ?_
  with_reducible refine x_cons ?_
  with_reducible refine x_lc ?_
  with_reducible refine x_iter ?_
  refine ⟨_, rfl, ?_⟩
  refine ⟨_, rfl, ⟨_, .inl (.inl ((((((((((g2.ex.trans g3.ex).trans ex1).trans ex2).trans ex3).trans ex4).trans g18.ex).trans g19.ex).trans ex5).trans G25.sub) _ _ fa1))⟩, fun p17 np17 => ?_⟩
  have g21 := Gr.newO (o := .lst []) G25.sub np17
  have o20 := Ow.new (us := []) G25 np17
  have G26 := G25.step g21
  have dk28 := dk27.step g21
  refine lc_lst (α := Int) (fun (ts1 : List Int) H5 => ∃ (F8 : Hp) (st3 : DkS) (x3 : List (Int × Int)) (us3 : List V), forK (_law_odd_figures_c1) ts1 (x3, st3) (_law_odd_figures_k2 x1 figures) = some (r, stR) ∧ Sub (F7) F8 ∧ Gr A F0 H F8 H5 ∧ Ow H F8 H5 p17 us3 ∧ Rs F8 us3 x3 ∧ DkAt A H F8 H5 dk st3) (Rs_mono ((((((((g2.ex.trans g3.ex).trans ex1).trans ex2).trans ex3).trans ex4).trans g18.ex).trans g19.ex).trans ex5) fr1) ⟨F7, _, ([] : List (Int × Int)), _, hm, (Sub.refl _), G26, o20, Rs_nil, dk28⟩ (fun _ _ h => ?_) (fun t1 ts2 v3 H1 hv1 hW => ?_) (fun H1 hW => ?_)
  · obtain ⟨F9, _, _, _, _, s9, G9, _⟩ := h
    exact G9.sub _ _ (s9 _ _ (((((((((g2.ex.trans g3.ex).trans ex1).trans ex2).trans ex3).trans ex4).trans g18.ex).trans g19.ex).trans ex5) _ _ fa1))
  · skip
    obtain ⟨F8, st3, x3, us3, hm, s1, G27, o21, fr23, dk29⟩ := hW
    obtain ⟨next1, hnx1⟩ : ∃ nx, nx = fun s => forK (_law_odd_figures_c1) ts2 s (_law_odd_figures_k2 x1 figures) := ⟨_, rfl⟩
    have hm : (_law_odd_figures_c1) (x3, st3) t1 next1 = some (r, stR) := by rw [hnx1]; exact forK_c hm
    rw [_law_odd_figures_c1] at hm
    obtain rfl := int_of hv1
    with_reducible refine x_gnE (σ' := ([some (.ref dk), some (.int base), some (.ref a1), some (.int r1), some v2, some (.ref p13), some (.int t1)] : L2.St)) (by with_unfolding_all rfl) ?_
    refine ⟨rfl, ?_⟩
    with_reducible refine x_yes ?_
    refine iteT ?_
    with_reducible refine x_tup ?_
    with_reducible refine x_cons ?_
    refine ⟨_, rfl, ?_⟩
    with_reducible refine x_cons ?_
    with_reducible refine x_c ?_
    refine ⟨szle (show 2 ≤ 16777216 from by decide), fun p18 np18 => ?_⟩
    obtain ⟨F9, g22, fa10⟩ := Gr.newE (o := .tup [(.int t1), (.int 1)]) G27.sub np18
    have G28 := G27.step g22
    have o22 := o21.step g22
    have dk30 := dk29.step g22
    obtain ⟨c6, hm⟩ := guardp hm
    have G29 := o22.mutG (o := .lst (us3 ++ [(.ref p18)])) G28
    have o23 := o22.mut (ws := us3 ++ [(.ref p18)])
    have fr24 : Rs (α := (Int × Int)) (F9) (us3 ++ [(.ref p18)]) (x3 ++ [(t1, (1 : Int))]) := Rs_snoc (Rs_mono g22.ex fr23) (mk_tup2 ((Sub.refl _) _ _ fa10) (.int _) (.int _))
    have dk31 := dk30.mut (ws := us3 ++ [(.ref p18)]) o22
    rw [hnx1] at hm
    exact ⟨_, o22.at_, szl (by rw [Rs_len (Rs_mono g22.ex fr23)]; exact c6), ⟨F9, _, (x3 ++ [(t1, (1 : Int))]), _, hm, (s1.trans g22.ex), G29, o23, fr24, dk31⟩⟩
  · skip
    obtain ⟨F8, st3, x3, us3, hm, s2, G30, o24, fr25, dk32⟩ := hW
    have hm : (_law_odd_figures_k2 x1 figures) (x3, st3) = some (r, stR) := forK_n hm
    rw [_law_odd_figures_k2] at hm
    with_reducible refine x_nil ?_
    obtain ⟨ps1, e91, hp1⟩ := pairs_of (K := K) (xs := x3) G30.sub fr25
    have at1 := o24.at_
    rw [e91] at at1
    refine ⟨_, ps1, _, rfl, .inl (.inl at1), hp1, fun p19 np19 => ?_⟩
    obtain ⟨F10, g23, fa11⟩ := Gr.newE (o := .dK (mergeK [] ((x3).map kvI))) G30.sub np19
    rw [mergeK_nil] at fa11
    have G31 := G30.step g23
    have o25 := o24.step g23
    have dk33 := dk32.step g23
    have d11 : R (α := PyData) (F10) (.ref p19) (dictII x3) := .dic fa11 (RKs_kvI _)
    refine ⟨szle (show 9 ≤ 16777216 from by decide), fun p20 np20 => ?_⟩
    have fr26 : Rs (α := PyData) (F10) [(.ref p14), .non, (.int 0), (.str ("10" : Str)), (.str ("" : Str)), (.ref p15), (.ref p16), (.bl true), (.ref p19)] ([(PyData.tuple (figures.map fun z => (PyData.int z))), PyData.none, (PyData.int (0 : Int)), (PyData.str ("10" : Str)), (PyData.str ("" : Str)), (PyData.dict []), (PyData.list (([figures] : (List (List Int))).map fun z => (PyData.list (z.map fun z => (PyData.int z))))), (PyData.bool true), (dictII x3)] : (List PyData)) := (Rs_cons (RD.mono (((g19.ex.trans ex5).trans s2).trans g23.ex) d3) (Rs_cons (RD.mono (((g19.ex.trans ex5).trans s2).trans g23.ex) d4) (Rs_cons (RD.mono (((g19.ex.trans ex5).trans s2).trans g23.ex) d5) (Rs_cons (RD.mono (((g19.ex.trans ex5).trans s2).trans g23.ex) d6) (Rs_cons (RD.mono (((g19.ex.trans ex5).trans s2).trans g23.ex) d7) (Rs_cons (RD.mono ((ex5.trans s2).trans g23.ex) d8) (Rs_cons (RD.mono (s2.trans g23.ex) d9) (Rs_cons (RD.mono (s2.trans g23.ex) d10) (Rs_cons (RD.mono (Sub.refl _) d11) Rs_nil)))))))))
    have g24 := Gr.newO (o := .lst [(.ref p14), .non, (.int 0), (.str ("10" : Str)), (.str ("" : Str)), (.ref p15), (.ref p16), (.bl true), (.ref p19)]) G31.sub np20
    have o26 := Ow.new (us := [(.ref p14), .non, (.int 0), (.str ("10" : Str)), (.str ("" : Str)), (.ref p15), (.ref p16), (.bl true), (.ref p19)]) G31 np20
    have ne5 := o25.ne_new np20
    have G32 := G31.step g24
    have o27 := o25.step g24
    have dk34 := dk33.step g24
    obtain ⟨c7, hm⟩ := guardp hm
    refine ⟨_, _, _, _, rfl, rfl, ((((((g18.ex.trans g19.ex).trans ex5).trans s2).trans g23.ex).trans G32.sub) _ _ fa6), o26.at_, szle (by rw [Rs_len (Rs_anyL (Rs_mono ((((g18.ex.trans g19.ex).trans ex5).trans s2).trans g23.ex) fr19)), Rs_len fr26]; exact c7), fun p21 np21 => ?_⟩
    have fr27 : Rs (α := PyData) (F10) ([(.ref p5), (.ref p10), (.ref p12)] ++ [(.ref p14), .non, (.int 0), (.str ("10" : Str)), (.str ("" : Str)), (.ref p15), (.ref p16), (.bl true), (.ref p19)]) ((x1.map fun z => (PyData.list z)) ++ ([(PyData.tuple (figures.map fun z => (PyData.int z))), PyData.none, (PyData.int (0 : Int)), (PyData.str ("10" : Str)), (PyData.str ("" : Str)), (PyData.dict []), (PyData.list (([figures] : (List (List Int))).map fun z => (PyData.list (z.map fun z => (PyData.int z))))), (PyData.bool true), (dictII x3)] : (List PyData))) := Rs_app (Rs_anyL (Rs_mono ((((g18.ex.trans g19.ex).trans ex5).trans s2).trans g23.ex) fr19)) fr26
    have g25 := Gr.newO (o := .lst ([(.ref p5), (.ref p10), (.ref p12)] ++ [(.ref p14), .non, (.int 0), (.str ("10" : Str)), (.str ("" : Str)), (.ref p15), (.ref p16), (.bl true), (.ref p19)])) G32.sub np21
    have o28 := Ow.new (us := ([(.ref p5), (.ref p10), (.ref p12)] ++ [(.ref p14), .non, (.int 0), (.str ("10" : Str)), (.str ("" : Str)), (.ref p15), (.ref p16), (.bl true), (.ref p19)])) G32 np21
    have ne6 := o27.ne_new np21
    have G33 := G32.step g25
    have o29 := o27.step g25
    have dk35 := dk34.step g25
    obtain ⟨F11, G34, ex6, fa12, nf6⟩ := o28.frzE G33
    have o30 := o29.frzN (Ne.symm (Ne.symm ne6)) nf6
    have fr28 := Rs_mono ex6 fr27
    have dk36 := dk35.frzN o28 ex6 nf6
    obtain ⟨x4, hx2, hm⟩ := bindp hm
    replace hx2 := Option.some.inj hx2
    have fr29 : Rs (α := PyData) (F11) ([(.ref p5), (.ref p10), (.ref p12)] ++ [(.ref p14), .non, (.int 0), (.str ("10" : Str)), (.str ("" : Str)), (.ref p15), (.ref p16), (.bl true), (.ref p19)]) x4 := by rw [← hx2]; exact (Rs_mono (Sub.refl _) fr28)
    have fa13 := (Sub.refl _) _ _ fa12
    clear hx2
    with_reducible refine x_gnE (σ' := ([some (.ref dk), some (.int base), some (.ref a1), some (.int r1), some v2, some (.ref p21), none] : L2.St)) (by with_unfolding_all rfl) ?_
    with_reducible refine x_ret ?_
    with_reducible refine x_op ?_
    refine ⟨_, rfl, ?_⟩
    with_reducible refine x_op ?_
    with_reducible refine x_lst ?_
    with_reducible refine x_cons ?_
    with_reducible refine x_c ?_
    with_reducible refine x_cons ?_
    with_reducible refine x_c ?_
    with_reducible refine x_cons ?_
    with_reducible refine x_c ?_
    with_reducible refine x_cons ?_
    with_reducible refine x_c ?_
    with_reducible refine x_cons ?_
    with_reducible refine x_c ?_
    with_reducible refine x_cons ?_
    with_reducible refine x_c ?_
    with_reducible refine x_cons ?_
    with_reducible refine x_c ?_
    with_reducible refine x_cons ?_
    with_reducible refine x_c ?_
    with_reducible refine x_cons ?_
    with_reducible refine x_c ?_
    with_reducible refine x_cons ?_
    with_reducible refine x_c ?_
    with_reducible refine x_cons ?_
    with_reducible refine x_c ?_
    with_reducible refine x_cons ?_
    with_reducible refine x_c ?_
    with_reducible refine x_cons ?_
    with_reducible refine x_c ?_
    with_reducible refine x_cons ?_
    with_reducible refine x_c ?_
    with_reducible refine x_cons ?_
    with_reducible refine x_c ?_
    with_reducible refine x_cons ?_
    with_reducible refine x_c ?_
    with_reducible refine x_cons ?_
    with_reducible refine x_c ?_
    refine ⟨szle (show 17 ≤ 16777216 from by decide), fun p22 np22 => ?_⟩
    have fr30 : Rs (α := Int) (F11) [(.int 0), (.int 0), (.int 0), (.int 0), (.int 1), (.int 1), (.int 1), (.int 2), (.int 3), (.int 4), (.int 5), (.int 6), (.int 7), (.int 8), (.int 9), (.int 10), (.int 11)] ([(0 : Int), (0 : Int), (0 : Int), (0 : Int), (1 : Int), (1 : Int), (1 : Int), (2 : Int), (3 : Int), (4 : Int), (5 : Int), (6 : Int), (7 : Int), (8 : Int), (9 : Int), (10 : Int), (11 : Int)] : (List Int)) := (Rs_cons (.int _) (Rs_cons (.int _) (Rs_cons (.int _) (Rs_cons (.int _) (Rs_cons (.int _) (Rs_cons (.int _) (Rs_cons (.int _) (Rs_cons (.int _) (Rs_cons (.int _) (Rs_cons (.int _) (Rs_cons (.int _) (Rs_cons (.int _) (Rs_cons (.int _) (Rs_cons (.int _) (Rs_cons (.int _) (Rs_cons (.int _) (Rs_cons (.int _) Rs_nil)))))))))))))))))
    have g26 := Gr.newO (o := .lst [(.int 0), (.int 0), (.int 0), (.int 0), (.int 1), (.int 1), (.int 1), (.int 2), (.int 3), (.int 4), (.int 5), (.int 6), (.int 7), (.int 8), (.int 9), (.int 10), (.int 11)]) G34.sub np22
    have o31 := Ow.new (us := [(.int 0), (.int 0), (.int 0), (.int 0), (.int 1), (.int 1), (.int 1), (.int 2), (.int 3), (.int 4), (.int 5), (.int 6), (.int 7), (.int 8), (.int 9), (.int 10), (.int 11)]) G34 np22
    have G35 := G34.step g26
    have dk37 := dk36.step g26
    with_reducible refine x_call ?_
    with_reducible refine x_cons ?_
    refine ⟨_, rfl, ?_⟩
    with_reducible refine x_cons ?_
    with_reducible refine x_c ?_
    obtain ⟨⟨r3, st4⟩, hr3, hm⟩ := bindp hm
    refine ⟨_, _, _, _, _, (17 : Int), r3, st4, rfl, G35.sub, dk37.at_, dk37.nf, (.int _), hr3, fun N3 H6 v4 g27 dk38 d12 => ?_⟩
    have G36 := G35.trans g27
    have o32 := o31.stepA g27 (dk37.out o31)
    have dk39 := dk37.stepA g27 dk38
    obtain rfl := int_of d12
    obtain ⟨x5, hx3, hm⟩ := bindp hm
    obtain ⟨v5, hu1, d13⟩ := Rs_at (Rs_mono g27.ex fr30) hx3
    refine ⟨_, _, _, _, rfl, rfl, .inl (.inl o32.at_), hu1, ?_⟩
    obtain rfl := int_of d13
    obtain ⟨x6, hx4, hm⟩ := bindp hm
    obtain ⟨v6, hu2, d14⟩ := Rs_at (Rs_mono g27.ex fr29) hx4
    refine ⟨_, _, _, _, rfl, rfl, .inl (.inl ((g27.ex.trans G36.sub) _ _ fa13)), hu2, ?_⟩
    obtain ⟨rfl, rfl⟩ := pairp hm
    exact q _ _ _ G36 dk39.at_ (RD.mono (Sub.refl _) d14)

abbrev N_is_whole : List Str := ["thing"]
theorem sc_is_whole : FnScope N_is_whole ["thing"] (defScope s_is_whole) := ⟨rfl, rfl, rfl, by decide +kernel, rfl, by decide +kernel, by decide +kernel⟩
def sp_is_whole : Sp := fun vs H Q _ => ∃ (F : Hp) (v_thing : V) (thing : PyData) (r : Bool), vs = [v_thing] ∧ Sub F H ∧ R F v_thing thing ∧ is_whole thing = some r ∧ ∀ N H2 v, Gr NA F H N H2 → R N v r → Q v H2
theorem ok_is_whole {P : Program} {w : World} {K : PySem.W.Frag} {mg : Str → Option Value} {base : Heap} (T : Txt K mg) : FnOk P w K mg base CX0 1 T.f_is_whole.f T.f_is_whole.fd ["thing"] sp_is_whole := by
  have nd := (sc_is_whole).nd
  refine T.f_is_whole.F.ok sc_is_whole (fun vs H Q E h => ?_) (fun cdv A0 outer s H vs Q E hr h => ?_)
  · obtain ⟨_, _, _, _, rfl, _⟩ := h
    rfl
  obtain ⟨F0, v_thing, thing, r, rfl, s0, f_thing, hm, q⟩ := h
  have G0 : Gr NA F0 H F0 H := Gr.refl s0
  refine ⟨_, (pss_one (ps_ret (pe_and (pe_callB (r := rIsi K) call_isi (by rfl) T.z_isinstance (by decide +kernel) (pa_cons (pv 0) (pa_cons (pe_bltn (v := .ty "int") (by rfl) T.z_int (by decide +kernel) rfl) pa_nil))) (pe_one (pe_not (pe_callB (r := rIsi K) call_isi (by rfl) T.z_isinstance (by decide +kernel) (pa_cons (pv 0) (pa_cons (pe_bltn (v := .ty "bool") (by rfl) T.z_bool (by decide +kernel) rfl) pa_nil)))))))), ?_⟩
  refine x_start (σ' := ([some v_thing] : L2.St)) (by with_unfolding_all rfl) ?_
  rw [is_whole] at hm
  with_reducible refine x_ret ?_
  with_reducible refine x_andV ?_
  with_reducible refine x_cb ?_
  with_reducible refine x_cons ?_
  refine ⟨_, rfl, ?_⟩
  with_reducible refine x_cons ?_
  with_reducible refine x_c ?_
  with_reducible refine x_nil ?_
  refine isi_int (K := K) G0.sub (RD.mono (Sub.refl _) f_thing) _ ?_
  refine ⟨_, rfl, ?_⟩
  refine ifD (fun hc => ?_) (fun hc => ?_)
  · replace hm := itep hm hc
    with_reducible refine x_notV ?_
    with_reducible refine x_cb ?_
    with_reducible refine x_cons ?_
    refine ⟨_, rfl, ?_⟩
    with_reducible refine x_cons ?_
    with_reducible refine x_c ?_
    with_reducible refine x_nil ?_
    refine isi_bool (K := K) G0.sub (RD.mono (Sub.refl _) f_thing) _ ?_
    refine ⟨_, rfl, ?_⟩
    obtain rfl : _ = r := Option.some.inj hm
    exact q _ _ _ G0 (.bl _)
  · replace hm := iten hm (bF hc)
    obtain rfl : _ = r := Option.some.inj hm
    exact q _ _ _ G0 (.bl _)

abbrev N_is_base : List Str := ["thing"]
theorem sc_is_base : FnScope N_is_base ["thing"] (defScope s_is_base) := ⟨rfl, rfl, rfl, by decide +kernel, rfl, by decide +kernel, by decide +kernel⟩
def sp_is_base : Sp := fun vs H Q _ => ∃ (F : Hp) (v_thing : V) (thing : PyData) (r : Bool), vs = [v_thing] ∧ Sub F H ∧ R F v_thing thing ∧ is_base thing = some r ∧ ∀ N H2 v, Gr NA F H N H2 → R N v r → Q v H2
theorem ok_is_base {P : Program} {w : World} {K : PySem.W.Frag} {mg : Str → Option Value} {base : Heap} (T : Txt K mg) : FnOk P w K mg base CX0 2 T.f_is_base.f T.f_is_base.fd ["thing"] sp_is_base := by
  have nd := (sc_is_base).nd
  refine T.f_is_base.F.ok sc_is_base (fun vs H Q E h => ?_) (fun cdv A0 outer s H vs Q E hr h => ?_)
  · obtain ⟨_, _, _, _, rfl, _⟩ := h
    rfl
  obtain ⟨F0, v_thing, thing, r, rfl, s0, f_thing, hm, q⟩ := h
  have G0 : Gr NA F0 H F0 H := Gr.refl s0
  refine ⟨_, (pss_one (ps_ret (pe_and (pe_call (ok_is_whole T) (hr.mono (by decide)) (by rfl) T.f_is_whole.g T.f_is_whole.F.kp T.f_is_whole.b .nil pass0 (pa_cons (pv 0) pa_nil)) (pe_one (pe_chain op_le op_le (pe_glob (v := .int 2) rfl T.c_LEAST_BASE.g ⟨_, rfl⟩) (pv 0) (pe_glob (v := .int 16) rfl T.c_MOST_BASE.g ⟨_, rfl⟩)))))), ?_⟩
  refine x_start (σ' := ([some v_thing] : L2.St)) (by with_unfolding_all rfl) ?_
  rw [is_base] at hm
  with_reducible refine x_ret ?_
  with_reducible refine x_andV ?_
  with_reducible refine x_call ?_
  with_reducible refine x_cons ?_
  refine ⟨_, rfl, ?_⟩
  obtain ⟨r1, hr1, hm⟩ := bindp hm
  refine ⟨_, _, thing, r1, rfl, G0.sub, (RD.mono (Sub.refl _) f_thing), hr1, fun N1 H1 v1 g1 d1  => ?_⟩
  have G1 := G0.step g1
  obtain rfl := bl_of d1
  refine ⟨_, rfl, ?_⟩
  refine ifD (fun hc => ?_) (fun hc => ?_)
  · replace hm := itep hm hc
    with_reducible refine x_chain ?_
    with_reducible refine x_c ?_
    refine ⟨_, rfl, ?_⟩
    obtain ⟨x1, hx1, hm⟩ := bindp hm
    obtain rfl := asInt_of (RD.mono g1.ex f_thing) hx1
    refine ⟨_, _, rfl, rfl, _, rfl, ?_⟩
    refine ifD (fun hc => ?_) (fun hc => ?_)
    · replace hm := itep hm hc
      with_reducible refine x_c ?_
      refine ⟨_, _, rfl, rfl, ?_⟩
      obtain rfl : _ = r := Option.some.inj hm
      exact q _ _ _ G1 (.bl _)
    · replace hm := iten hm (bF hc)
      obtain rfl : _ = r := Option.some.inj hm
      exact q _ _ _ G1 (.bl _)
  · replace hm := iten hm (bF hc)
    obtain rfl : _ = r := Option.some.inj hm
    exact q _ _ _ G1 (.bl _)

abbrev N_is_figure : List Str := ["base", "thing"]
theorem sc_is_figure : FnScope N_is_figure ["base", "thing"] (defScope s_is_figure) := ⟨rfl, rfl, rfl, by decide +kernel, rfl, by decide +kernel, by decide +kernel⟩
def sp_is_figure : Sp := fun vs H Q _ => ∃ (F : Hp) (v_base : V) (v_thing : V) (base : Int) (thing : PyData) (r : Bool), vs = [v_base, v_thing] ∧ Sub F H ∧ R F v_base base ∧ R F v_thing thing ∧ is_figure base thing = some r ∧ ∀ N H2 v, Gr NA F H N H2 → R N v r → Q v H2
theorem ok_is_figure {P : Program} {w : World} {K : PySem.W.Frag} {mg : Str → Option Value} {base : Heap} (T : Txt K mg) : FnOk P w K mg base CX0 2 T.f_is_figure.f T.f_is_figure.fd ["base", "thing"] sp_is_figure := by
  have nd := (sc_is_figure).nd
  refine T.f_is_figure.F.ok sc_is_figure (fun vs H Q E h => ?_) (fun cdv A0 outer s H vs Q E hr h => ?_)
  · obtain ⟨_, _, _, _, _, _, rfl, _⟩ := h
    rfl
  obtain ⟨F0, v_base, v_thing, base, thing, r, rfl, s0, f_base, f_thing, hm, q⟩ := h
  have G0 : Gr NA F0 H F0 H := Gr.refl s0
  obtain rfl := int_of f_base
  refine ⟨_, (pss_one (ps_ret (pe_and (pe_call (ok_is_whole T) (hr.mono (by decide)) (by rfl) T.f_is_whole.g T.f_is_whole.F.kp T.f_is_whole.b .nil pass0 (pa_cons (pv 1) pa_nil)) (pe_one (pe_chain op_le op_lt pe_int (pv 1) (pv 0)))))), ?_⟩
  refine x_start (σ' := ([some (.int base), some v_thing] : L2.St)) (by with_unfolding_all rfl) ?_
  rw [is_figure] at hm
  with_reducible refine x_ret ?_
  with_reducible refine x_andV ?_
  with_reducible refine x_call ?_
  with_reducible refine x_cons ?_
  refine ⟨_, rfl, ?_⟩
  obtain ⟨r1, hr1, hm⟩ := bindp hm
  refine ⟨_, _, thing, r1, rfl, G0.sub, (RD.mono (Sub.refl _) f_thing), hr1, fun N1 H1 v1 g1 d1  => ?_⟩
  have G1 := G0.step g1
  obtain rfl := bl_of d1
  refine ⟨_, rfl, ?_⟩
  refine ifD (fun hc => ?_) (fun hc => ?_)
  · replace hm := itep hm hc
    with_reducible refine x_chain ?_
    with_reducible refine x_c ?_
    refine ⟨_, rfl, ?_⟩
    obtain ⟨x1, hx1, hm⟩ := bindp hm
    obtain rfl := asInt_of (RD.mono g1.ex f_thing) hx1
    refine ⟨_, _, rfl, rfl, _, rfl, ?_⟩
    refine ifD (fun hc => ?_) (fun hc => ?_)
    · replace hm := itep hm hc
      refine ⟨_, rfl, ?_⟩
      refine ⟨_, _, rfl, rfl, ?_⟩
      obtain rfl : _ = r := Option.some.inj hm
      exact q _ _ _ G1 (.bl _)
    · replace hm := iten hm (bF hc)
      obtain rfl : _ = r := Option.some.inj hm
      exact q _ _ _ G1 (.bl _)
  · replace hm := iten hm (bF hc)
    obtain rfl : _ = r := Option.some.inj hm
    exact q _ _ _ G1 (.bl _)

abbrev N_are_figures : List Str := ["base", "thing", "one"]
theorem sc_are_figures : FnScope N_are_figures ["base", "thing"] (defScope s_are_figures) := ⟨rfl, rfl, rfl, by decide +kernel, rfl, by decide +kernel, by decide +kernel⟩
def sp_are_figures : Sp := fun vs H Q _ => ∃ (F : Hp) (v_base : V) (v_thing : V) (base : Int) (thing : PyData) (r : Bool), vs = [v_base, v_thing] ∧ Sub F H ∧ R F v_base base ∧ R F v_thing thing ∧ are_figures base thing = some r ∧ ∀ N H2 v, Gr NA F H N H2 → R N v r → Q v H2
theorem ok_are_figures {P : Program} {w : World} {K : PySem.W.Frag} {mg : Str → Option Value} {base : Heap} (T : Txt K mg) : FnOk P w K mg base CX0 3 T.f_are_figures.f T.f_are_figures.fd ["base", "thing"] sp_are_figures := by
  have nd := (sc_are_figures).nd
  refine T.f_are_figures.F.ok sc_are_figures (fun vs H Q E h => ?_) (fun cdv A0 outer s H vs Q E hr h => ?_)
  · obtain ⟨_, _, _, _, _, _, rfl, _⟩ := h
    rfl
  obtain ⟨F0, v_base, v_thing, base, thing, r, rfl, s0, f_base, f_thing, hm, q⟩ := h
  have G0 : Gr NA F0 H F0 H := Gr.refl s0
  obtain rfl := int_of f_base
  refine ⟨_, (pss_one (ps_ret (pe_and (pe_callB (r := rIsi K) call_isi (by rfl) T.z_isinstance (by decide +kernel) (pa_cons (pv 1) (pa_cons (pe_bltn (v := .ty "list") (by rfl) T.z_list (by decide +kernel) rfl) pa_nil))) (pe_one (pe_cmpR (op_eqNil (hu64 hr)) (pe_lc (own := [("one", 2)]) (g := (gName 2)) rfl nd (pi_list (pv 1)) (blkOk_by (own := [("one", 2)]) (N := N_are_figures) (sc := defScope s_are_figures) (by decide +kernel)) (fun _ _ _ _ _ => pg_name (i := 2) nd rfl (Or.inl rfl)) (fun _ _ _ _ _ => pts_one (pt_not (pt_val (pe_call (ok_is_figure T) (hr.mono (by decide)) (by rfl) T.f_is_figure.g T.f_is_figure.F.kp T.f_is_figure.b .nil pass0 (pa_cons (pv 0) (pa_cons (pv 2) pa_nil)))))) (fun _ _ _ _ _ => (pv 2))) (pe_lst pa_nil) (nomark _)))))), ?_⟩
  refine x_start (σ' := ([some (.int base), some v_thing, none] : L2.St)) (by with_unfolding_all rfl) ?_
  rw [are_figures] at hm
  with_reducible refine x_ret ?_
  with_reducible refine x_andV ?_
  with_reducible refine x_cb ?_
  with_reducible refine x_cons ?_
  refine ⟨_, rfl, ?_⟩
  with_reducible refine x_cons ?_
  with_reducible refine x_c ?_
  with_reducible refine x_nil ?_
  refine isi_list (K := K) G0.sub (RD.mono (Sub.refl _) f_thing) _ ?_
  refine ⟨_, rfl, ?_⟩
  refine ifD (fun hc => ?_) (fun hc => ?_)
  · replace hm := itep hm hc
    with_reducible refine x_op ?_
    with_reducible refine x_lc ?_
    with_reducible refine x_iter ?_
    refine ⟨_, rfl, ?_⟩
    obtain ⟨x1, hx1, hm⟩ := bindp hm
    have d1 : R (F0) v_thing x1 := asLst_of (RD.mono (Sub.refl _) f_thing) hx1
    obtain ⟨a1, us1, rfl, fa1, fr1⟩ := lst_of d1
    refine ⟨_, rfl, ⟨_, .inl (.inl (G0.sub _ _ fa1))⟩, fun p1 np1 => ?_⟩
    have g1 := Gr.newO (o := .lst []) G0.sub np1
    have o1 := Ow.new (us := []) G0 np1
    have G1 := G0.step g1
    refine lc_lst (α := PyData) (fun (ts1 : List PyData) H1 => ∃ (F1 : Hp) (x3 : List PyData) (us3 : List V), forK (are_figures_c1 base) ts1 x3 (are_figures_k2) = some r ∧ Sub (F0) F1 ∧ Gr NA F0 H F1 H1 ∧ Ow H F1 H1 p1 us3 ∧ Rs F1 us3 x3) (Rs_mono (Sub.refl _) fr1) ⟨F0, ([] : List PyData), _, hm, (Sub.refl _), G1, o1, Rs_nil⟩ (fun _ _ h => ?_) (fun t1 ts2 v1 H1 hv1 hW => ?_) (fun H1 hW => ?_)
    · obtain ⟨F9, _, _, _, s9, G9, _⟩ := h
      exact G9.sub _ _ (s9 _ _ ((Sub.refl _) _ _ fa1))
    · skip
      obtain ⟨F1, x3, us3, hm, s1, G2, o2, fr2⟩ := hW
      obtain ⟨next1, hnx1⟩ : ∃ nx, nx = fun s => forK (are_figures_c1 base) ts2 s (are_figures_k2) := ⟨_, rfl⟩
      have hm : (are_figures_c1 base) x3 t1 next1 = some r := by rw [hnx1]; exact forK_c hm
      rw [are_figures_c1] at hm
      with_reducible refine x_gnE (σ' := ([some (.int base), some (.ref a1), some v1] : L2.St)) (by with_unfolding_all rfl) ?_
      refine ⟨rfl, ?_⟩
      with_reducible refine x_not ?_
      with_reducible refine x_B ?_
      with_reducible refine x_call ?_
      with_reducible refine x_cons ?_
      refine ⟨_, rfl, ?_⟩
      with_reducible refine x_cons ?_
      refine ⟨_, rfl, ?_⟩
      obtain ⟨r1, hr1, hm⟩ := bindp hm
      refine ⟨_, _, _, base, t1, r1, rfl, G2.sub, (.int _), (RD.mono s1 hv1), hr1, fun N1 H2 v2 g2 d2  => ?_⟩
      have G3 := G2.step g2
      have o3 := o2.step g2
      obtain rfl := bl_of d2
      refine ⟨_, rfl, ?_⟩
      refine ifD (fun hc => ?_) (fun hc => ?_)
      · replace hm := itep hm hc
        refine ⟨_, rfl, ?_⟩
        obtain ⟨c1, hm⟩ := guardp hm
        have G4 := o3.mutG (o := .lst (us3 ++ [v1])) G3
        have o4 := o3.mut (ws := us3 ++ [v1])
        have fr3 : Rs (α := PyData) (N1) (us3 ++ [v1]) (x3 ++ [t1]) := Rs_snoc (Rs_mono g2.ex fr2) (RD.mono (s1.trans g2.ex) hv1)
        rw [hnx1] at hm
        exact ⟨_, o3.at_, szl (by rw [Rs_len (Rs_mono g2.ex fr2)]; exact c1), ⟨N1, (x3 ++ [t1]), _, hm, (s1.trans g2.ex), G4, o4, fr3⟩⟩
      · replace hm := iten hm (bF hc)
        rw [hnx1] at hm
        exact ⟨N1, x3, _, hm, (s1.trans g2.ex), G3, o3, (Rs_mono g2.ex fr2)⟩
    · skip
      obtain ⟨F1, x3, us3, hm, s2, G5, o5, fr4⟩ := hW
      have hm : (are_figures_k2) x3 = some r := forK_n hm
      rw [are_figures_k2] at hm
      with_reducible refine x_lst ?_
      refine ⟨szle (show 0 ≤ 16777216 from by decide), fun p2 np2 => ?_⟩
      have fr5 : Rs (α := PyData) (F1) [] ([] : (List PyData)) := Rs_nil
      have g3 := Gr.newO (o := .lst []) G5.sub np2
      have o6 := Ow.new (us := []) G5 np2
      have ne1 := o5.ne_new np2
      have G6 := G5.step g3
      have o7 := o5.step g3
      refine eqNil_use (.inl (.inl o7.at_)) (.inl (.inl o6.at_)) (emp_len (Rs_len fr4)) ?_
      obtain rfl : _ = r := Option.some.inj hm
      exact q _ _ _ G6 (.bl _)
  · replace hm := iten hm (bF hc)
    obtain rfl : _ = r := Option.some.inj hm
    exact q _ _ _ G0 (.bl _)

abbrev N_is_stretch : List Str := ["base", "thing"]
theorem sc_is_stretch : FnScope N_is_stretch ["base", "thing"] (defScope s_is_stretch) := ⟨rfl, rfl, rfl, by decide +kernel, rfl, by decide +kernel, by decide +kernel⟩
def sp_is_stretch : Sp := fun vs H Q _ => ∃ (F : Hp) (v_base : V) (v_thing : V) (base : Int) (thing : PyData) (r : Bool), vs = [v_base, v_thing] ∧ Sub F H ∧ R F v_base base ∧ R F v_thing thing ∧ is_stretch base thing = some r ∧ ∀ N H2 v, Gr NA F H N H2 → R N v r → Q v H2
theorem ok_is_stretch {P : Program} {w : World} {K : PySem.W.Frag} {mg : Str → Option Value} {base : Heap} (T : Txt K mg) : FnOk P w K mg base CX0 4 T.f_is_stretch.f T.f_is_stretch.fd ["base", "thing"] sp_is_stretch := by
  have nd := (sc_is_stretch).nd
  refine T.f_is_stretch.F.ok sc_is_stretch (fun vs H Q E h => ?_) (fun cdv A0 outer s H vs Q E hr h => ?_)
  · obtain ⟨_, _, _, _, _, _, rfl, _⟩ := h
    rfl
  obtain ⟨F0, v_base, v_thing, base, thing, r, rfl, s0, f_base, f_thing, hm, q⟩ := h
  have G0 : Gr NA F0 H F0 H := Gr.refl s0
  obtain rfl := int_of f_base
  refine ⟨_, (pss_one (ps_ret (pe_and (pe_call (ok_are_figures T) (hr.mono (by decide)) (by rfl) T.f_are_figures.g T.f_are_figures.F.kp T.f_are_figures.b .nil pass0 (pa_cons (pv 0) (pa_cons (pv 1) pa_nil))) (pe_one (pe_chain op_le op_le pe_int (pe_callB (r := rLenT K) call_lenT (by rfl) T.z_len PySem.boot_len (pa_cons (pv 1) pa_nil)) (pe_glob (v := .int 4) rfl T.c_MOST_FIGURES.g ⟨_, rfl⟩)))))), ?_⟩
  refine x_start (σ' := ([some (.int base), some v_thing] : L2.St)) (by with_unfolding_all rfl) ?_
  rw [is_stretch] at hm
  with_reducible refine x_ret ?_
  with_reducible refine x_andV ?_
  with_reducible refine x_call ?_
  with_reducible refine x_cons ?_
  refine ⟨_, rfl, ?_⟩
  with_reducible refine x_cons ?_
  refine ⟨_, rfl, ?_⟩
  obtain ⟨r1, hr1, hm⟩ := bindp hm
  refine ⟨_, _, _, base, thing, r1, rfl, G0.sub, (.int _), (RD.mono (Sub.refl _) f_thing), hr1, fun N1 H1 v1 g1 d1  => ?_⟩
  have G1 := G0.step g1
  obtain rfl := bl_of d1
  refine ⟨_, rfl, ?_⟩
  refine ifD (fun hc => ?_) (fun hc => ?_)
  · replace hm := itep hm hc
    with_reducible refine x_chain ?_
    with_reducible refine x_c ?_
    with_reducible refine x_cb ?_
    with_reducible refine x_cons ?_
    refine ⟨_, rfl, ?_⟩
    obtain ⟨x1, hx1, hm⟩ := bindp hm
    with_reducible refine x_nil ?_
    refine lenD (K := K) G1.sub (RD.mono g1.ex f_thing) hx1 _ ?_
    refine ⟨_, _, rfl, rfl, _, rfl, ?_⟩
    refine ifD (fun hc => ?_) (fun hc => ?_)
    · replace hm := itep hm hc
      with_reducible refine x_c ?_
      refine ⟨_, _, rfl, rfl, ?_⟩
      obtain rfl : _ = r := Option.some.inj hm
      exact q _ _ _ G1 (.bl _)
    · replace hm := iten hm (bF hc)
      obtain rfl : _ = r := Option.some.inj hm
      exact q _ _ _ G1 (.bl _)
  · replace hm := iten hm (bF hc)
    obtain rfl : _ = r := Option.some.inj hm
    exact q _ _ _ G1 (.bl _)

abbrev N_is_rule : List Str := ["thing", "base", "bad", "one", "k"]
theorem sc_is_rule : FnScope N_is_rule ["thing"] (defScope s_is_rule) := ⟨rfl, rfl, rfl, by decide +kernel, rfl, by decide +kernel, by decide +kernel⟩
def sp_is_rule : Sp := fun vs H Q _ => ∃ (F : Hp) (v_thing : V) (thing : PyData) (r : Bool), vs = [v_thing] ∧ Sub F H ∧ R F v_thing thing ∧ is_rule thing = some r ∧ ∀ N H2 v, Gr NA F H N H2 → R N v r → Q v H2
theorem ok_is_rule {P : Program} {w : World} {K : PySem.W.Frag} {mg : Str → Option Value} {base : Heap} (T : Txt K mg) : FnOk P w K mg base CX0 5 T.f_is_rule.f T.f_is_rule.fd ["thing"] sp_is_rule := by
  have nd := (sc_is_rule).nd
  refine T.f_is_rule.F.ok sc_is_rule (fun vs H Q E h => ?_) (fun cdv A0 outer s H vs Q E hr h => ?_)
  · obtain ⟨_, _, _, _, rfl, _⟩ := h
    rfl
  obtain ⟨F0, v_thing, thing, r, rfl, s0, f_thing, hm, q⟩ := h
  have G0 : Gr NA F0 H F0 H := Gr.refl s0
  refine ⟨_, (pss_cons (ps_if (PW.pt (pw_or (pt_not (pt_val (pe_callB (r := rIsi K) call_isi (by rfl) T.z_isinstance (by decide +kernel) (pa_cons (pv 0) (pa_cons (pe_bltn (v := .ty "tuple") (by rfl) T.z_tuple (by decide +kernel) rfl) pa_nil))))) (pw_or (pt_cmp (pc_neI (pe_callB (r := rLenT K) call_lenT (by rfl) T.z_len PySem.boot_len (pa_cons (pv 0) pa_nil)) pe_int)) (pw_or1 (pt_not (pt_val (pe_call (ok_is_base T) (hr.mono (by decide)) (by rfl) T.f_is_base.g T.f_is_base.F.kp T.f_is_base.b .nil pass0 (pa_cons (pe_ix (r := rIx K) ix_seq (pv 0) pe_int (fun _ _ => rfl)) pa_nil)))))))) (pss_one (ps_ret pe_bl)) pss_nil) (pss_cons (ps_asg (pv 0) (pg_tup rfl (pgs_cons (pg_name (i := 1) nd rfl (by first | exact Or.inl rfl | exact Or.inr rfl)) (pgs_cons (pg_name (i := 2) nd rfl (by first | exact Or.inl rfl | exact Or.inr rfl)) pgs_nil)))) (pss_cons (ps_if (PW.pt (pw_or (pt_not (pt_val (pe_callB (r := rIsi K) call_isi (by rfl) T.z_isinstance (by decide +kernel) (pa_cons (pv 2) (pa_cons (pe_bltn (v := .ty "list") (by rfl) T.z_list (by decide +kernel) rfl) pa_nil))))) (pw_or1 (pt_cmp (pc_gt (pe_callB (r := rLenT K) call_lenT (by rfl) T.z_len PySem.boot_len (pa_cons (pv 2) pa_nil)) (pe_glob (v := .int 4) rfl T.c_MOST_STRETCHES.g ⟨_, rfl⟩)))))) (pss_one (ps_ret pe_bl)) pss_nil) (pss_cons (ps_if (pt_cmpR (op_neNil (hu64 hr)) (pe_lc (own := [("one", 3)]) (g := (gName 3)) rfl nd (pi_list (pv 2)) (blkOk_by (own := [("one", 3)]) (N := N_is_rule) (sc := defScope s_is_rule) (by decide +kernel)) (fun _ _ _ _ _ => pg_name (i := 3) nd rfl (Or.inl rfl)) (fun _ _ _ _ _ => pts_one (pt_not (pt_val (pe_call (ok_is_stretch T) (hr.mono (by decide)) (by rfl) T.f_is_stretch.g T.f_is_stretch.F.kp T.f_is_stretch.b .nil pass0 (pa_cons (pv 1) (pa_cons (pv 3) pa_nil)))))) (fun _ _ _ _ _ => (pv 3))) (pe_lst pa_nil) (nomark _)) (pss_one (ps_ret pe_bl)) pss_nil) (pss_one (ps_ret (pe_cmpR (op_eqT (α := (List Int)) (by decide) (hu64 hr)) (pe_lc (own := [("k", 4)]) (g := (gName 4)) rfl nd (pi_range2 (by rfl) T.z_range (pa_cons pe_int (pa_cons (pe_callB (r := rLenT K) call_lenT (by rfl) T.z_len PySem.boot_len (pa_cons (pv 2) pa_nil)) pa_nil))) (blkOk_by (own := [("k", 4)]) (N := N_is_rule) (sc := defScope s_is_rule) (by decide +kernel)) (fun _ _ _ _ _ => pg_name (i := 4) nd rfl (Or.inl rfl)) (fun _ _ _ _ _ => pts_one (pt_cmpR (op_geA (hu64 hr)) (pe_ix (r := rIx K) ix_seq (pv 2) (pe_op op_sub (pv 4) pe_int) (fun _ _ => rfl)) (pe_ix (r := rIx K) ix_seq (pv 2) (pv 4) (fun _ _ => rfl)) (nomark _))) (fun _ _ _ _ _ => (pv 4))) (pe_lst pa_nil) (nomark _)))))))), ?_⟩
  refine x_start (σ' := ([some v_thing, none, none, none, none] : L2.St)) (by with_unfolding_all rfl) ?_
  rw [is_rule] at hm
  with_reducible refine x_seq ?_
  with_reducible refine x_if ?_
  with_reducible refine x_or ?_
  with_reducible refine x_not ?_
  with_reducible refine x_B ?_
  with_reducible refine x_cb ?_
  with_reducible refine x_cons ?_
  refine ⟨_, rfl, ?_⟩
  with_reducible refine x_cons ?_
  with_reducible refine x_c ?_
  with_reducible refine x_nil ?_
  refine isi_tuple (K := K) G0.sub (RD.mono (Sub.refl _) f_thing) _ ?_
  refine ⟨_, rfl, ?_⟩
  refine ifD (fun hc => ?_) (fun hc => ?_)
  · replace hm := itep hm hc
    refine iteT ?_
    with_reducible refine x_ret ?_
    with_reducible refine x_c ?_
    obtain rfl : _ = r := Option.some.inj hm
    exact q _ _ _ G0 (.bl _)
  · replace hm := iten hm (bF hc)
    with_reducible refine x_or ?_
    with_reducible refine x_B ?_
    with_reducible refine x_cmp ?_
    with_reducible refine x_cb ?_
    with_reducible refine x_cons ?_
    refine ⟨_, rfl, ?_⟩
    obtain ⟨x1, hx1, hm⟩ := bindp hm
    with_reducible refine x_nil ?_
    refine lenD (K := K) G0.sub (RD.mono (Sub.refl _) f_thing) hx1 _ ?_
    with_reducible refine x_c ?_
    refine ⟨_, _, rfl, rfl, ?_⟩
    refine ⟨_, rfl, ?_⟩
    refine ifD (fun hc => ?_) (fun hc => ?_)
    · replace hm := itep hm hc
      refine iteT ?_
      with_reducible refine x_ret ?_
      with_reducible refine x_c ?_
      obtain rfl : _ = r := Option.some.inj hm
      exact q _ _ _ G0 (.bl _)
    · replace hm := iten hm (bF hc)
      with_reducible refine x_not ?_
      with_reducible refine x_B ?_
      with_reducible refine x_call ?_
      with_reducible refine x_cons ?_
      with_reducible refine x_op ?_
      refine ⟨_, rfl, ?_⟩
      with_reducible refine x_c ?_
      obtain ⟨x2, hx2, hm⟩ := bindp hm
      obtain ⟨x3, hx3, hm⟩ := bindp hm
      obtain ⟨v1, d1, kq1⟩ := ixD (K := K) G0.sub (RD.mono (Sub.refl _) f_thing) hx2 hx3
      refine kq1 _ ?_
      obtain ⟨r1, hr1, hm⟩ := bindp hm
      refine ⟨_, _, x3, r1, rfl, G0.sub, (RD.mono (Sub.refl _) d1), hr1, fun N1 H1 v2 g1 d2  => ?_⟩
      have G1 := G0.step g1
      obtain rfl := bl_of d2
      refine ⟨_, rfl, ?_⟩
      refine ifD (fun hc => ?_) (fun hc => ?_)
      · replace hm := itep hm hc
        with_reducible refine x_ret ?_
        with_reducible refine x_c ?_
        obtain rfl : _ = r := Option.some.inj hm
        exact q _ _ _ G1 (.bl _)
      · replace hm := iten hm (bF hc)
        with_reducible refine x_next ?_
        with_reducible refine x_seq ?_
        with_reducible refine x_asg ?_
        refine ⟨_, rfl, ?_⟩
        obtain ⟨x4, hx4, hm⟩ := bindp hm
        have d3 : R (N1) v_thing x4 := asPair_of (RD.mono g1.ex f_thing) hx4
        obtain ⟨a1, v3, v4, rfl, fa1, d4, d5⟩ := tup2_of d3
        refine ⟨_, _, rfl, .inl (.inl (G1.sub _ _ fa1)), rfl, ?_⟩
        refine ⟨_, _, rfl, ?_⟩
        with_reducible refine x_gnE (σ' := ([some (.ref a1), some v3, none, none, none] : L2.St)) (by with_unfolding_all rfl) ?_
        refine ⟨_, _, rfl, ?_⟩
        with_reducible refine x_gnE (σ' := ([some (.ref a1), some v3, some v4, none, none] : L2.St)) (by with_unfolding_all rfl) ?_
        refine ⟨rfl, ?_⟩
        with_reducible refine x_seq ?_
        with_reducible refine x_if ?_
        with_reducible refine x_or ?_
        with_reducible refine x_not ?_
        with_reducible refine x_B ?_
        with_reducible refine x_cb ?_
        with_reducible refine x_cons ?_
        refine ⟨_, rfl, ?_⟩
        with_reducible refine x_cons ?_
        with_reducible refine x_c ?_
        with_reducible refine x_nil ?_
        refine isi_list (K := K) G1.sub (RD.mono (Sub.refl _) d5) _ ?_
        refine ⟨_, rfl, ?_⟩
        refine ifD (fun hc => ?_) (fun hc => ?_)
        · replace hm := itep hm hc
          refine iteT ?_
          with_reducible refine x_ret ?_
          with_reducible refine x_c ?_
          obtain rfl : _ = r := Option.some.inj hm
          exact q _ _ _ G1 (.bl _)
        · replace hm := iten hm (bF hc)
          with_reducible refine x_B ?_
          with_reducible refine x_cmp ?_
          with_reducible refine x_cb ?_
          with_reducible refine x_cons ?_
          refine ⟨_, rfl, ?_⟩
          obtain ⟨x5, hx5, hm⟩ := bindp hm
          with_reducible refine x_nil ?_
          refine lenD (K := K) G1.sub (RD.mono (Sub.refl _) d5) hx5 _ ?_
          with_reducible refine x_c ?_
          refine ⟨_, _, rfl, rfl, ?_⟩
          refine ⟨_, rfl, ?_⟩
          refine ifD (fun hc => ?_) (fun hc => ?_)
          · replace hm := itep hm hc
            with_reducible refine x_ret ?_
            with_reducible refine x_c ?_
            obtain rfl : _ = r := Option.some.inj hm
            exact q _ _ _ G1 (.bl _)
          · replace hm := iten hm (bF hc)
            with_reducible refine x_next ?_
            with_reducible refine x_seq ?_
            with_reducible refine x_if ?_
            with_reducible refine x_test ?_
            with_reducible refine x_op ?_
            with_reducible refine x_lc ?_
            with_reducible refine x_iter ?_
            refine ⟨_, rfl, ?_⟩
            obtain ⟨x6, hx6, hm⟩ := bindp hm
            have d6 : R (N1) v4 x6 := asLst_of (RD.mono (Sub.refl _) d5) hx6
            obtain ⟨a2, us1, rfl, fa2, fr1⟩ := lst_of d6
            refine ⟨_, rfl, ⟨_, .inl (.inl (G1.sub _ _ fa2))⟩, fun p1 np1 => ?_⟩
            have g2 := Gr.newO (o := .lst []) G1.sub np1
            have o1 := Ow.new (us := []) G1 np1
            have G2 := G1.step g2
            refine lc_lst (α := PyData) (fun (ts1 : List PyData) H2 => ∃ (F1 : Hp) (x8 : List PyData) (us3 : List V), forK (is_rule_c1 x4) ts1 x8 (is_rule_k2 x6 x4) = some r ∧ Sub (N1) F1 ∧ Gr NA F0 H F1 H2 ∧ Ow H F1 H2 p1 us3 ∧ Rs F1 us3 x8) (Rs_mono (Sub.refl _) fr1) ⟨N1, ([] : List PyData), _, hm, (Sub.refl _), G2, o1, Rs_nil⟩ (fun _ _ h => ?_) (fun t1 ts2 v5 H1 hv1 hW => ?_) (fun H1 hW => ?_)
            · obtain ⟨F9, _, _, _, s9, G9, _⟩ := h
              exact G9.sub _ _ (s9 _ _ ((Sub.refl _) _ _ fa2))
            · skip
              obtain ⟨F1, x8, us3, hm, s1, G3, o2, fr2⟩ := hW
              obtain ⟨next1, hnx1⟩ : ∃ nx, nx = fun s => forK (is_rule_c1 x4) ts2 s (is_rule_k2 x6 x4) := ⟨_, rfl⟩
              have hm : (is_rule_c1 x4) x8 t1 next1 = some r := by rw [hnx1]; exact forK_c hm
              rw [is_rule_c1] at hm
              with_reducible refine x_gnE (σ' := ([some (.ref a1), some v3, some (.ref a2), some v5, none] : L2.St)) (by with_unfolding_all rfl) ?_
              refine ⟨rfl, ?_⟩
              with_reducible refine x_not ?_
              with_reducible refine x_B ?_
              with_reducible refine x_call ?_
              with_reducible refine x_cons ?_
              refine ⟨_, rfl, ?_⟩
              with_reducible refine x_cons ?_
              refine ⟨_, rfl, ?_⟩
              obtain ⟨x9, hx7, hm⟩ := bindp hm
              obtain rfl := asInt_of (RD.mono s1 d4) hx7
              obtain ⟨r2, hr2, hm⟩ := bindp hm
              refine ⟨_, _, _, x9, t1, r2, rfl, G3.sub, (.int _), (RD.mono s1 hv1), hr2, fun N2 H3 v6 g3 d7  => ?_⟩
              have G4 := G3.step g3
              have o3 := o2.step g3
              obtain rfl := bl_of d7
              refine ⟨_, rfl, ?_⟩
              refine ifD (fun hc => ?_) (fun hc => ?_)
              · replace hm := itep hm hc
                refine ⟨_, rfl, ?_⟩
                obtain ⟨c1, hm⟩ := guardp hm
                have G5 := o3.mutG (o := .lst (us3 ++ [v5])) G4
                have o4 := o3.mut (ws := us3 ++ [v5])
                have fr3 : Rs (α := PyData) (N2) (us3 ++ [v5]) (x8 ++ [t1]) := Rs_snoc (Rs_mono g3.ex fr2) (RD.mono (s1.trans g3.ex) hv1)
                rw [hnx1] at hm
                exact ⟨_, o3.at_, szl (by rw [Rs_len (Rs_mono g3.ex fr2)]; exact c1), ⟨N2, (x8 ++ [t1]), _, hm, (s1.trans g3.ex), G5, o4, fr3⟩⟩
              · replace hm := iten hm (bF hc)
                rw [hnx1] at hm
                exact ⟨N2, x8, _, hm, (s1.trans g3.ex), G4, o3, (Rs_mono g3.ex fr2)⟩
            · skip
              obtain ⟨F1, x8, us3, hm, s2, G6, o5, fr4⟩ := hW
              have hm : (is_rule_k2 x6 x4) x8 = some r := forK_n hm
              rw [is_rule_k2] at hm
              with_reducible refine x_lst ?_
              refine ⟨szle (show 0 ≤ 16777216 from by decide), fun p2 np2 => ?_⟩
              have fr5 : Rs (α := PyData) (F1) [] ([] : (List PyData)) := Rs_nil
              have g4 := Gr.newO (o := .lst []) G6.sub np2
              have o6 := Ow.new (us := []) G6 np2
              have ne1 := o5.ne_new np2
              have G7 := G6.step g4
              have o7 := o5.step g4
              refine neNil_use (.inl (.inl o7.at_)) (.inl (.inl o6.at_)) (emp_len (Rs_len fr4)) ?_
              refine ⟨_, rfl, ?_⟩
              refine ifD (fun hc => ?_) (fun hc => ?_)
              · replace hm := itep hm hc
                with_reducible refine x_ret ?_
                with_reducible refine x_c ?_
                obtain rfl : _ = r := Option.some.inj hm
                exact q _ _ _ G7 (.bl _)
              · replace hm := iten hm (bF hc)
                with_reducible refine x_next ?_
                with_reducible refine x_ret ?_
                with_reducible refine x_op ?_
                with_reducible refine x_lc ?_
                with_reducible refine x_rng2 ?_
                with_reducible refine x_cons ?_
                with_reducible refine x_c ?_
                with_reducible refine x_cons ?_
                with_reducible refine x_cb ?_
                with_reducible refine x_cons ?_
                refine ⟨_, rfl, ?_⟩
                refine ⟨_, _, rfl, .inl (.inl (.inl ((s2.trans G7.sub) _ _ fa2))), ?_⟩
                rw [Rs_len (Rs_mono s2 fr1)]
                obtain ⟨c2, hm⟩ := guardp hm
                refine ⟨_, _, rfl, c2.ok, fun p3 np3 => ?_⟩
                have g5 := Gr.newO (o := .lst []) G7.sub np3
                have o8 := Ow.new (us := []) G7 np3
                have G8 := G7.step g5
                refine lc_rng (lo := (1 : Int)) (hi := (x6.length : Int)) rfl (fun (ts3 : List Int) H4 => ∃ (F2 : Hp) (x11 : List Int) (us5 : List V), forK (is_rule_c3 x4) ts3 x11 (is_rule_k4) = some r ∧ Sub (F1) F2 ∧ Gr NA F0 H F2 H4 ∧ Ow H F2 H4 p3 us5 ∧ Rs F2 us5 x11) ⟨F1, ([] : List Int), _, hm, (Sub.refl _), G8, o8, Rs_nil⟩ (fun t2 ts4 H1 hW => ?_) (fun H1 hW => ?_)
                · skip
                  obtain ⟨F2, x11, us5, hm, s3, G9, o9, fr6⟩ := hW
                  obtain ⟨next2, hnx2⟩ : ∃ nx, nx = fun s => forK (is_rule_c3 x4) ts4 s (is_rule_k4) := ⟨_, rfl⟩
                  have hm : (is_rule_c3 x4) x11 t2 next2 = some r := by rw [hnx2]; exact forK_c hm
                  rw [is_rule_c3] at hm
                  with_reducible refine x_gnE (σ' := ([some (.ref a1), some v3, some (.ref a2), none, some (.int t2)] : L2.St)) (by with_unfolding_all rfl) ?_
                  refine ⟨rfl, ?_⟩
                  with_reducible refine x_test ?_
                  with_reducible refine x_op ?_
                  with_reducible refine x_op ?_
                  refine ⟨_, rfl, ?_⟩
                  refine useEv (.int (t2 - (1 : Int))) (by exact (Evl.ev_op (Evl.ev_var rfl) Evl.ev_c Evl.rv_I0)) (fun H5 e1 => ?_)
                  have g6 := gr_ex G9.sub e1
                  have G10 := G9.step g6
                  have o10 := o9.step g6
                  obtain ⟨x12, hx8, hm⟩ := bindp hm
                  obtain ⟨x13, hx9, hm⟩ := bindp hm
                  obtain ⟨v8, d8, kq2⟩ := ixD (K := K) G10.sub (RD.mono (s2.trans s3) d5) hx8 hx9
                  refine kq2 _ ?_
                  with_reducible refine x_op ?_
                  refine ⟨_, rfl, ?_⟩
                  refine ⟨_, rfl, ?_⟩
                  obtain ⟨x14, hx10, hm⟩ := bindp hm
                  obtain ⟨x15, hx11, hm⟩ := bindp hm
                  obtain ⟨v9, d9, kq3⟩ := ixD (K := K) G10.sub (RD.mono (s2.trans s3) d5) hx10 hx11
                  refine kq3 _ ?_
                  obtain ⟨c3, hm⟩ := guardp hm
                  refine geA_use (a := x13) (b := x15) G10.sub (RD.mono (Sub.refl _) d8) (RD.mono (Sub.refl _) d9) c3 ?_
                  refine ⟨_, rfl, ?_⟩
                  refine ifD (fun hc => ?_) (fun hc => ?_)
                  · replace hm := itep hm hc
                    refine ⟨_, rfl, ?_⟩
                    obtain ⟨c4, hm⟩ := guardp hm
                    have G11 := o10.mutG (o := .lst (us5 ++ [(.int t2)])) G10
                    have o11 := o10.mut (ws := us5 ++ [(.int t2)])
                    have fr7 : Rs (α := Int) (F2) (us5 ++ [(.int t2)]) (x11 ++ [t2]) := Rs_snoc fr6 (.int _)
                    rw [hnx2] at hm
                    exact ⟨_, o10.at_, szl (by rw [Rs_len fr6]; exact c4), ⟨F2, (x11 ++ [t2]), _, hm, s3, G11, o11, fr7⟩⟩
                  · replace hm := iten hm (bF hc)
                    rw [hnx2] at hm
                    exact ⟨F2, x11, _, hm, s3, G10, o10, fr6⟩
                · skip
                  obtain ⟨F2, x11, us5, hm, s4, G12, o12, fr8⟩ := hW
                  have hm : (is_rule_k4) x11 = some r := forK_n hm
                  rw [is_rule_k4] at hm
                  with_reducible refine x_lst ?_
                  refine ⟨szle (show 0 ≤ 16777216 from by decide), fun p4 np4 => ?_⟩
                  have fr9 : Rs (α := Int) (F2) [] ([] : (List Int)) := Rs_nil
                  have g7 := Gr.newO (o := .lst []) G12.sub np4
                  have o13 := Ow.new (us := []) G12 np4
                  have ne2 := o12.ne_new np4
                  have G13 := G12.step g7
                  have o14 := o12.step g7
                  refine ⟨_, x11, ([] : (List Int)), Sub.refl _, (mk_lst o14.at_ (Rs_mono G13.sub fr8)), (mk_lst o13.at_ (Rs_mono G13.sub fr9)), ?_⟩
                  obtain rfl : _ = r := Option.some.inj hm
                  exact q _ _ _ G13 (.bl _)

abbrev N_need_rule : List Str := ["thing"]
theorem sc_need_rule : FnScope N_need_rule ["thing"] (defScope s_need_rule) := ⟨rfl, rfl, rfl, by decide +kernel, rfl, by decide +kernel, by decide +kernel⟩
def sp_need_rule : Sp := fun vs H Q E => ∃ (F : Hp) (v_thing : V) (thing : PyData) (r : (Except Er Unit)), vs = [v_thing] ∧ Sub F H ∧ R F v_thing thing ∧ need_rule thing = some r ∧ (∀ x9, r = .ok x9 → ∀ N H2 v, Gr NA F H N H2 → R N v x9 → Q v H2) ∧ ∀ e9, r = .error e9 → ∀ N H2, Gr NA F H N H2 → E (.ref (ErT.ad e9)) none H2
theorem ok_need_rule {P : Program} {w : World} {K : PySem.W.Frag} {mg : Str → Option Value} {base : Heap} (T : Txt K mg) : FnOk P w K mg base (L2.CX P w) 6 T.f_need_rule.f T.f_need_rule.fd ["thing"] sp_need_rule := by
  have nd := (sc_need_rule).nd
  refine T.f_need_rule.F.okX sc_need_rule (fun vs H Q E h => ?_) (fun cdv A0 outer s H vs Q E hr h => ?_)
  · obtain ⟨_, _, _, _, rfl, _⟩ := h
    rfl
  obtain ⟨F0, v_thing, thing, r, rfl, s0, f_thing, hm, q, qe⟩ := h
  have G0 : Gr NA F0 H F0 H := Gr.refl s0
  refine ⟨_, (pss_one (ps_if (pt_not (pt_val (pe_call (ok_is_rule T) (hr.mono (by decide)) (by rfl) T.f_is_rule.g T.f_is_rule.F.kp T.f_is_rule.b .nil pass0 (pa_cons (pv 0) pa_nil)))) (pss_one (ps_raiseE rfl (takes_of rfl rfl rfl rfl) (T.er.r .NoRule) (by rfl))) pss_nil)), ?_⟩
  refine x_start (σ' := ([some v_thing] : L2.St)) (by with_unfolding_all rfl) ?_
  rw [need_rule] at hm
  with_reducible refine x_if ?_
  with_reducible refine x_not ?_
  with_reducible refine x_B ?_
  with_reducible refine x_call ?_
  with_reducible refine x_cons ?_
  refine ⟨_, rfl, ?_⟩
  obtain ⟨r1, hr1, hm⟩ := bindp hm
  refine ⟨_, _, thing, r1, rfl, G0.sub, (RD.mono (Sub.refl _) f_thing), hr1, fun N1 H1 v1 g1 d1  => ?_⟩
  have G1 := G0.step g1
  obtain rfl := bl_of d1
  refine ⟨_, rfl, ?_⟩
  refine ifD (fun hc => ?_) (fun hc => ?_)
  · replace hm := itep hm hc
    obtain rfl : Except.error _ = r := Option.some.inj hm
    exact qe _ rfl _ _ G1
  · replace hm := iten hm (bF hc)
    with_reducible refine x_next ?_
    obtain rfl : Except.ok _ = r := Option.some.inj hm
    exact q _ rfl _ _ _ G1 .non

abbrev N_stands_in : List Str := ["stretch", "figures", "size", "at"]
theorem sc_stands_in : FnScope N_stands_in ["stretch", "figures"] (defScope s_stands_in) := ⟨rfl, rfl, rfl, by decide +kernel, rfl, by decide +kernel, by decide +kernel⟩
def sp_stands_in : Sp := fun vs H Q _ => ∃ (F : Hp) (v_stretch : V) (v_figures : V) (stretch : (List Int)) (figures : (List Int)) (r : Bool), vs = [v_stretch, v_figures] ∧ Sub F H ∧ R F v_stretch stretch ∧ R F v_figures figures ∧ stands_in stretch figures = some r ∧ ∀ N H2 v, Gr NA F H N H2 → R N v r → Q v H2
theorem ok_stands_in {P : Program} {w : World} {K : PySem.W.Frag} {mg : Str → Option Value} {base : Heap} (T : Txt K mg) : FnOk P w K mg base CX0 1 T.f_stands_in.f T.f_stands_in.fd ["stretch", "figures"] sp_stands_in := by
  have nd := (sc_stands_in).nd
  refine T.f_stands_in.F.ok sc_stands_in (fun vs H Q E h => ?_) (fun cdv A0 outer s H vs Q E hr h => ?_)
  · obtain ⟨_, _, _, _, _, _, rfl, _⟩ := h
    rfl
  obtain ⟨F0, v_stretch, v_figures, stretch, figures, r, rfl, s0, f_stretch, f_figures, hm, q⟩ := h
  have G0 : Gr NA F0 H F0 H := Gr.refl s0
  obtain ⟨a1, us1, rfl, fa1, fr1⟩ := lst_of f_stretch
  obtain ⟨a2, us2, rfl, fa2, fr2⟩ := lst_of f_figures
  refine ⟨_, (pss_cons (ps_set (i := 2) nd rfl (by first | exact Or.inl rfl | exact Or.inr rfl) (pe_callB (r := rLenT K) call_lenT (by rfl) T.z_len PySem.boot_len (pa_cons (pv 0) pa_nil))) (pss_one (ps_ret (pe_cmpR (op_neT (α := (List Int)) (by decide) (hu64 hr)) (pe_lc (own := [("at", 3)]) (g := (gName 3)) rfl nd (pi_range1 (by rfl) T.z_range (pa_cons (pe_op op_add (pe_op op_sub (pe_callB (r := rLenT K) call_lenT (by rfl) T.z_len PySem.boot_len (pa_cons (pv 1) pa_nil)) (pv 2)) pe_int) pa_nil)) (blkOk_by (own := [("at", 3)]) (N := N_stands_in) (sc := defScope s_stands_in) (by decide +kernel)) (fun _ _ _ _ _ => pg_name (i := 3) nd rfl (Or.inl rfl)) (fun _ _ _ _ _ => pts_one (pt_cmpR (op_eqT (α := (List Int)) (by decide) (hu64 hr)) (pe_slice (r := rSlL K) sl_list (pv 1) (po_some (pv 3)) (po_some (pe_op op_add (pv 3) (pv 2)))) (pv 0) (nomark _))) (fun _ _ _ _ _ => (pv 3))) (pe_lst pa_nil) (nomark _))))), ?_⟩
  refine x_start (σ' := ([some (.ref a1), some (.ref a2), none, none] : L2.St)) (by with_unfolding_all rfl) ?_
  rw [stands_in] at hm
  with_reducible refine x_seq ?_
  with_reducible refine x_asg ?_
  refine useEv (.int (stretch.length : Int)) (by exact (ev_lenT (Evl.ev_var rfl) (G0.sub _ _ fa1) (Rs_mono (Sub.refl _) fr1))) (fun H1 e1 => ?_)
  have g1 := gr_ex G0.sub e1
  have G1 := G0.step g1
  with_reducible refine x_gnE (σ' := ([some (.ref a1), some (.ref a2), some (.int (stretch.length : Int)), none] : L2.St)) (by with_unfolding_all rfl) ?_
  with_reducible refine x_ret ?_
  with_reducible refine x_op ?_
  with_reducible refine x_lc ?_
  with_reducible refine x_rng1 ?_
  with_reducible refine x_cons ?_
  refine useEv (.int (((figures.length : Int) - (stretch.length : Int)) + (1 : Int))) (by exact (Evl.ev_op (Evl.ev_op (ev_lenT (Evl.ev_var rfl) (G1.sub _ _ fa2) (Rs_mono (Sub.refl _) fr2)) (Evl.ev_var rfl) Evl.rv_I0) Evl.ev_c Evl.rv_I0)) (fun H2 e2 => ?_)
  have g2 := gr_ex G1.sub e2
  have G2 := G1.step g2
  obtain ⟨c1, hm⟩ := guardp hm
  refine ⟨_, rfl, c1.lo, c1.hi, fun p1 np1 => ?_⟩
  have g3 := Gr.newO (o := .lst []) G2.sub np1
  have o1 := Ow.new (us := []) G2 np1
  have G3 := G2.step g3
  refine lc_rng (lo := 0) (hi := (((figures.length : Int) - (stretch.length : Int)) + (1 : Int))) (by rw [Int.sub_zero]) (fun (ts1 : List Int) H3 => ∃ (F1 : Hp) (x2 : List Int) (us4 : List V), forK (stands_in_c1 figures stretch) ts1 x2 (stands_in_k2) = some r ∧ Sub (F0) F1 ∧ Gr NA F0 H F1 H3 ∧ Ow H F1 H3 p1 us4 ∧ Rs F1 us4 x2) ⟨F0, ([] : List Int), _, hm, (Sub.refl _), G3, o1, Rs_nil⟩ (fun t1 ts2 H1 hW => ?_) (fun H1 hW => ?_)
  · skip
    obtain ⟨F1, x2, us4, hm, s1, G4, o2, fr3⟩ := hW
    obtain ⟨next1, hnx1⟩ : ∃ nx, nx = fun s => forK (stands_in_c1 figures stretch) ts2 s (stands_in_k2) := ⟨_, rfl⟩
    have hm : (stands_in_c1 figures stretch) x2 t1 next1 = some r := by rw [hnx1]; exact forK_c hm
    rw [stands_in_c1] at hm
    with_reducible refine x_gnE (σ' := ([some (.ref a1), some (.ref a2), some (.int (stretch.length : Int)), some (.int t1)] : L2.St)) (by with_unfolding_all rfl) ?_
    refine ⟨rfl, ?_⟩
    with_reducible refine x_test ?_
    with_reducible refine x_op ?_
    with_reducible refine x_sl ?_
    refine ⟨_, rfl, ?_⟩
    with_reducible refine x_part ?_
    refine ⟨_, rfl, ?_⟩
    refine ⟨_, rfl, ?_⟩
    with_reducible refine x_part ?_
    refine useEv (.int (t1 + (stretch.length : Int))) (by exact (Evl.ev_op (Evl.ev_var rfl) (Evl.ev_var rfl) Evl.rv_I0)) (fun H4 e3 => ?_)
    have g4 := gr_ex G4.sub e3
    have G5 := G4.step g4
    have o3 := o2.step g4
    refine ⟨_, rfl, ?_⟩
    refine ⟨_, _, rfl, .inl (.inl ((s1.trans G5.sub) _ _ fa2)), fun p2 np2 => ?_⟩
    have fr4 : Rs (α := Int) (F1) (cutV us2 (some t1) (some (t1 + (stretch.length : Int)))) (cutT figures (some t1) (some (t1 + (stretch.length : Int)))) := Rs_cut (Rs_mono s1 fr2)
    have g5 := Gr.newO (o := .lst (cutV us2 (some t1) (some (t1 + (stretch.length : Int))))) G5.sub np2
    have o4 := Ow.new (us := (cutV us2 (some t1) (some (t1 + (stretch.length : Int))))) G5 np2
    have ne1 := o3.ne_new np2
    have G6 := G5.step g5
    have o5 := o3.step g5
    refine ⟨_, rfl, ?_⟩
    refine ⟨_, (cutT figures (some t1) (some (t1 + (stretch.length : Int)))), stretch, Sub.refl _, (mk_lst o4.at_ (Rs_mono G6.sub fr4)), (RD.mono G6.sub (mk_lst (s1 _ _ fa1) (Rs_mono s1 fr1))), ?_⟩
    refine ⟨_, rfl, ?_⟩
    refine ifD (fun hc => ?_) (fun hc => ?_)
    · replace hm := itep hm hc
      refine ⟨_, rfl, ?_⟩
      obtain ⟨c2, hm⟩ := guardp hm
      have G7 := o5.mutG (o := .lst (us4 ++ [(.int t1)])) G6
      have o6 := o5.mut (ws := us4 ++ [(.int t1)])
      have fr5 : Rs (α := Int) (F1) (us4 ++ [(.int t1)]) (x2 ++ [t1]) := Rs_snoc fr3 (.int _)
      have o7 := o4.other (ws := us4 ++ [(.int t1)]) (Ne.symm (Ne.symm ne1))
      rw [hnx1] at hm
      exact ⟨_, o5.at_, szl (by rw [Rs_len fr3]; exact c2), ⟨F1, (x2 ++ [t1]), _, hm, s1, G7, o6, fr5⟩⟩
    · replace hm := iten hm (bF hc)
      rw [hnx1] at hm
      exact ⟨F1, x2, _, hm, s1, G6, o5, fr3⟩
  · skip
    obtain ⟨F1, x2, us4, hm, s2, G8, o8, fr6⟩ := hW
    have hm : (stands_in_k2) x2 = some r := forK_n hm
    rw [stands_in_k2] at hm
    with_reducible refine x_lst ?_
    refine ⟨szle (show 0 ≤ 16777216 from by decide), fun p3 np3 => ?_⟩
    have fr7 : Rs (α := Int) (F1) [] ([] : (List Int)) := Rs_nil
    have g6 := Gr.newO (o := .lst []) G8.sub np3
    have o9 := Ow.new (us := []) G8 np3
    have ne2 := o8.ne_new np3
    have G9 := G8.step g6
    have o10 := o8.step g6
    refine ⟨_, x2, ([] : (List Int)), Sub.refl _, (mk_lst o10.at_ (Rs_mono G9.sub fr6)), (mk_lst o9.at_ (Rs_mono G9.sub fr7)), ?_⟩
    obtain rfl : _ = r := Option.some.inj hm
    exact q _ _ _ G9 (.bl _)

abbrev N_lacks_all : List Str := ["rule", "figures", "stretch"]
theorem sc_lacks_all : FnScope N_lacks_all ["rule", "figures"] (defScope s_lacks_all) := ⟨rfl, rfl, rfl, by decide +kernel, rfl, by decide +kernel, by decide +kernel⟩
def sp_lacks_all : Sp := fun vs H Q _ => ∃ (F : Hp) (v_rule : V) (v_figures : V) (rule : (Int × (List (List Int)))) (figures : (List Int)) (r : Bool), vs = [v_rule, v_figures] ∧ Sub F H ∧ R F v_rule rule ∧ R F v_figures figures ∧ lacks_all rule figures = some r ∧ ∀ N H2 v, Gr NA F H N H2 → R N v r → Q v H2
theorem ok_lacks_all {P : Program} {w : World} {K : PySem.W.Frag} {mg : Str → Option Value} {base : Heap} (T : Txt K mg) : FnOk P w K mg base CX0 2 T.f_lacks_all.f T.f_lacks_all.fd ["rule", "figures"] sp_lacks_all := by
  have nd := (sc_lacks_all).nd
  refine T.f_lacks_all.F.ok sc_lacks_all (fun vs H Q E h => ?_) (fun cdv A0 outer s H vs Q E hr h => ?_)
  · obtain ⟨_, _, _, _, _, _, rfl, _⟩ := h
    rfl
  obtain ⟨F0, v_rule, v_figures, rule, figures, r, rfl, s0, f_rule, f_figures, hm, q⟩ := h
  have G0 : Gr NA F0 H F0 H := Gr.refl s0
  obtain ⟨a1, v1, v2, rfl, fa1, d1, d2⟩ := tup2_of f_rule
  obtain rfl := int_of d1
  obtain ⟨a2, us1, rfl, fa2, fr1⟩ := lst_of d2
  obtain ⟨a3, us2, rfl, fa3, fr2⟩ := lst_of f_figures
  refine ⟨_, (pss_one (ps_ret (pe_cmpR (op_eqT (α := (List (List Int))) (by decide) (hu64 hr)) (pe_lc (own := [("stretch", 2)]) (g := (gName 2)) rfl nd (pi_list (pe_ix (r := rIxT K) ix_tup (pv 0) pe_int (fun _ _ => rfl))) (blkOk_by (own := [("stretch", 2)]) (N := N_lacks_all) (sc := defScope s_lacks_all) (by decide +kernel)) (fun _ _ _ _ _ => pg_name (i := 2) nd rfl (Or.inl rfl)) (fun _ _ _ _ _ => pts_one (pt_val (pe_call (ok_stands_in T) (hr.mono (by decide)) (by rfl) T.f_stands_in.g T.f_stands_in.F.kp T.f_stands_in.b .nil pass0 (pa_cons (pv 2) (pa_cons (pv 1) pa_nil))))) (fun _ _ _ _ _ => (pv 2))) (pe_lst pa_nil) (nomark _)))), ?_⟩
  refine x_start (σ' := ([some (.ref a1), some (.ref a3), none] : L2.St)) (by with_unfolding_all rfl) ?_
  rw [lacks_all] at hm
  with_reducible refine x_ret ?_
  with_reducible refine x_op ?_
  with_reducible refine x_lc ?_
  with_reducible refine x_iter ?_
  with_reducible refine x_op ?_
  refine ⟨_, rfl, ?_⟩
  refine ⟨_, _, _, _, rfl, rfl, .inl (.inl (G0.sub _ _ fa1)), atI_nat (j := 1) rfl, ?_⟩
  refine ⟨_, rfl, ⟨_, .inl (.inl (G0.sub _ _ fa2))⟩, fun p1 np1 => ?_⟩
  have g1 := Gr.newO (o := .lst []) G0.sub np1
  have o1 := Ow.new (us := []) G0 np1
  have G1 := G0.step g1
  refine lc_lst (α := (List Int)) (fun (ts1 : List (List Int)) H1 => ∃ (F1 : Hp) (x2 : List (List Int)) (us4 : List V), forK (lacks_all_c1 figures) ts1 x2 (lacks_all_k2) = some r ∧ Sub (F0) F1 ∧ Gr NA F0 H F1 H1 ∧ Ow H F1 H1 p1 us4 ∧ Rs F1 us4 x2) (Rs_mono (Sub.refl _) fr1) ⟨F0, ([] : List (List Int)), _, hm, (Sub.refl _), G1, o1, Rs_nil⟩ (fun _ _ h => ?_) (fun t1 ts2 v3 H1 hv1 hW => ?_) (fun H1 hW => ?_)
  · obtain ⟨F9, _, _, _, s9, G9, _⟩ := h
    exact G9.sub _ _ (s9 _ _ ((Sub.refl _) _ _ fa2))
  · skip
    obtain ⟨F1, x2, us4, hm, s1, G2, o2, fr3⟩ := hW
    obtain ⟨next1, hnx1⟩ : ∃ nx, nx = fun s => forK (lacks_all_c1 figures) ts2 s (lacks_all_k2) := ⟨_, rfl⟩
    have hm : (lacks_all_c1 figures) x2 t1 next1 = some r := by rw [hnx1]; exact forK_c hm
    rw [lacks_all_c1] at hm
    obtain ⟨a4, us5, rfl, fa4, fr4⟩ := lst_of hv1
    with_reducible refine x_gnE (σ' := ([some (.ref a1), some (.ref a3), some (.ref a4)] : L2.St)) (by with_unfolding_all rfl) ?_
    refine ⟨rfl, ?_⟩
    with_reducible refine x_B ?_
    with_reducible refine x_call ?_
    with_reducible refine x_cons ?_
    refine ⟨_, rfl, ?_⟩
    with_reducible refine x_cons ?_
    refine ⟨_, rfl, ?_⟩
    obtain ⟨r1, hr1, hm⟩ := bindp hm
    refine ⟨_, _, _, t1, figures, r1, rfl, G2.sub, (mk_lst (s1 _ _ fa4) (Rs_mono s1 fr4)), (mk_lst (s1 _ _ fa3) (Rs_mono s1 fr2)), hr1, fun N1 H2 v4 g2 d3  => ?_⟩
    have G3 := G2.step g2
    have o3 := o2.step g2
    obtain rfl := bl_of d3
    refine ⟨_, rfl, ?_⟩
    refine ifD (fun hc => ?_) (fun hc => ?_)
    · replace hm := itep hm hc
      refine ⟨_, rfl, ?_⟩
      obtain ⟨c1, hm⟩ := guardp hm
      have G4 := o3.mutG (o := .lst (us4 ++ [(.ref a4)])) G3
      have o4 := o3.mut (ws := us4 ++ [(.ref a4)])
      have fr5 : Rs (α := (List Int)) (N1) (us4 ++ [(.ref a4)]) (x2 ++ [t1]) := Rs_snoc (Rs_mono g2.ex fr3) (mk_lst ((s1.trans g2.ex) _ _ fa4) (Rs_mono (s1.trans g2.ex) fr4))
      rw [hnx1] at hm
      exact ⟨_, o3.at_, szl (by rw [Rs_len (Rs_mono g2.ex fr3)]; exact c1), ⟨N1, (x2 ++ [t1]), _, hm, (s1.trans g2.ex), G4, o4, fr5⟩⟩
    · replace hm := iten hm (bF hc)
      rw [hnx1] at hm
      exact ⟨N1, x2, _, hm, (s1.trans g2.ex), G3, o3, (Rs_mono g2.ex fr3)⟩
  · skip
    obtain ⟨F1, x2, us4, hm, s2, G5, o5, fr6⟩ := hW
    have hm : (lacks_all_k2) x2 = some r := forK_n hm
    rw [lacks_all_k2] at hm
    with_reducible refine x_lst ?_
    refine ⟨szle (show 0 ≤ 16777216 from by decide), fun p2 np2 => ?_⟩
    have fr7 : Rs (α := (List Int)) (F1) [] ([] : (List (List Int))) := Rs_nil
    have g3 := Gr.newO (o := .lst []) G5.sub np2
    have o6 := Ow.new (us := []) G5 np2
    have ne1 := o5.ne_new np2
    have G6 := G5.step g3
    have o7 := o5.step g3
    refine ⟨_, x2, ([] : (List (List Int))), Sub.refl _, (mk_lst o7.at_ (Rs_mono G6.sub fr6)), (mk_lst o6.at_ (Rs_mono G6.sub fr7)), ?_⟩
    obtain rfl : _ = r := Option.some.inj hm
    exact q _ _ _ G6 (.bl _)

abbrev N_stands_of : List Str := ["rule", "found", "stretch", "size", "begin"]
theorem sc_stands_of : FnScope N_stands_of ["rule"] (defScope s_stands_of) := ⟨rfl, rfl, rfl, by decide +kernel, rfl, by decide +kernel, by decide +kernel⟩
def sp_stands_of : Sp := fun vs H Q _ => ∃ (F : Hp) (v_rule : V) (rule : (Int × (List (List Int)))) (r : (List (List Int))), vs = [v_rule] ∧ Sub F H ∧ R F v_rule rule ∧ stands_of rule = some r ∧ ∀ N H2 v, Gr NA F H N H2 → R N v r → Q v H2
theorem ok_stands_of {P : Program} {w : World} {K : PySem.W.Frag} {mg : Str → Option Value} {base : Heap} (T : Txt K mg) : FnOk P w K mg base CX0 3 T.f_stands_of.f T.f_stands_of.fd ["rule"] sp_stands_of := by
  have nd := (sc_stands_of).nd
  refine T.f_stands_of.F.ok sc_stands_of (fun vs H Q E h => ?_) (fun cdv A0 outer s H vs Q E hr h => ?_)
  · obtain ⟨_, _, _, _, rfl, _⟩ := h
    rfl
  obtain ⟨F0, v_rule, rule, r, rfl, s0, f_rule, hm, q⟩ := h
  have G0 : Gr NA F0 H F0 H := Gr.refl s0
  obtain ⟨a1, v1, v2, rfl, fa1, d1, d2⟩ := tup2_of f_rule
  obtain rfl := int_of d1
  obtain ⟨a2, us1, rfl, fa2, fr1⟩ := lst_of d2
  refine ⟨_, (pss_cons (ps_set (i := 1) nd rfl (by first | exact Or.inl rfl | exact Or.inr rfl) (pe_lst (pa_cons (pe_tup (pa_cons pe_int (pa_cons (pe_lst pa_nil) pa_nil))) pa_nil))) (pss_cons (ps_for PassesOwn.never rfl (pi_list (pe_ix (r := rIxT K) ix_tup (pv 0) pe_int (fun _ _ => rfl))) (pg_name (i := 2) nd rfl (by first | exact Or.inl rfl | exact Or.inr rfl)) (pss_one (ps_for PassesOwn.never rfl (pi_range2 (by rfl) T.z_range (pa_cons pe_int (pa_cons (pe_callB (r := rLenT K) call_lenT (by rfl) T.z_len PySem.boot_len (pa_cons (pv 2) pa_nil)) pa_nil))) (pg_name (i := 3) nd rfl (by first | exact Or.inl rfl | exact Or.inr rfl)) (pss_cons (ps_set (i := 4) nd rfl (by first | exact Or.inl rfl | exact Or.inr rfl) (pe_slice (r := rSlL K) sl_list (pv 2) po_none (po_some (pv 3)))) (pss_one (ps_if (PW.pt (pw_and (pt_val (pe_call (ok_lacks_all T) (hr.mono (by decide)) (by rfl) T.f_lacks_all.g T.f_lacks_all.F.kp T.f_lacks_all.b .nil pass0 (pa_cons (pv 0) (pa_cons (pv 4) pa_nil)))) (pw_and1 (pt_cmpR (op_niT (α := (Int × (List Int))) (by decide) (hu65 hr)) (pe_tup (pa_cons (pv 3) (pa_cons (pv 4) pa_nil))) (pv 1) (by rfl))))) (pss_one (ps_expr (pe_bm PySem.F.plainAttrs_list PySem.F.slot_list_append PySem.F.type_list_append mt_append (pv 1) (pa_cons (pe_tup (pa_cons (pv 3) (pa_cons (pv 4) pa_nil))) pa_nil)))) pss_nil)))))) (pss_one (ps_ret (pe_lc (own := [("size", 3), ("begin", 4)]) (g := ((gTup K 2 (gCons (gName 3) (gCons (gName 4) gNil))))) rfl nd (pi_list (pe_callB (r := rSortedT (Int × (List Int))) (call_sortedT (by decide) (hu200' hr)) (by rfl) T.z_sorted (by decide +kernel) (pa_cons (pv 1) pa_nil))) (blkOk_by (own := [("size", 3), ("begin", 4)]) (N := N_stands_of) (sc := defScope s_stands_of) (by decide +kernel)) (fun _ _ _ _ _ => pg_tup rfl (pgs_cons (pg_name (i := 3) nd rfl (Or.inl rfl) (Or.inr rfl)) (pgs_cons (pg_name (i := 4) nd rfl (Or.inl rfl) (Or.inr rfl)) pgs_nil))) (fun _ _ _ _ _ => pts_nil) (fun _ _ _ _ _ => (pv 4))))))), ?_⟩
  refine x_start (σ' := ([some (.ref a1), none, none, none, none] : L2.St)) (by with_unfolding_all rfl) ?_
  rw [stands_of] at hm
  with_reducible refine x_seq ?_
  with_reducible refine x_asg ?_
  with_reducible refine x_lst ?_
  with_reducible refine x_cons ?_
  with_reducible refine x_tup ?_
  with_reducible refine x_cons ?_
  with_reducible refine x_c ?_
  with_reducible refine x_cons ?_
  with_reducible refine x_lst ?_
  refine ⟨szle (show 0 ≤ 16777216 from by decide), fun p1 np1 => ?_⟩
  have fr2 : Rs (α := Int) (F0) [] ([] : (List Int)) := Rs_nil
  have g1 := Gr.newO (o := .lst []) G0.sub np1
  have o1 := Ow.new (us := []) G0 np1
  have G1 := G0.step g1
  obtain ⟨F1, G2, ex1, fa3, nf1⟩ := o1.frzE G1
  have fr3 := Rs_mono ex1 fr2
  refine ⟨szle (show 2 ≤ 16777216 from by decide), fun p2 np2 => ?_⟩
  obtain ⟨F2, g2, fa4⟩ := Gr.newE (o := .tup [(.int 0), (.ref p1)]) G2.sub np2
  have G3 := G2.step g2
  refine ⟨szle (show 1 ≤ 16777216 from by decide), fun p3 np3 => ?_⟩
  have fr4 : Rs (α := (Int × (List Int))) (F2) [(.ref p2)] ([((0 : Int), ([] : (List Int)))] : (List (Int × (List Int)))) := (Rs_cons (mk_tup2 ((Sub.refl _) _ _ fa4) (.int _) (mk_lst (g2.ex _ _ fa3) (Rs_mono g2.ex fr3))) Rs_nil)
  have g3 := Gr.newO (o := .lst [(.ref p2)]) G3.sub np3
  have o2 := Ow.new (us := [(.ref p2)]) G3 np3
  have G4 := G3.step g3
  with_reducible refine x_gnE (σ' := ([some (.ref a1), some (.ref p3), none, none, none] : L2.St)) (by with_unfolding_all rfl) ?_
  with_reducible refine x_seq ?_
  with_reducible refine x_for ?_
  with_reducible refine x_iter ?_
  with_reducible refine x_op ?_
  refine ⟨_, rfl, ?_⟩
  refine ⟨_, _, _, _, rfl, rfl, .inl (.inl (((ex1.trans g2.ex).trans G4.sub) _ _ fa1)), atI_nat (j := 1) rfl, ?_⟩
  refine ⟨_, rfl, ⟨_, .inl (.inl (((ex1.trans g2.ex).trans G4.sub) _ _ fa2))⟩, ?_⟩
  refine for_lst (α := (List Int)) (fun (ts1 : List (List Int)) σ H1 => ∃ (F3 : Hp) (x1 : (List (Int × (List Int)))) (p4 : Addr) (us2 : List V) (y1 : Option V) (y2 : Option V) (y3 : Option V), forK (stands_of_b1 rule) ts1 x1 (stands_of_e2) = some r ∧ Sub (F2) F3 ∧ Gr NA F0 H F3 H1 ∧ Ow H F3 H1 p4 us2 ∧ Rs F3 us2 x1 ∧ σ = [some (.ref a1), some (.ref p4), y3, y2, y1]) (Rs_mono (ex1.trans g2.ex) fr1) ⟨F2, ([((0 : Int), ([] : (List Int)))] : (List (Int × (List Int)))), _, _, _, _, _, hm, (Sub.refl _), G4, o2, fr4, rfl⟩ (fun _ _ _ h => ?_) (fun t1 ts2 v3 σ H1 hv1 hW => ?_) (fun σ H1 hW => ?_)
  · obtain ⟨F3, x1, p4, us2, y1, y2, y3, _, s9, G9, _⟩ := h
    exact G9.sub _ _ (s9 _ _ ((ex1.trans g2.ex) _ _ fa2))
  · skip
    obtain ⟨F3, x1, p4, us2, y1, y2, y3, hm, s1, G5, o3, fr5, rfl⟩ := hW
    obtain ⟨next1, hnx1⟩ : ∃ nx, nx = fun s => forK (stands_of_b1 rule) ts2 s (stands_of_e2) := ⟨_, rfl⟩
    have hm : (stands_of_b1 rule) x1 t1 next1 = some r := by rw [hnx1]; exact forK_c hm
    rw [stands_of_b1] at hm
    obtain ⟨a3, us3, rfl, fa5, fr6⟩ := lst_of hv1
    with_reducible refine x_gnE (σ' := ([some (.ref a1), some (.ref p4), some (.ref a3), y2, y1] : L2.St)) (by with_unfolding_all rfl) ?_
    with_reducible refine x_for ?_
    with_reducible refine x_rng2 ?_
    with_reducible refine x_cons ?_
    with_reducible refine x_c ?_
    with_reducible refine x_cons ?_
    refine useEv (.int (t1.length : Int)) (by exact (ev_lenT (Evl.ev_var rfl) ((s1.trans G5.sub) _ _ fa5) (Rs_mono s1 fr6))) (fun H2 e1 => ?_)
    have g4 := gr_ex G5.sub e1
    have G6 := G5.step g4
    have o4 := o3.step g4
    obtain ⟨c1, hm⟩ := guardp hm
    refine ⟨_, _, rfl, c1.ok, ?_⟩
    refine for_rng (lo := (1 : Int)) (hi := (t1.length : Int)) rfl (fun (ts3 : List Int) σ H3 => ∃ (F4 : Hp) (x2 : (List (Int × (List Int)))) (p5 : Addr) (us4 : List V) (y4 : Option V) (y5 : Option V), forK (stands_of_b3 rule t1) ts3 x2 (stands_of_e4 next1) = some r ∧ Sub (F3) F4 ∧ Gr NA F0 H F4 H3 ∧ Ow H F4 H3 p5 us4 ∧ Rs F4 us4 x2 ∧ σ = [some (.ref a1), some (.ref p5), some (.ref a3), y5, y4]) ⟨F3, x1, _, _, _, _, hm, (Sub.refl _), G6, o4, fr5, rfl⟩ (fun t2 ts4 σ H1 hW => ?_) (fun σ H1 hW => ?_)
    · skip
      obtain ⟨F4, x2, p5, us4, y4, y5, hm, s2, G7, o5, fr7, rfl⟩ := hW
      obtain ⟨next2, hnx2⟩ : ∃ nx, nx = fun s => forK (stands_of_b3 rule t1) ts4 s (stands_of_e4 next1) := ⟨_, rfl⟩
      have hm : (stands_of_b3 rule t1) x2 t2 next2 = some r := by rw [hnx2]; exact forK_c hm
      rw [stands_of_b3] at hm
      with_reducible refine x_gnE (σ' := ([some (.ref a1), some (.ref p5), some (.ref a3), some (.int t2), y4] : L2.St)) (by with_unfolding_all rfl) ?_
      with_reducible refine x_seq ?_
      with_reducible refine x_asg ?_
      with_reducible refine x_sl ?_
      refine ⟨_, rfl, ?_⟩
      with_reducible refine x_nopart ?_
      with_reducible refine x_part ?_
      refine ⟨_, rfl, ?_⟩
      refine ⟨_, rfl, ?_⟩
      refine ⟨_, _, rfl, .inl (.inl (((s1.trans s2).trans G7.sub) _ _ fa5)), fun p6 np4 => ?_⟩
      have fr8 : Rs (α := Int) (F4) (cutV us3 none (some t2)) (cutT t1 none (some t2)) := Rs_cut (Rs_mono (s1.trans s2) fr6)
      have g5 := Gr.newO (o := .lst (cutV us3 none (some t2))) G7.sub np4
      have o6 := Ow.new (us := (cutV us3 none (some t2))) G7 np4
      have ne1 := o5.ne_new np4
      have G8 := G7.step g5
      have o7 := o5.step g5
      obtain ⟨F5, G9, ex2, fa6, nf2⟩ := o6.frzE G8
      have o8 := o7.frzN (Ne.symm (Ne.symm ne1)) nf2
      have fr9 := Rs_mono ex2 fr8
      with_reducible refine x_gnE (σ' := ([some (.ref a1), some (.ref p5), some (.ref a3), some (.int t2), some (.ref p6)] : L2.St)) (by with_unfolding_all rfl) ?_
      with_reducible refine x_if ?_
      with_reducible refine x_and ?_
      with_reducible refine x_B ?_
      with_reducible refine x_call ?_
      with_reducible refine x_cons ?_
      refine ⟨_, rfl, ?_⟩
      with_reducible refine x_cons ?_
      refine ⟨_, rfl, ?_⟩
      obtain ⟨r1, hr1, hm⟩ := bindp hm
      refine ⟨_, _, _, rule, (cutT t1 none (some t2)), r1, rfl, G9.sub, (mk_tup2 (((((ex1.trans g2.ex).trans s1).trans s2).trans ex2) _ _ fa1) (.int _) (mk_lst (((((ex1.trans g2.ex).trans s1).trans s2).trans ex2) _ _ fa2) (Rs_mono ((((ex1.trans g2.ex).trans s1).trans s2).trans ex2) fr1))), (mk_lst ((Sub.refl _) _ _ fa6) (Rs_mono (Sub.refl _) fr9)), hr1, fun N1 H4 v5 g6 d3  => ?_⟩
      have G10 := G9.step g6
      have o9 := o8.step g6
      obtain rfl := bl_of d3
      refine ⟨_, rfl, ?_⟩
      refine ifD (fun hc => ?_) (fun hc => ?_)
      · replace hm := itep hm hc
        with_reducible refine x_test ?_
        with_reducible refine x_op ?_
        with_reducible refine x_tup ?_
        with_reducible refine x_cons ?_
        refine ⟨_, rfl, ?_⟩
        with_reducible refine x_cons ?_
        refine ⟨_, rfl, ?_⟩
        refine ⟨szle (show 2 ≤ 16777216 from by decide), fun p7 np5 => ?_⟩
        obtain ⟨F6, g7, fa7⟩ := Gr.newE (o := .tup [(.int t2), (.ref p6)]) G10.sub np5
        have G11 := G10.step g7
        have o10 := o9.step g7
        refine ⟨_, rfl, ?_⟩
        refine ⟨_, (t2, (cutT t1 none (some t2))), x2, Sub.refl _, (RD.mono G11.sub (mk_tup2 ((Sub.refl _) _ _ fa7) (.int _) (mk_lst ((g6.ex.trans g7.ex) _ _ fa6) (Rs_mono (g6.ex.trans g7.ex) fr9)))), (mk_lst o10.at_ (Rs_mono G11.sub (Rs_mono g7.ex (Rs_mono g6.ex (Rs_mono ex2 fr7))))), ?_⟩
        refine ⟨_, rfl, ?_⟩
        refine ifD (fun hc => ?_) (fun hc => ?_)
        · replace hm := itep hm hc
          with_reducible refine x_drop ?_
          with_reducible refine x_bm ?_
          refine ⟨_, rfl, ?_⟩
          refine ⟨.inl ⟨rfl, _, .inl (.inl o10.at_)⟩, ?_⟩
          with_reducible refine x_cons ?_
          with_reducible refine x_tup ?_
          with_reducible refine x_cons ?_
          refine ⟨_, rfl, ?_⟩
          with_reducible refine x_cons ?_
          refine ⟨_, rfl, ?_⟩
          refine ⟨szle (show 2 ≤ 16777216 from by decide), fun p8 np6 => ?_⟩
          obtain ⟨F7, g8, fa8⟩ := Gr.newE (o := .tup [(.int t2), (.ref p6)]) G11.sub np6
          have G12 := G11.step g8
          have o11 := o10.step g8
          obtain ⟨c2, hm⟩ := guardp hm
          refine ⟨_, _, _, rfl, rfl, o11.at_, szl (by rw [Rs_len (Rs_mono g8.ex (Rs_mono g7.ex (Rs_mono g6.ex (Rs_mono ex2 fr7))))]; exact c2), ?_⟩
          have G13 := o11.mutG (o := .lst (us4 ++ [(.ref p8)])) G12
          have o12 := o11.mut (ws := us4 ++ [(.ref p8)])
          have fr10 : Rs (α := (Int × (List Int))) (F7) (us4 ++ [(.ref p8)]) (x2 ++ [(t2, (cutT t1 none (some t2)))]) := Rs_snoc (Rs_mono g8.ex (Rs_mono g7.ex (Rs_mono g6.ex (Rs_mono ex2 fr7)))) (mk_tup2 ((Sub.refl _) _ _ fa8) (.int _) (mk_lst (((g6.ex.trans g7.ex).trans g8.ex) _ _ fa6) (Rs_mono ((g6.ex.trans g7.ex).trans g8.ex) fr9)))
          rw [hnx2] at hm
          exact ⟨F7, (x2 ++ [(t2, (cutT t1 none (some t2)))]), _, _, _, _, hm, ((((s2.trans ex2).trans g6.ex).trans g7.ex).trans g8.ex), G13, o12, fr10, rfl⟩
        · replace hm := iten hm (bF hc)
          with_reducible refine x_next ?_
          rw [hnx2] at hm
          exact ⟨F6, x2, _, _, _, _, hm, (((s2.trans ex2).trans g6.ex).trans g7.ex), G11, o10, (Rs_mono g7.ex (Rs_mono g6.ex (Rs_mono ex2 fr7))), rfl⟩
      · replace hm := iten hm (bF hc)
        refine iteF ?_
        with_reducible refine x_next ?_
        rw [hnx2] at hm
        exact ⟨N1, x2, _, _, _, _, hm, ((s2.trans ex2).trans g6.ex), G10, o9, (Rs_mono g6.ex (Rs_mono ex2 fr7)), rfl⟩
    · skip
      obtain ⟨F4, x2, p5, us4, y4, y5, hm, s3, G14, o13, fr11, rfl⟩ := hW
      have hm : (stands_of_e4 next1) x2 = some r := forK_n hm
      rw [stands_of_e4] at hm
      rw [hnx1] at hm
      exact ⟨F4, x2, _, _, _, _, _, hm, (s1.trans s3), G14, o13, fr11, rfl⟩
  · skip
    obtain ⟨F3, x1, p4, us2, y1, y2, y3, hm, s4, G15, o14, fr12, rfl⟩ := hW
    have hm : (stands_of_e2) x1 = some r := forK_n hm
    rw [stands_of_e2] at hm
    with_reducible refine x_ret ?_
    with_reducible refine x_lc ?_
    with_reducible refine x_iter ?_
    with_reducible refine x_cb ?_
    with_reducible refine x_cons ?_
    refine ⟨_, rfl, ?_⟩
    obtain ⟨c3, hm⟩ := guardp hm
    refine ⟨_, _, _, x1, rfl, o14.at_, G15.sub, fr12, c3, fun p9 us5 np7 fr13 => ?_⟩
    have g9 := Gr.newO (o := .lst us5) G15.sub np7
    have o15 := Ow.new (us := us5) G15 np7
    have ne2 := o14.ne_new np7
    have G16 := G15.step g9
    have o16 := o14.step g9
    obtain ⟨F8, G17, ex3, fa9, nf3⟩ := o15.frzE G16
    have o17 := o16.frzN (Ne.symm (Ne.symm ne2)) nf3
    have fr14 := Rs_mono ex3 fr13
    refine ⟨_, rfl, ⟨_, .inl (.inl (G17.sub _ _ fa9))⟩, fun p10 np8 => ?_⟩
    have g10 := Gr.newO (o := .lst []) G17.sub np8
    have o18 := Ow.new (us := []) G17 np8
    have ne3 := o17.ne_new np8
    have G18 := G17.step g10
    have o19 := o17.step g10
    refine lc_lst (α := (Int × (List Int))) (fun (ts5 : List (Int × (List Int))) H5 => ∃ (F9 : Hp) (x4 : List (List Int)) (us7 : List V), forK (stands_of_c5) ts5 x4 (stands_of_k6) = some r ∧ Sub (F8) F9 ∧ Gr NA F0 H F9 H5 ∧ Ow H F9 H5 p10 us7 ∧ Rs F9 us7 x4 ∧ Ow H F9 H5 p4 us2) (Rs_mono (Sub.refl _) fr14) ⟨F8, ([] : List (List Int)), _, hm, (Sub.refl _), G18, o18, Rs_nil, o19⟩ (fun _ _ h => ?_) (fun t3 ts6 v6 H1 hv3 hW => ?_) (fun H1 hW => ?_)
    · obtain ⟨F9, _, _, _, s9, G9, _⟩ := h
      exact G9.sub _ _ (s9 _ _ ((Sub.refl _) _ _ fa9))
    · skip
      obtain ⟨F9, x4, us7, hm, s5, G19, o20, fr15, o21⟩ := hW
      obtain ⟨next3, hnx3⟩ : ∃ nx, nx = fun s => forK (stands_of_c5) ts6 s (stands_of_k6) := ⟨_, rfl⟩
      have hm : (stands_of_c5) x4 t3 next3 = some r := by rw [hnx3]; exact forK_c hm
      rw [stands_of_c5] at hm
      obtain ⟨a4, v7, v8, rfl, fa10, d4, d5⟩ := tup2_of hv3
      obtain rfl := int_of d4
      obtain ⟨a5, us8, rfl, fa11, fr16⟩ := lst_of d5
      refine ⟨_, _, rfl, .inl (.inl ((s5.trans G19.sub) _ _ fa10)), rfl, ?_⟩
      refine ⟨_, _, rfl, ?_⟩
      with_reducible refine x_gnE (σ' := ([some (.ref a1), some (.ref p4), y3, some (.int (t3).1), none] : L2.St)) (by with_unfolding_all rfl) ?_
      refine ⟨_, _, rfl, ?_⟩
      with_reducible refine x_gnE (σ' := ([some (.ref a1), some (.ref p4), y3, some (.int (t3).1), some (.ref a5)] : L2.St)) (by with_unfolding_all rfl) ?_
      refine ⟨rfl, ?_⟩
      refine ⟨rfl, ?_⟩
      with_reducible refine x_yes ?_
      refine iteT ?_
      refine ⟨_, rfl, ?_⟩
      obtain ⟨c4, hm⟩ := guardp hm
      have G20 := o20.mutG (o := .lst (us7 ++ [(.ref a5)])) G19
      have o22 := o20.mut (ws := us7 ++ [(.ref a5)])
      have fr17 : Rs (α := (List Int)) (F9) (us7 ++ [(.ref a5)]) (x4 ++ [(t3).2]) := Rs_snoc fr15 (mk_lst (s5 _ _ fa11) (Rs_mono s5 fr16))
      have o23 := o21.other (ws := us7 ++ [(.ref a5)]) (Ne.symm ne3)
      rw [hnx3] at hm
      exact ⟨_, o20.at_, szl (by rw [Rs_len fr15]; exact c4), ⟨F9, (x4 ++ [(t3).2]), _, hm, s5, G20, o22, fr17, o23⟩⟩
    · skip
      obtain ⟨F9, x4, us7, hm, s6, G21, o24, fr18, o25⟩ := hW
      have hm : (stands_of_k6) x4 = some r := forK_n hm
      rw [stands_of_k6] at hm
      obtain ⟨F10, G22, ex4, fa12, nf4⟩ := o24.frzE G21
      have o26 := o25.frzN (Ne.symm (Ne.symm ne3)) nf4
      have fr19 := Rs_mono ex4 fr18
      obtain rfl : _ = r := Option.some.inj hm
      exact q _ _ _ G22 (mk_lst ((Sub.refl _) _ _ fa12) (Rs_mono (Sub.refl _) fr19))

abbrev N_all_stands : List Str := ["rule"]
theorem sc_all_stands : FnScope N_all_stands ["rule"] (defScope s_all_stands) := ⟨rfl, rfl, rfl, by decide +kernel, rfl, by decide +kernel, by decide +kernel⟩
def sp_all_stands : Sp := fun vs H Q E => ∃ (F : Hp) (v_rule : V) (rule : PyData) (r : (Except Er (List (List Int)))), vs = [v_rule] ∧ Sub F H ∧ R F v_rule rule ∧ all_stands rule = some r ∧ (∀ x9, r = .ok x9 → ∀ N H2 v, Gr NA F H N H2 → R N v x9 → Q v H2) ∧ ∀ e9, r = .error e9 → ∀ N H2, Gr NA F H N H2 → E (.ref (ErT.ad e9)) none H2
theorem ok_all_stands {P : Program} {w : World} {K : PySem.W.Frag} {mg : Str → Option Value} {base : Heap} (T : Txt K mg) : FnOk P w K mg base (L2.CX P w) 7 T.f_all_stands.f T.f_all_stands.fd ["rule"] sp_all_stands := by
  have nd := (sc_all_stands).nd
  refine T.f_all_stands.F.okX sc_all_stands (fun vs H Q E h => ?_) (fun cdv A0 outer s H vs Q E hr h => ?_)
  · obtain ⟨_, _, _, _, rfl, _⟩ := h
    rfl
  obtain ⟨F0, v_rule, rule, r, rfl, s0, f_rule, hm, q, qe⟩ := h
  have G0 : Gr NA F0 H F0 H := Gr.refl s0
  refine ⟨_, (pss_cons (ps_expr (pe_callS (ok_need_rule T) (hr.mono (by decide)) (by rfl) T.f_need_rule.g T.f_need_rule.F.kp T.f_need_rule.b (fun σ => passAt (takes_of rfl rfl rfl rfl) σ) (pa_cons (pv 0) pa_nil))) (pss_one (ps_ret (pe_call (ok_stands_of T) (hr.mono (by decide)) (by rfl) T.f_stands_of.g T.f_stands_of.F.kp T.f_stands_of.b .nil pass0 (pa_cons (pv 0) pa_nil))))), ?_⟩
  refine x_start (σ' := ([some v_rule] : L2.St)) (by with_unfolding_all rfl) ?_
  rw [all_stands] at hm
  with_reducible refine x_seq ?_
  with_reducible refine x_drop ?_
  with_reducible refine x_callS ?_
  with_reducible refine x_cons ?_
  refine ⟨_, rfl, ?_⟩
  obtain ⟨r1, hr1, hm⟩ := bindp hm
  refine ⟨_, _, rule, r1, rfl, G0.sub, (RD.mono (Sub.refl _) f_rule), hr1, fun y1 e9 N1 H1 v1 g1 d1 => ?_, fun er1 e9 N1 H1 g1 => ?_⟩
  · subst e9; rw [exB_ok] at hm
    have G1 := G0.step g1
    obtain rfl := non_of d1
    with_reducible refine x_ret ?_
    with_reducible refine x_call ?_
    with_reducible refine x_cons ?_
    refine ⟨_, rfl, ?_⟩
    obtain ⟨x1, hx1, hm⟩ := bindp hm
    have d2 : R (N1) v_rule x1 := un_of (RD.mono g1.ex f_rule) hx1
    obtain ⟨a1, v2, v3, rfl, fa1, d3, d4⟩ := tup2_of d2
    obtain rfl := int_of d3
    obtain ⟨a2, us1, rfl, fa2, fr1⟩ := lst_of d4
    obtain ⟨r2, hr2, hm⟩ := bindp hm
    refine ⟨_, _, x1, r2, rfl, G1.sub, (mk_tup2 ((Sub.refl _) _ _ fa1) (.int _) (mk_lst ((Sub.refl _) _ _ fa2) (Rs_mono (Sub.refl _) fr1))), hr2, fun N2 H2 v4 g2 d5  => ?_⟩
    have G2 := G1.step g2
    obtain ⟨a3, us2, rfl, fa3, fr2⟩ := lst_of d5
    obtain rfl : Except.ok _ = r := Option.some.inj hm
    exact q _ rfl _ _ _ G2 (mk_lst ((Sub.refl _) _ _ fa3) (Rs_mono (Sub.refl _) fr2))
  · subst e9; rw [exB_err] at hm
    have G3 := G0.step g1
    obtain rfl : Except.error _ = r := Option.some.inj hm
    exact qe _ rfl _ _ G3

abbrev N_ends_of : List Str := ["rule", "figures", "at", "end", "one"]
theorem sc_ends_of : FnScope N_ends_of ["rule", "figures"] (defScope s_ends_of) := ⟨rfl, rfl, rfl, by decide +kernel, rfl, by decide +kernel, by decide +kernel⟩
def sp_ends_of : Sp := fun vs H Q _ => ∃ (F : Hp) (v_rule : V) (v_figures : V) (rule : (Int × (List (List Int)))) (figures : (List Int)) (r : (List Int)), vs = [v_rule, v_figures] ∧ Sub F H ∧ R F v_rule rule ∧ R F v_figures figures ∧ ends_of rule figures = some r ∧ ∀ N H2 v, Gr NA F H N H2 → R N v r → Q v H2
theorem ok_ends_of {P : Program} {w : World} {K : PySem.W.Frag} {mg : Str → Option Value} {base : Heap} (T : Txt K mg) : FnOk P w K mg base CX0 1 T.f_ends_of.f T.f_ends_of.fd ["rule", "figures"] sp_ends_of := by
  have nd := (sc_ends_of).nd
  refine T.f_ends_of.F.ok sc_ends_of (fun vs H Q E h => ?_) (fun cdv A0 outer s H vs Q E hr h => ?_)
  · obtain ⟨_, _, _, _, _, _, rfl, _⟩ := h
    rfl
  obtain ⟨F0, v_rule, v_figures, rule, figures, r, rfl, s0, f_rule, f_figures, hm, q⟩ := h
  have G0 : Gr NA F0 H F0 H := Gr.refl s0
  obtain ⟨a1, v1, v2, rfl, fa1, d1, d2⟩ := tup2_of f_rule
  obtain rfl := int_of d1
  obtain ⟨a2, us1, rfl, fa2, fr1⟩ := lst_of d2
  obtain ⟨a3, us2, rfl, fa3, fr2⟩ := lst_of f_figures
  refine ⟨_, (pss_cons (ps_for PassesOwn.never rfl (pi_range1 (by rfl) T.z_range (pa_cons (pe_op op_add (pe_callB (r := rLenT K) call_lenT (by rfl) T.z_len PySem.boot_len (pa_cons (pv 1) pa_nil)) pe_int) pa_nil)) (pg_name (i := 2) nd rfl (by first | exact Or.inl rfl | exact Or.inr rfl)) (pss_cons (ps_set (i := 3) nd rfl (by first | exact Or.inl rfl | exact Or.inr rfl) (pe_slice (r := rSlL K) sl_list (pv 1) (po_some (pv 2)) po_none)) (pss_one (ps_if (PW.pt (pw_or (pt_cmpR (op_eqT (α := (List Int)) (by decide) (hu64 hr)) (pv 3) (pe_lst pa_nil) (nomark _)) (pw_or1 (pt_cmpR (op_neT (α := (List (List Int))) (by decide) (hu64 hr)) (pe_lc (own := [("one", 4)]) (g := (gName 4)) rfl nd (pi_list (pe_ix (r := rIxT K) ix_tup (pv 0) pe_int (fun _ _ => rfl))) (blkOk_by (own := [("one", 4)]) (N := N_ends_of) (sc := defScope s_ends_of) (by decide +kernel)) (fun _ _ _ _ _ => pg_name (i := 4) nd rfl (Or.inl rfl)) (fun _ _ _ _ _ => pts_one (pt_cmpR (op_eqT (α := (List Int)) (by decide) (hu64 hr)) (pe_slice (r := rSlL K) sl_list (pv 4) po_none (po_some (pe_callB (r := rLenT K) call_lenT (by rfl) T.z_len PySem.boot_len (pa_cons (pv 3) pa_nil)))) (pv 3) (nomark _))) (fun _ _ _ _ _ => (pv 4))) (pe_lst pa_nil) (nomark _))))) (pss_one (ps_ret (pe_callTy (r := rListT K) call_listT (by rfl) T.z_list (by decide +kernel) (pa_cons (pv 3) pa_nil)))) pss_nil)))) (pss_one (ps_ret (pe_lst pa_nil)))), ?_⟩
  refine x_start (σ' := ([some (.ref a1), some (.ref a3), none, none, none] : L2.St)) (by with_unfolding_all rfl) ?_
  rw [ends_of] at hm
  with_reducible refine x_seq ?_
  with_reducible refine x_for ?_
  with_reducible refine x_rng1 ?_
  with_reducible refine x_cons ?_
  refine useEv (.int ((figures.length : Int) + (1 : Int))) (by exact (Evl.ev_op (ev_lenT (Evl.ev_var rfl) (G0.sub _ _ fa3) (Rs_mono (Sub.refl _) fr2)) Evl.ev_c Evl.rv_I0)) (fun H1 e1 => ?_)
  have g1 := gr_ex G0.sub e1
  have G1 := G0.step g1
  obtain ⟨c1, hm⟩ := guardp hm
  refine ⟨_, rfl, c1.lo, c1.hi, ?_⟩
  refine for_rng (lo := 0) (hi := ((figures.length : Int) + (1 : Int))) (by rw [Int.sub_zero]) (fun (ts1 : List Int) σ H2 => ∃ (F1 : Hp) (y1 : Option V) (y2 : Option V), forK (ends_of_b1 figures rule) ts1 () (ends_of_e2) = some r ∧ Sub (F0) F1 ∧ Gr NA F0 H F1 H2 ∧ σ = [some (.ref a1), some (.ref a3), y1, y2, none]) ⟨F0, _, _, hm, (Sub.refl _), G1, rfl⟩ (fun t1 ts2 σ H1 hW => ?_) (fun σ H1 hW => ?_)
  · skip
    obtain ⟨F1, y1, y2, hm, s1, G2, rfl⟩ := hW
    obtain ⟨next1, hnx1⟩ : ∃ nx, nx = fun s => forK (ends_of_b1 figures rule) ts2 s (ends_of_e2) := ⟨_, rfl⟩
    have hm : (ends_of_b1 figures rule) () t1 next1 = some r := by rw [hnx1]; exact forK_c hm
    rw [ends_of_b1] at hm
    with_reducible refine x_gnE (σ' := ([some (.ref a1), some (.ref a3), some (.int t1), y2, none] : L2.St)) (by with_unfolding_all rfl) ?_
    with_reducible refine x_seq ?_
    with_reducible refine x_asg ?_
    with_reducible refine x_sl ?_
    refine ⟨_, rfl, ?_⟩
    with_reducible refine x_part ?_
    refine ⟨_, rfl, ?_⟩
    refine ⟨_, rfl, ?_⟩
    with_reducible refine x_nopart ?_
    refine ⟨_, _, rfl, .inl (.inl ((s1.trans G2.sub) _ _ fa3)), fun p1 np1 => ?_⟩
    have fr3 : Rs (α := Int) (F1) (cutV us2 (some t1) none) (cutT figures (some t1) none) := Rs_cut (Rs_mono s1 fr2)
    have g2 := Gr.newO (o := .lst (cutV us2 (some t1) none)) G2.sub np1
    have o1 := Ow.new (us := (cutV us2 (some t1) none)) G2 np1
    have G3 := G2.step g2
    obtain ⟨F2, G4, ex1, fa4, nf1⟩ := o1.frzE G3
    have fr4 := Rs_mono ex1 fr3
    with_reducible refine x_gnE (σ' := ([some (.ref a1), some (.ref a3), some (.int t1), some (.ref p1), none] : L2.St)) (by with_unfolding_all rfl) ?_
    with_reducible refine x_if ?_
    with_reducible refine x_or ?_
    with_reducible refine x_test ?_
    refine useEv (.bl (eqT (cutT figures (some t1) none) [])) (by exact (ev_eqNil (α := Int) (Evl.ev_var rfl) (RD.mono G4.sub (mk_lst ((Sub.refl _) _ _ fa4) (Rs_mono (Sub.refl _) fr4))))) (fun H3 e2 => ?_)
    have g3 := gr_ex G4.sub e2
    have G5 := G4.step g3
    refine ⟨_, rfl, ?_⟩
    refine ifD (fun hc => ?_) (fun hc => ?_)
    · replace hm := itep hm hc
      refine iteT ?_
      with_reducible refine x_ret ?_
      with_reducible refine x_cb ?_
      with_reducible refine x_cons ?_
      refine ⟨_, rfl, ?_⟩
      refine ⟨_, _, rfl, .inl (.inl (.inl (G5.sub _ _ fa4))), fun p2 np2 => ?_⟩
      have g4 := Gr.newO (o := .lst (cutV us2 (some t1) none)) G5.sub np2
      have o2 := Ow.new (us := (cutV us2 (some t1) none)) G5 np2
      have G6 := G5.step g4
      obtain ⟨F3, G7, ex2, fa5, nf2⟩ := o2.frzE G6
      have fr5 := Rs_mono ex2 (Rs_mono (Sub.refl _) fr4)
      obtain rfl : _ = r := Option.some.inj hm
      exact q _ _ _ G7 (mk_lst ((Sub.refl _) _ _ fa5) (Rs_mono (Sub.refl _) fr5))
    · replace hm := iten hm (bF hc)
      with_reducible refine x_test ?_
      with_reducible refine x_op ?_
      with_reducible refine x_lc ?_
      with_reducible refine x_iter ?_
      with_reducible refine x_op ?_
      refine ⟨_, rfl, ?_⟩
      refine ⟨_, _, _, _, rfl, rfl, .inl (.inl (((s1.trans ex1).trans G5.sub) _ _ fa1)), atI_nat (j := 1) rfl, ?_⟩
      refine ⟨_, rfl, ⟨_, .inl (.inl (((s1.trans ex1).trans G5.sub) _ _ fa2))⟩, fun p3 np3 => ?_⟩
      have g5 := Gr.newO (o := .lst []) G5.sub np3
      have o3 := Ow.new (us := []) G5 np3
      have G8 := G5.step g5
      refine lc_lst (α := (List Int)) (fun (ts3 : List (List Int)) H4 => ∃ (F4 : Hp) (x2 : List (List Int)) (us4 : List V), forK (ends_of_c3 figures t1) ts3 x2 (ends_of_k4 figures t1 next1) = some r ∧ Sub (F2) F4 ∧ Gr NA F0 H F4 H4 ∧ Ow H F4 H4 p3 us4 ∧ Rs F4 us4 x2) (Rs_mono (s1.trans ex1) fr1) ⟨F2, ([] : List (List Int)), _, hm, (Sub.refl _), G8, o3, Rs_nil⟩ (fun _ _ h => ?_) (fun t2 ts4 v4 H1 hv2 hW => ?_) (fun H1 hW => ?_)
      · obtain ⟨F9, _, _, _, s9, G9, _⟩ := h
        exact G9.sub _ _ (s9 _ _ ((s1.trans ex1) _ _ fa2))
      · skip
        obtain ⟨F4, x2, us4, hm, s2, G9, o4, fr6⟩ := hW
        obtain ⟨next2, hnx2⟩ : ∃ nx, nx = fun s => forK (ends_of_c3 figures t1) ts4 s (ends_of_k4 figures t1 next1) := ⟨_, rfl⟩
        have hm : (ends_of_c3 figures t1) x2 t2 next2 = some r := by rw [hnx2]; exact forK_c hm
        rw [ends_of_c3] at hm
        obtain ⟨a4, us5, rfl, fa6, fr7⟩ := lst_of hv2
        with_reducible refine x_gnE (σ' := ([some (.ref a1), some (.ref a3), some (.int t1), some (.ref p1), some (.ref a4)] : L2.St)) (by with_unfolding_all rfl) ?_
        refine ⟨rfl, ?_⟩
        with_reducible refine x_test ?_
        with_reducible refine x_op ?_
        with_reducible refine x_sl ?_
        refine ⟨_, rfl, ?_⟩
        with_reducible refine x_nopart ?_
        with_reducible refine x_part ?_
        refine useEv (.int ((cutT figures (some t1) none).length : Int)) (by exact (ev_lenT (Evl.ev_var rfl) ((s2.trans G9.sub) _ _ fa4) (Rs_mono s2 fr4))) (fun H5 e3 => ?_)
        have g6 := gr_ex G9.sub e3
        have G10 := G9.step g6
        have o5 := o4.step g6
        refine ⟨_, rfl, ?_⟩
        refine ⟨_, _, rfl, .inl (.inl ((s2.trans G10.sub) _ _ fa6)), fun p4 np4 => ?_⟩
        have fr8 : Rs (α := Int) (F4) (cutV us5 none (some ((cutT figures (some t1) none).length : Int))) (cutT t2 none (some ((cutT figures (some t1) none).length : Int))) := Rs_cut (Rs_mono s2 fr7)
        have g7 := Gr.newO (o := .lst (cutV us5 none (some ((cutT figures (some t1) none).length : Int)))) G10.sub np4
        have o6 := Ow.new (us := (cutV us5 none (some ((cutT figures (some t1) none).length : Int)))) G10 np4
        have ne1 := o5.ne_new np4
        have G11 := G10.step g7
        have o7 := o5.step g7
        refine ⟨_, rfl, ?_⟩
        refine ⟨_, (cutT t2 none (some ((cutT figures (some t1) none).length : Int))), (cutT figures (some t1) none), Sub.refl _, (mk_lst o6.at_ (Rs_mono G11.sub fr8)), (RD.mono G11.sub (mk_lst (s2 _ _ fa4) (Rs_mono s2 fr4))), ?_⟩
        refine ⟨_, rfl, ?_⟩
        refine ifD (fun hc => ?_) (fun hc => ?_)
        · replace hm := itep hm hc
          refine ⟨_, rfl, ?_⟩
          obtain ⟨c2, hm⟩ := guardp hm
          have G12 := o7.mutG (o := .lst (us4 ++ [(.ref a4)])) G11
          have o8 := o7.mut (ws := us4 ++ [(.ref a4)])
          have fr9 : Rs (α := (List Int)) (F4) (us4 ++ [(.ref a4)]) (x2 ++ [t2]) := Rs_snoc fr6 (mk_lst (s2 _ _ fa6) (Rs_mono s2 fr7))
          have o9 := o6.other (ws := us4 ++ [(.ref a4)]) (Ne.symm (Ne.symm ne1))
          rw [hnx2] at hm
          exact ⟨_, o7.at_, szl (by rw [Rs_len fr6]; exact c2), ⟨F4, (x2 ++ [t2]), _, hm, s2, G12, o8, fr9⟩⟩
        · replace hm := iten hm (bF hc)
          rw [hnx2] at hm
          exact ⟨F4, x2, _, hm, s2, G11, o7, fr6⟩
      · skip
        obtain ⟨F4, x2, us4, hm, s3, G13, o10, fr10⟩ := hW
        have hm : (ends_of_k4 figures t1 next1) x2 = some r := forK_n hm
        rw [ends_of_k4] at hm
        with_reducible refine x_lst ?_
        refine ⟨szle (show 0 ≤ 16777216 from by decide), fun p5 np5 => ?_⟩
        have fr11 : Rs (α := (List Int)) (F4) [] ([] : (List (List Int))) := Rs_nil
        have g8 := Gr.newO (o := .lst []) G13.sub np5
        have o11 := Ow.new (us := []) G13 np5
        have ne2 := o10.ne_new np5
        have G14 := G13.step g8
        have o12 := o10.step g8
        refine ⟨_, x2, ([] : (List (List Int))), Sub.refl _, (mk_lst o12.at_ (Rs_mono G14.sub fr10)), (mk_lst o11.at_ (Rs_mono G14.sub fr11)), ?_⟩
        refine ⟨_, rfl, ?_⟩
        refine ifD (fun hc => ?_) (fun hc => ?_)
        · replace hm := itep hm hc
          with_reducible refine x_ret ?_
          with_reducible refine x_cb ?_
          with_reducible refine x_cons ?_
          refine ⟨_, rfl, ?_⟩
          refine ⟨_, _, rfl, .inl (.inl (.inl ((s3.trans G14.sub) _ _ fa4))), fun p6 np6 => ?_⟩
          have g9 := Gr.newO (o := .lst (cutV us2 (some t1) none)) G14.sub np6
          have o13 := Ow.new (us := (cutV us2 (some t1) none)) G14 np6
          have G15 := G14.step g9
          obtain ⟨F5, G16, ex3, fa7, nf3⟩ := o13.frzE G15
          have fr12 := Rs_mono ex3 (Rs_mono s3 fr4)
          obtain rfl : _ = r := Option.some.inj hm
          exact q _ _ _ G16 (mk_lst ((Sub.refl _) _ _ fa7) (Rs_mono (Sub.refl _) fr12))
        · replace hm := iten hm (bF hc)
          with_reducible refine x_next ?_
          rw [hnx1] at hm
          exact ⟨F4, _, _, hm, ((s1.trans ex1).trans s3), G14, rfl⟩
  · skip
    obtain ⟨F1, y1, y2, hm, s4, G17, rfl⟩ := hW
    have hm : (ends_of_e2) () = some r := forK_n hm
    rw [ends_of_e2] at hm
    with_reducible refine x_ret ?_
    with_reducible refine x_lst ?_
    refine ⟨szle (show 0 ≤ 16777216 from by decide), fun p7 np7 => ?_⟩
    have fr13 : Rs (α := Int) (F1) [] ([] : (List Int)) := Rs_nil
    have g10 := Gr.newO (o := .lst []) G17.sub np7
    have o14 := Ow.new (us := []) G17 np7
    have G18 := G17.step g10
    obtain ⟨F6, G19, ex4, fa8, nf4⟩ := o14.frzE G18
    have fr14 := Rs_mono ex4 fr13
    obtain rfl : _ = r := Option.some.inj hm
    exact q _ _ _ G19 (mk_lst ((Sub.refl _) _ _ fa8) (Rs_mono (Sub.refl _) fr14))

abbrev N_stand_of : List Str := ["rule", "figures"]
theorem sc_stand_of : FnScope N_stand_of ["rule", "figures"] (defScope s_stand_of) := ⟨rfl, rfl, rfl, by decide +kernel, rfl, by decide +kernel, by decide +kernel⟩
def sp_stand_of : Sp := fun vs H Q _ => ∃ (F : Hp) (v_rule : V) (v_figures : V) (rule : (Int × (List (List Int)))) (figures : (List Int)) (r : (Option (List Int))), vs = [v_rule, v_figures] ∧ Sub F H ∧ R F v_rule rule ∧ R F v_figures figures ∧ stand_of rule figures = some r ∧ ∀ N H2 v, Gr NA F H N H2 → R N v r → Q v H2
theorem ok_stand_of {P : Program} {w : World} {K : PySem.W.Frag} {mg : Str → Option Value} {base : Heap} (T : Txt K mg) : FnOk P w K mg base CX0 3 T.f_stand_of.f T.f_stand_of.fd ["rule", "figures"] sp_stand_of := by
  have nd := (sc_stand_of).nd
  refine T.f_stand_of.F.ok sc_stand_of (fun vs H Q E h => ?_) (fun cdv A0 outer s H vs Q E hr h => ?_)
  · obtain ⟨_, _, _, _, _, _, rfl, _⟩ := h
    rfl
  obtain ⟨F0, v_rule, v_figures, rule, figures, r, rfl, s0, f_rule, f_figures, hm, q⟩ := h
  have G0 : Gr NA F0 H F0 H := Gr.refl s0
  obtain ⟨a1, v1, v2, rfl, fa1, d1, d2⟩ := tup2_of f_rule
  obtain rfl := int_of d1
  obtain ⟨a2, us1, rfl, fa2, fr1⟩ := lst_of d2
  obtain ⟨a3, us2, rfl, fa3, fr2⟩ := lst_of f_figures
  refine ⟨_, (pss_cons (ps_if (pt_not (pt_val (pe_call (ok_lacks_all T) (hr.mono (by decide)) (by rfl) T.f_lacks_all.g T.f_lacks_all.F.kp T.f_lacks_all.b .nil pass0 (pa_cons (pv 0) (pa_cons (pv 1) pa_nil))))) (pss_one (ps_ret pe_non)) pss_nil) (pss_one (ps_ret (pe_call (ok_ends_of T) (hr.mono (by decide)) (by rfl) T.f_ends_of.g T.f_ends_of.F.kp T.f_ends_of.b .nil pass0 (pa_cons (pv 0) (pa_cons (pv 1) pa_nil)))))), ?_⟩
  refine x_start (σ' := ([some (.ref a1), some (.ref a3)] : L2.St)) (by with_unfolding_all rfl) ?_
  rw [stand_of] at hm
  with_reducible refine x_seq ?_
  with_reducible refine x_if ?_
  with_reducible refine x_not ?_
  with_reducible refine x_B ?_
  with_reducible refine x_call ?_
  with_reducible refine x_cons ?_
  refine ⟨_, rfl, ?_⟩
  with_reducible refine x_cons ?_
  refine ⟨_, rfl, ?_⟩
  obtain ⟨r1, hr1, hm⟩ := bindp hm
  refine ⟨_, _, _, rule, figures, r1, rfl, G0.sub, (mk_tup2 ((Sub.refl _) _ _ fa1) (.int _) (mk_lst ((Sub.refl _) _ _ fa2) (Rs_mono (Sub.refl _) fr1))), (mk_lst ((Sub.refl _) _ _ fa3) (Rs_mono (Sub.refl _) fr2)), hr1, fun N1 H1 v3 g1 d3  => ?_⟩
  have G1 := G0.step g1
  obtain rfl := bl_of d3
  refine ⟨_, rfl, ?_⟩
  refine ifD (fun hc => ?_) (fun hc => ?_)
  · replace hm := itep hm hc
    with_reducible refine x_ret ?_
    with_reducible refine x_c ?_
    obtain rfl : _ = r := Option.some.inj hm
    exact q _ _ _ G1 (RD.mono (Sub.refl _) (RD.non))
  · replace hm := iten hm (bF hc)
    with_reducible refine x_next ?_
    with_reducible refine x_ret ?_
    with_reducible refine x_call ?_
    with_reducible refine x_cons ?_
    refine ⟨_, rfl, ?_⟩
    with_reducible refine x_cons ?_
    refine ⟨_, rfl, ?_⟩
    obtain ⟨r2, hr2, hm⟩ := bindp hm
    refine ⟨_, _, _, rule, figures, r2, rfl, G1.sub, (mk_tup2 (g1.ex _ _ fa1) (.int _) (mk_lst (g1.ex _ _ fa2) (Rs_mono g1.ex fr1))), (mk_lst (g1.ex _ _ fa3) (Rs_mono g1.ex fr2)), hr2, fun N2 H2 v4 g2 d4  => ?_⟩
    have G2 := G1.step g2
    obtain ⟨a4, us3, rfl, fa4, fr3⟩ := lst_of d4
    have d5 : R (N2) (.ref a4) (some r2) := (mk_lst ((Sub.refl _) _ _ fa4) (Rs_mono (Sub.refl _) fr3))
    obtain rfl : _ = r := Option.some.inj hm
    exact q _ _ _ G2 (RD.mono (Sub.refl _) d5)

abbrev N_stand_behind : List Str := ["rule", "figures"]
theorem sc_stand_behind : FnScope N_stand_behind ["rule", "figures"] (defScope s_stand_behind) := ⟨rfl, rfl, rfl, by decide +kernel, rfl, by decide +kernel, by decide +kernel⟩
def sp_stand_behind : Sp := fun vs H Q E => ∃ (F : Hp) (v_rule : V) (v_figures : V) (rule : PyData) (figures : PyData) (r : (Except Er (Option (List Int)))), vs = [v_rule, v_figures] ∧ Sub F H ∧ R F v_rule rule ∧ R F v_figures figures ∧ stand_behind rule figures = some r ∧ (∀ x9, r = .ok x9 → ∀ N H2 v, Gr NA F H N H2 → R N v x9 → Q v H2) ∧ ∀ e9, r = .error e9 → ∀ N H2, Gr NA F H N H2 → E (.ref (ErT.ad e9)) none H2
theorem ok_stand_behind {P : Program} {w : World} {K : PySem.W.Frag} {mg : Str → Option Value} {base : Heap} (T : Txt K mg) : FnOk P w K mg base (L2.CX P w) 7 T.f_stand_behind.f T.f_stand_behind.fd ["rule", "figures"] sp_stand_behind := by
  have nd := (sc_stand_behind).nd
  refine T.f_stand_behind.F.okX sc_stand_behind (fun vs H Q E h => ?_) (fun cdv A0 outer s H vs Q E hr h => ?_)
  · obtain ⟨_, _, _, _, _, _, rfl, _⟩ := h
    rfl
  obtain ⟨F0, v_rule, v_figures, rule, figures, r, rfl, s0, f_rule, f_figures, hm, q, qe⟩ := h
  have G0 : Gr NA F0 H F0 H := Gr.refl s0
  refine ⟨_, (pss_cons (ps_expr (pe_callS (ok_need_rule T) (hr.mono (by decide)) (by rfl) T.f_need_rule.g T.f_need_rule.F.kp T.f_need_rule.b (fun σ => passAt (takes_of rfl rfl rfl rfl) σ) (pa_cons (pv 0) pa_nil))) (pss_cons (ps_if (pt_not (pt_val (pe_call (ok_are_figures T) (hr.mono (by decide)) (by rfl) T.f_are_figures.g T.f_are_figures.F.kp T.f_are_figures.b .nil pass0 (pa_cons (pe_ix (r := rIx K) ix_seq (pv 0) pe_int (fun _ _ => rfl)) (pa_cons (pv 1) pa_nil))))) (pss_one (ps_raiseE rfl (takes_of rfl rfl rfl rfl) (T.er.r .NoFigures) (by rfl))) pss_nil) (pss_one (ps_ret (pe_call (ok_stand_of T) (hr.mono (by decide)) (by rfl) T.f_stand_of.g T.f_stand_of.F.kp T.f_stand_of.b .nil pass0 (pa_cons (pv 0) (pa_cons (pv 1) pa_nil))))))), ?_⟩
  refine x_start (σ' := ([some v_rule, some v_figures] : L2.St)) (by with_unfolding_all rfl) ?_
  rw [stand_behind] at hm
  with_reducible refine x_seq ?_
  with_reducible refine x_drop ?_
  with_reducible refine x_callS ?_
  with_reducible refine x_cons ?_
  refine ⟨_, rfl, ?_⟩
  obtain ⟨r1, hr1, hm⟩ := bindp hm
  refine ⟨_, _, rule, r1, rfl, G0.sub, (RD.mono (Sub.refl _) f_rule), hr1, fun y1 e9 N1 H1 v1 g1 d1 => ?_, fun er1 e9 N1 H1 g1 => ?_⟩
  · subst e9; rw [exB_ok] at hm
    have G1 := G0.step g1
    obtain rfl := non_of d1
    with_reducible refine x_seq ?_
    with_reducible refine x_if ?_
    with_reducible refine x_not ?_
    with_reducible refine x_B ?_
    with_reducible refine x_call ?_
    with_reducible refine x_cons ?_
    with_reducible refine x_op ?_
    refine ⟨_, rfl, ?_⟩
    with_reducible refine x_c ?_
    obtain ⟨x1, hx1, hm⟩ := bindp hm
    obtain ⟨x2, hx2, hm⟩ := bindp hm
    obtain ⟨v2, d2, kq1⟩ := ixD (K := K) G1.sub (RD.mono g1.ex f_rule) hx1 hx2
    refine kq1 _ ?_
    with_reducible refine x_cons ?_
    refine ⟨_, rfl, ?_⟩
    obtain ⟨x3, hx3, hm⟩ := bindp hm
    obtain rfl := asInt_of (RD.mono (Sub.refl _) d2) hx3
    obtain ⟨r2, hr2, hm⟩ := bindp hm
    refine ⟨_, _, _, x3, figures, r2, rfl, G1.sub, (.int _), (RD.mono g1.ex f_figures), hr2, fun N2 H2 v3 g2 d3  => ?_⟩
    have G2 := G1.step g2
    obtain rfl := bl_of d3
    refine ⟨_, rfl, ?_⟩
    refine ifD (fun hc => ?_) (fun hc => ?_)
    · replace hm := itep hm hc
      obtain rfl : Except.error _ = r := Option.some.inj hm
      exact qe _ rfl _ _ G2
    · replace hm := iten hm (bF hc)
      with_reducible refine x_next ?_
      with_reducible refine x_ret ?_
      with_reducible refine x_call ?_
      with_reducible refine x_cons ?_
      refine ⟨_, rfl, ?_⟩
      with_reducible refine x_cons ?_
      refine ⟨_, rfl, ?_⟩
      obtain ⟨x4, hx4, hm⟩ := bindp hm
      have d4 : R (N2) v_rule x4 := un_of (RD.mono (g1.ex.trans g2.ex) f_rule) hx4
      obtain ⟨a1, v4, v5, rfl, fa1, d5, d6⟩ := tup2_of d4
      obtain rfl := int_of d5
      obtain ⟨a2, us1, rfl, fa2, fr1⟩ := lst_of d6
      obtain ⟨x5, hx5, hm⟩ := bindp hm
      have d7 : R (N2) v_figures x5 := un_of (RD.mono (g1.ex.trans g2.ex) f_figures) hx5
      obtain ⟨a3, us2, rfl, fa3, fr2⟩ := lst_of d7
      obtain ⟨r3, hr3, hm⟩ := bindp hm
      refine ⟨_, _, _, x4, x5, r3, rfl, G2.sub, (mk_tup2 ((Sub.refl _) _ _ fa1) (.int _) (mk_lst ((Sub.refl _) _ _ fa2) (Rs_mono (Sub.refl _) fr1))), (mk_lst ((Sub.refl _) _ _ fa3) (Rs_mono (Sub.refl _) fr2)), hr3, fun N3 H3 v6 g3 d8  => ?_⟩
      have G3 := G2.step g3
      obtain rfl : Except.ok _ = r := Option.some.inj hm
      exact q _ rfl _ _ _ G3 (RD.mono (Sub.refl _) d8)
  · subst e9; rw [exB_err] at hm
    have G4 := G0.step g1
    obtain rfl : Except.error _ = r := Option.some.inj hm
    exact qe _ rfl _ _ G4

abbrev N_step_from : List Str := ["rule", "stand", "figure"]
theorem sc_step_from : FnScope N_step_from ["rule", "stand", "figure"] (defScope s_step_from) := ⟨rfl, rfl, rfl, by decide +kernel, rfl, by decide +kernel, by decide +kernel⟩
def sp_step_from : Sp := fun vs H Q E => ∃ (F : Hp) (v_rule : V) (v_stand : V) (v_figure : V) (rule : PyData) (stand : PyData) (figure : PyData) (r : (Except Er (Option (List Int)))), vs = [v_rule, v_stand, v_figure] ∧ Sub F H ∧ R F v_rule rule ∧ R F v_stand stand ∧ R F v_figure figure ∧ step_from rule stand figure = some r ∧ (∀ x9, r = .ok x9 → ∀ N H2 v, Gr NA F H N H2 → R N v x9 → Q v H2) ∧ ∀ e9, r = .error e9 → ∀ N H2, Gr NA F H N H2 → E (.ref (ErT.ad e9)) none H2
theorem ok_step_from {P : Program} {w : World} {K : PySem.W.Frag} {mg : Str → Option Value} {base : Heap} (T : Txt K mg) : FnOk P w K mg base (L2.CX P w) 7 T.f_step_from.f T.f_step_from.fd ["rule", "stand", "figure"] sp_step_from := by
  have nd := (sc_step_from).nd
  refine T.f_step_from.F.okX sc_step_from (fun vs H Q E h => ?_) (fun cdv A0 outer s H vs Q E hr h => ?_)
  · obtain ⟨_, _, _, _, _, _, _, _, rfl, _⟩ := h
    rfl
  obtain ⟨F0, v_rule, v_stand, v_figure, rule, stand, figure, r, rfl, s0, f_rule, f_stand, f_figure, hm, q, qe⟩ := h
  have G0 : Gr NA F0 H F0 H := Gr.refl s0
  refine ⟨_, (pss_cons (ps_expr (pe_callS (ok_need_rule T) (hr.mono (by decide)) (by rfl) T.f_need_rule.g T.f_need_rule.F.kp T.f_need_rule.b (fun σ => passAt (takes_of rfl rfl rfl rfl) σ) (pa_cons (pv 0) pa_nil))) (pss_cons (ps_if (PW.pt (pw_or (pt_not (pt_val (pe_call (ok_are_figures T) (hr.mono (by decide)) (by rfl) T.f_are_figures.g T.f_are_figures.F.kp T.f_are_figures.b .nil pass0 (pa_cons (pe_ix (r := rIx K) ix_seq (pv 0) pe_int (fun _ _ => rfl)) (pa_cons (pv 1) pa_nil))))) (pw_or1 (pt_cmpR (op_niT (α := (List Int)) (by decide) (hu65 hr)) (pv 1) (pe_call (ok_stands_of T) (hr.mono (by decide)) (by rfl) T.f_stands_of.g T.f_stands_of.F.kp T.f_stands_of.b .nil pass0 (pa_cons (pv 0) pa_nil)) (by rfl))))) (pss_one (ps_raiseE rfl (takes_of rfl rfl rfl rfl) (T.er.r .NoStand) (by rfl))) pss_nil) (pss_cons (ps_if (pt_not (pt_val (pe_call (ok_is_figure T) (hr.mono (by decide)) (by rfl) T.f_is_figure.g T.f_is_figure.F.kp T.f_is_figure.b .nil pass0 (pa_cons (pe_ix (r := rIx K) ix_seq (pv 0) pe_int (fun _ _ => rfl)) (pa_cons (pv 2) pa_nil))))) (pss_one (ps_raiseE rfl (takes_of rfl rfl rfl rfl) (T.er.r .NoFigures) (by rfl))) pss_nil) (pss_one (ps_ret (pe_call (ok_stand_of T) (hr.mono (by decide)) (by rfl) T.f_stand_of.g T.f_stand_of.F.kp T.f_stand_of.b .nil pass0 (pa_cons (pv 0) (pa_cons (pe_op op_cat (pv 1) (pe_lst (pa_cons (pv 2) pa_nil))) pa_nil)))))))), ?_⟩
  refine x_start (σ' := ([some v_rule, some v_stand, some v_figure] : L2.St)) (by with_unfolding_all rfl) ?_
  rw [step_from] at hm
  with_reducible refine x_seq ?_
  with_reducible refine x_drop ?_
  with_reducible refine x_callS ?_
  with_reducible refine x_cons ?_
  refine ⟨_, rfl, ?_⟩
  obtain ⟨r1, hr1, hm⟩ := bindp hm
  refine ⟨_, _, rule, r1, rfl, G0.sub, (RD.mono (Sub.refl _) f_rule), hr1, fun y1 e9 N1 H1 v1 g1 d1 => ?_, fun er1 e9 N1 H1 g1 => ?_⟩
  · subst e9; rw [exB_ok] at hm
    have G1 := G0.step g1
    obtain rfl := non_of d1
    with_reducible refine x_seq ?_
    with_reducible refine x_if ?_
    with_reducible refine x_or ?_
    with_reducible refine x_not ?_
    with_reducible refine x_B ?_
    with_reducible refine x_call ?_
    with_reducible refine x_cons ?_
    with_reducible refine x_op ?_
    refine ⟨_, rfl, ?_⟩
    with_reducible refine x_c ?_
    obtain ⟨x1, hx1, hm⟩ := bindp hm
    obtain ⟨x2, hx2, hm⟩ := bindp hm
    obtain ⟨v2, d2, kq1⟩ := ixD (K := K) G1.sub (RD.mono g1.ex f_rule) hx1 hx2
    refine kq1 _ ?_
    with_reducible refine x_cons ?_
    refine ⟨_, rfl, ?_⟩
    obtain ⟨x3, hx3, hm⟩ := bindp hm
    obtain rfl := asInt_of (RD.mono (Sub.refl _) d2) hx3
    obtain ⟨r2, hr2, hm⟩ := bindp hm
    refine ⟨_, _, _, x3, stand, r2, rfl, G1.sub, (.int _), (RD.mono g1.ex f_stand), hr2, fun N2 H2 v3 g2 d3  => ?_⟩
    have G2 := G1.step g2
    obtain rfl := bl_of d3
    refine ⟨_, rfl, ?_⟩
    refine ifD (fun hc => ?_) (fun hc => ?_)
    · replace hm := itep hm hc
      refine iteT ?_
      obtain rfl : Except.error _ = r := Option.some.inj hm
      exact qe _ rfl _ _ G2
    · replace hm := iten hm (bF hc)
      with_reducible refine x_test ?_
      with_reducible refine x_op ?_
      refine ⟨_, rfl, ?_⟩
      with_reducible refine x_call ?_
      with_reducible refine x_cons ?_
      refine ⟨_, rfl, ?_⟩
      obtain ⟨x4, hx4, hm⟩ := bindp hm
      have d4 : R (N2) v_rule x4 := un_of (RD.mono (g1.ex.trans g2.ex) f_rule) hx4
      obtain ⟨a1, v4, v5, rfl, fa1, d5, d6⟩ := tup2_of d4
      obtain rfl := int_of d5
      obtain ⟨a2, us1, rfl, fa2, fr1⟩ := lst_of d6
      obtain ⟨r3, hr3, hm⟩ := bindp hm
      refine ⟨_, _, x4, r3, rfl, G2.sub, (mk_tup2 ((Sub.refl _) _ _ fa1) (.int _) (mk_lst ((Sub.refl _) _ _ fa2) (Rs_mono (Sub.refl _) fr1))), hr3, fun N3 H3 v6 g3 d7  => ?_⟩
      have G3 := G2.step g3
      obtain ⟨a3, us2, rfl, fa3, fr2⟩ := lst_of d7
      obtain ⟨x5, hx5, hm⟩ := bindp hm
      have d8 : R (N3) v_stand x5 := un_of (RD.mono ((g1.ex.trans g2.ex).trans g3.ex) f_stand) hx5
      obtain ⟨a4, us3, rfl, fa4, fr3⟩ := lst_of d8
      refine ⟨_, x5, r3, Sub.refl _, (RD.mono G3.sub (mk_lst ((Sub.refl _) _ _ fa4) (Rs_mono (Sub.refl _) fr3))), (RD.mono G3.sub (mk_lst ((Sub.refl _) _ _ fa3) (Rs_mono (Sub.refl _) fr2))), ?_⟩
      refine ⟨_, rfl, ?_⟩
      refine ifD (fun hc => ?_) (fun hc => ?_)
      · replace hm := itep hm hc
        obtain rfl : Except.error _ = r := Option.some.inj hm
        exact qe _ rfl _ _ G3
      · replace hm := iten hm (bF hc)
        with_reducible refine x_next ?_
        with_reducible refine x_seq ?_
        with_reducible refine x_if ?_
        with_reducible refine x_not ?_
        with_reducible refine x_B ?_
        with_reducible refine x_call ?_
        with_reducible refine x_cons ?_
        with_reducible refine x_op ?_
        refine ⟨_, rfl, ?_⟩
        with_reducible refine x_c ?_
        refine .inr (.inl ⟨_, _, _, _, rfl, rfl, .inl (.inl ((g3.ex.trans G3.sub) _ _ fa1)), atI_nat (j := 0) rfl, ?_⟩)
        with_reducible refine x_cons ?_
        refine ⟨_, rfl, ?_⟩
        obtain ⟨r4, hr4, hm⟩ := bindp hm
        refine ⟨_, _, _, (x4).1, figure, r4, rfl, G3.sub, (.int _), (RD.mono ((g1.ex.trans g2.ex).trans g3.ex) f_figure), hr4, fun N4 H4 v7 g4 d9  => ?_⟩
        have G4 := G3.step g4
        obtain rfl := bl_of d9
        refine ⟨_, rfl, ?_⟩
        refine ifD (fun hc => ?_) (fun hc => ?_)
        · replace hm := itep hm hc
          obtain rfl : Except.error _ = r := Option.some.inj hm
          exact qe _ rfl _ _ G4
        · replace hm := iten hm (bF hc)
          with_reducible refine x_next ?_
          with_reducible refine x_ret ?_
          with_reducible refine x_call ?_
          with_reducible refine x_cons ?_
          refine ⟨_, rfl, ?_⟩
          with_reducible refine x_cons ?_
          with_reducible refine x_op ?_
          refine ⟨_, rfl, ?_⟩
          with_reducible refine x_lst ?_
          with_reducible refine x_cons ?_
          refine ⟨_, rfl, ?_⟩
          refine ⟨szle (show 1 ≤ 16777216 from by decide), fun p1 np1 => ?_⟩
          have fr4 : Rs (α := PyData) (N4) [v_figure] ([figure] : (List PyData)) := (Rs_cons (RD.mono (((g1.ex.trans g2.ex).trans g3.ex).trans g4.ex) f_figure) Rs_nil)
          have g5 := Gr.newO (o := .lst [v_figure]) G4.sub np1
          have o1 := Ow.new (us := [v_figure]) G4 np1
          have G5 := G4.step g5
          obtain ⟨c1, hm⟩ := guardp hm
          refine ⟨_, _, _, _, rfl, rfl, ((g4.ex.trans G5.sub) _ _ fa4), o1.at_, szle (by rw [Rs_len (Rs_any (Rs_mono g4.ex fr3)), Rs_len fr4]; exact c1), fun p2 np2 => ?_⟩
          have fr5 : Rs (α := PyData) (N4) (us3 ++ [v_figure]) ((x5.map fun z => (PyData.int z)) ++ ([figure] : (List PyData))) := Rs_app (Rs_any (Rs_mono g4.ex fr3)) fr4
          have g6 := Gr.newO (o := .lst (us3 ++ [v_figure])) G5.sub np2
          have o2 := Ow.new (us := (us3 ++ [v_figure])) G5 np2
          have G6 := G5.step g6
          obtain ⟨F1, G7, ex1, fa5, nf1⟩ := o2.frzE G6
          have fr6 := Rs_mono ex1 fr5
          have d10 : R (α := PyData) (F1) (.ref p2) (PyData.list ((x5.map fun z => (PyData.int z)) ++ ([figure] : (List PyData)))) := (R_anyL (mk_lst ((Sub.refl _) _ _ fa5) (Rs_mono (Sub.refl _) fr6)))
          obtain ⟨x6, hx6, hm⟩ := bindp hm
          have d11 : R (F1) (.ref p2) x6 := un_of (RD.mono (Sub.refl _) d10) hx6
          obtain ⟨us4, fa6, fr7⟩ := lst_ref d11
          obtain ⟨r5, hr5, hm⟩ := bindp hm
          refine ⟨_, _, _, x4, x6, r5, rfl, G7.sub, (mk_tup2 (((g3.ex.trans g4.ex).trans ex1) _ _ fa1) (.int _) (mk_lst (((g3.ex.trans g4.ex).trans ex1) _ _ fa2) (Rs_mono ((g3.ex.trans g4.ex).trans ex1) fr1))), (mk_lst ((Sub.refl _) _ _ fa6) (Rs_mono (Sub.refl _) fr7)), hr5, fun N5 H5 v8 g7 d12  => ?_⟩
          have G8 := G7.step g7
          obtain rfl : Except.ok _ = r := Option.some.inj hm
          exact q _ rfl _ _ _ G8 (RD.mono (Sub.refl _) d12)
  · subst e9; rw [exB_err] at hm
    have G9 := G0.step g1
    obtain rfl : Except.error _ = r := Option.some.inj hm
    exact qe _ rfl _ _ G9

abbrev N__law_caught : List Str := ["door", "rule", "one", "figure", "caught", "e"]
theorem sc__law_caught : FnScope N__law_caught ["door", "rule", "one", "figure"] (defScope s__law_caught) := ⟨rfl, rfl, rfl, by decide +kernel, rfl, by decide +kernel, by decide +kernel⟩
def sp__law_caught : Sp := fun vs H Q _ => ∃ (F : Hp) (v_door : V) (v_rule : V) (v_one : V) (v_figure : V) (door : Int) (rule : PyData) (one : PyData) (figure : PyData) (r : (Option Er)), vs = [v_door, v_rule, v_one, v_figure] ∧ Sub F H ∧ R F v_door door ∧ R F v_rule rule ∧ R F v_one one ∧ R F v_figure figure ∧ _law_caught door rule one figure = some r ∧ ∀ N H2 v, Gr NA F H N H2 → RX N v r → Q v H2
theorem ok__law_caught {P : Program} {w : World} {K : PySem.W.Frag} {mg : Str → Option Value} {base : Heap} (T : Txt K mg) : FnOk P w K mg base CX0 8 T.f__law_caught.f T.f__law_caught.fd ["door", "rule", "one", "figure"] sp__law_caught := by
  have nd := (sc__law_caught).nd
  refine T.f__law_caught.F.ok sc__law_caught (fun vs H Q E h => ?_) (fun cdv A0 outer s H vs Q E hr h => ?_)
  · obtain ⟨_, _, _, _, _, _, _, _, _, _, rfl, _⟩ := h
    rfl
  obtain ⟨F0, v_door, v_rule, v_one, v_figure, door, rule, one, figure, r, rfl, s0, f_door, f_rule, f_one, f_figure, hm, q⟩ := h
  have G0 : Gr NA F0 H F0 H := Gr.refl s0
  obtain rfl := int_of f_door
  refine ⟨_, (pss_cons (ps_set (i := 4) nd rfl (by first | exact Or.inl rfl | exact Or.inr rfl) pe_non) (pss_cons (ps_try_keep (i := 5) (L := .ref ErT.lack) rfl rfl nd rfl rfl ⟨by rfl, by decide, Or.inl T.er.lg⟩ (fun W pn xe tk _ => (pss_one (ps_if (pt_cmp (pc_eqI (pv 0) pe_int)) (pss_one (ps_expr (pe_callS (ok_stand_behind T) (hr.mono (by decide)) (by rfl) T.f_stand_behind.g T.f_stand_behind.F.kp T.f_stand_behind.b (fun σ => passAt tk σ) (pa_cons (pv 1) (pa_cons (pv 2) pa_nil))))) (pss_one (ps_if (pt_cmp (pc_eqI (pv 0) pe_int)) (pss_one (ps_expr (pe_callS (ok_all_stands T) (hr.mono (by decide)) (by rfl) T.f_all_stands.g T.f_all_stands.F.kp T.f_all_stands.b (fun σ => passAt tk σ) (pa_cons (pv 1) pa_nil)))) (pss_one (ps_expr (pe_callS (ok_step_from T) (hr.mono (by decide)) (by rfl) T.f_step_from.g T.f_step_from.F.kp T.f_step_from.b (fun σ => passAt tk σ) (pa_cons (pv 1) (pa_cons (pv 2) (pa_cons (pv 3) pa_nil))))))))))) (fun a9 pn => (pss_one (ps_set (i := 4) nd rfl (by first | exact Or.inl rfl | exact Or.inr rfl) (pv 5))))) (pss_one (ps_ret (pv 4))))), ?_⟩
  refine x_start (σ' := ([some (.int door), some v_rule, some v_one, some v_figure, none, none] : L2.St)) (by with_unfolding_all rfl) ?_
  rw [_law_caught] at hm
  with_reducible refine x_seq ?_
  with_reducible refine x_asg ?_
  with_reducible refine x_c ?_
  with_reducible refine x_gnE (σ' := ([some (.int door), some v_rule, some v_one, some v_figure, some .non, none] : L2.St)) (by with_unfolding_all rfl) ?_
  with_reducible refine x_seq ?_
  with_reducible refine x_if ?_
  with_reducible refine x_B ?_
  refine useEv (.bl (decide (door = (0 : Int)))) (by exact (ev_cmp (Evl.ev_var rfl) Evl.ev_c)) (fun H1 e1 => ?_)
  have g1 := gr_ex G0.sub e1
  have G1 := G0.step g1
  refine ⟨_, rfl, ?_⟩
  refine ifD (fun hc => ?_) (fun hc => ?_)
  · replace hm := itep hm hc
    with_reducible refine x_drop ?_
    with_reducible refine x_callS ?_
    with_reducible refine x_cons ?_
    refine ⟨_, rfl, ?_⟩
    with_reducible refine x_cons ?_
    refine ⟨_, rfl, ?_⟩
    obtain ⟨r1, hr1, hm⟩ := bindp hm
    refine ⟨_, _, _, rule, one, r1, rfl, G1.sub, (RD.mono (Sub.refl _) f_rule), (RD.mono (Sub.refl _) f_one), hr1, fun y1 e9 N1 H2 v1 g2 d1 => ?_, fun er1 e9 N1 H2 g2 => ?_⟩
    · subst e9; rw [exB_ok] at hm
      have G2 := G1.step g2
      with_reducible refine x_ret ?_
      refine ⟨_, rfl, ?_⟩
      obtain rfl : _ = r := Option.some.inj hm
      exact q _ _ _ G2 (RX.mono g2.ex RX_none)
    · subst e9; rw [exB_err] at hm
      have G3 := G1.step g2
      refine x_keep T.er (fun a1 na1 => ?_)
      obtain ⟨F1, g3, fa1⟩ := Gr.newE (o := EV (ErT.ad er1) a1) G3.sub na1
      have G4 := G3.step g3
      have d2 : RX F1 (.ref a1) (some er1) := ⟨_, rfl, fa1⟩
      refine x_stE (σ' := ([some (.int door), some v_rule, some v_one, some v_figure, some .non, some (.ref a1)] : L2.St)) (by with_unfolding_all rfl) ?_
      with_reducible refine x_asg ?_
      refine ⟨_, rfl, ?_⟩
      with_reducible refine x_gnE (σ' := ([some (.int door), some v_rule, some v_one, some v_figure, some (.ref a1), some (.ref a1)] : L2.St)) (by with_unfolding_all rfl) ?_
      refine x_nxS (σ' := ([some (.int door), some v_rule, some v_one, some v_figure, some (.ref a1), none] : L2.St)) (by with_unfolding_all rfl) ?_
      with_reducible refine x_ret ?_
      refine ⟨_, rfl, ?_⟩
      obtain rfl : _ = r := Option.some.inj hm
      exact q _ _ _ G4 (RX.mono (Sub.refl _) d2)
  · replace hm := iten hm (bF hc)
    with_reducible refine x_if ?_
    with_reducible refine x_B ?_
    refine useEv (.bl (decide (door = (1 : Int)))) (by exact (ev_cmp (Evl.ev_var rfl) Evl.ev_c)) (fun H3 e2 => ?_)
    have g4 := gr_ex G1.sub e2
    have G5 := G1.step g4
    refine ⟨_, rfl, ?_⟩
    refine ifD (fun hc => ?_) (fun hc => ?_)
    · replace hm := itep hm hc
      with_reducible refine x_drop ?_
      with_reducible refine x_callS ?_
      with_reducible refine x_cons ?_
      refine ⟨_, rfl, ?_⟩
      obtain ⟨r2, hr2, hm⟩ := bindp hm
      refine ⟨_, _, rule, r2, rfl, G5.sub, (RD.mono (Sub.refl _) f_rule), hr2, fun y2 e9 N2 H4 v2 g5 d3 => ?_, fun er2 e9 N2 H4 g5 => ?_⟩
      · subst e9; rw [exB_ok] at hm
        have G6 := G5.step g5
        obtain ⟨a2, us1, rfl, fa2, fr1⟩ := lst_of d3
        with_reducible refine x_ret ?_
        refine ⟨_, rfl, ?_⟩
        obtain rfl : _ = r := Option.some.inj hm
        exact q _ _ _ G6 (RX.mono g5.ex RX_none)
      · subst e9; rw [exB_err] at hm
        have G7 := G5.step g5
        refine x_keep T.er (fun a3 na2 => ?_)
        obtain ⟨F2, g6, fa3⟩ := Gr.newE (o := EV (ErT.ad er2) a3) G7.sub na2
        have G8 := G7.step g6
        have d4 : RX F2 (.ref a3) (some er2) := ⟨_, rfl, fa3⟩
        refine x_stE (σ' := ([some (.int door), some v_rule, some v_one, some v_figure, some .non, some (.ref a3)] : L2.St)) (by with_unfolding_all rfl) ?_
        with_reducible refine x_asg ?_
        refine ⟨_, rfl, ?_⟩
        with_reducible refine x_gnE (σ' := ([some (.int door), some v_rule, some v_one, some v_figure, some (.ref a3), some (.ref a3)] : L2.St)) (by with_unfolding_all rfl) ?_
        refine x_nxS (σ' := ([some (.int door), some v_rule, some v_one, some v_figure, some (.ref a3), none] : L2.St)) (by with_unfolding_all rfl) ?_
        with_reducible refine x_ret ?_
        refine ⟨_, rfl, ?_⟩
        obtain rfl : _ = r := Option.some.inj hm
        exact q _ _ _ G8 (RX.mono (Sub.refl _) d4)
    · replace hm := iten hm (bF hc)
      with_reducible refine x_drop ?_
      with_reducible refine x_callS ?_
      with_reducible refine x_cons ?_
      refine ⟨_, rfl, ?_⟩
      with_reducible refine x_cons ?_
      refine ⟨_, rfl, ?_⟩
      with_reducible refine x_cons ?_
      refine ⟨_, rfl, ?_⟩
      obtain ⟨r3, hr3, hm⟩ := bindp hm
      refine ⟨_, _, _, _, rule, one, figure, r3, rfl, G5.sub, (RD.mono (Sub.refl _) f_rule), (RD.mono (Sub.refl _) f_one), (RD.mono (Sub.refl _) f_figure), hr3, fun y3 e9 N3 H5 v3 g7 d5 => ?_, fun er3 e9 N3 H5 g7 => ?_⟩
      · subst e9; rw [exB_ok] at hm
        have G9 := G5.step g7
        with_reducible refine x_ret ?_
        refine ⟨_, rfl, ?_⟩
        obtain rfl : _ = r := Option.some.inj hm
        exact q _ _ _ G9 (RX.mono g7.ex RX_none)
      · subst e9; rw [exB_err] at hm
        have G10 := G5.step g7
        refine x_keep T.er (fun a4 na3 => ?_)
        obtain ⟨F3, g8, fa4⟩ := Gr.newE (o := EV (ErT.ad er3) a4) G10.sub na3
        have G11 := G10.step g8
        have d6 : RX F3 (.ref a4) (some er3) := ⟨_, rfl, fa4⟩
        refine x_stE (σ' := ([some (.int door), some v_rule, some v_one, some v_figure, some .non, some (.ref a4)] : L2.St)) (by with_unfolding_all rfl) ?_
        with_reducible refine x_asg ?_
        refine ⟨_, rfl, ?_⟩
        with_reducible refine x_gnE (σ' := ([some (.int door), some v_rule, some v_one, some v_figure, some (.ref a4), some (.ref a4)] : L2.St)) (by with_unfolding_all rfl) ?_
        refine x_nxS (σ' := ([some (.int door), some v_rule, some v_one, some v_figure, some (.ref a4), none] : L2.St)) (by with_unfolding_all rfl) ?_
        with_reducible refine x_ret ?_
        refine ⟨_, rfl, ?_⟩
        obtain rfl : _ = r := Option.some.inj hm
        exact q _ _ _ G11 (RX.mono (Sub.refl _) d6)

abbrev N__law_kinds : List Str := ["caught", "due", "kinds", "k"]
theorem sc__law_kinds : FnScope N__law_kinds ["caught", "due"] (defScope s__law_kinds) := ⟨rfl, rfl, rfl, by decide +kernel, rfl, by decide +kernel, by decide +kernel⟩
def sp__law_kinds : Sp := fun vs H Q _ => ∃ (F : Hp) (v_caught : V) (v_due : V) (caught : (Option Er)) (due : Int) (r : Bool), vs = [v_caught, v_due] ∧ Sub F H ∧ RX F v_caught caught ∧ R F v_due due ∧ _law_kinds caught due = some r ∧ ∀ N H2 v, Gr NA F H N H2 → R N v r → Q v H2
theorem ok__law_kinds {P : Program} {w : World} {K : PySem.W.Frag} {mg : Str → Option Value} {base : Heap} (T : Txt K mg) : FnOk P w K mg base CX0 1 T.f__law_kinds.f T.f__law_kinds.fd ["caught", "due"] sp__law_kinds := by
  have nd := (sc__law_kinds).nd
  refine T.f__law_kinds.F.ok sc__law_kinds (fun vs H Q E h => ?_) (fun cdv A0 outer s H vs Q E hr h => ?_)
  · obtain ⟨_, _, _, _, _, _, rfl, _⟩ := h
    rfl
  obtain ⟨F0, v_caught, v_due, caught, due, r, rfl, s0, f_caught, f_due, hm, q⟩ := h
  have G0 : Gr NA F0 H F0 H := Gr.refl s0
  obtain rfl := int_of f_due
  refine ⟨_, (pss_cons (ps_set (i := 2) nd rfl (by first | exact Or.inl rfl | exact Or.inr rfl) (pe_lst (pa_cons (pe_callB (r := rIsX K) call_isX (by rfl) T.z_isinstance (by decide +kernel) (pa_cons (pv 0) (pa_cons (pe_glob (v := .ref (ErT.ad .NoBase)) (by rfl) (T.er.r .NoBase).g rfl) pa_nil))) (pa_cons (pe_callB (r := rIsX K) call_isX (by rfl) T.z_isinstance (by decide +kernel) (pa_cons (pv 0) (pa_cons (pe_glob (v := .ref (ErT.ad .NoNumber)) (by rfl) (T.er.r .NoNumber).g rfl) pa_nil))) (pa_cons (pe_callB (r := rIsX K) call_isX (by rfl) T.z_isinstance (by decide +kernel) (pa_cons (pv 0) (pa_cons (pe_glob (v := .ref (ErT.ad .NoFigures)) (by rfl) (T.er.r .NoFigures).g rfl) pa_nil))) pa_nil))))) (pss_cons (ps_set (i := 2) nd rfl (by first | exact Or.inl rfl | exact Or.inr rfl) (pe_op op_cat (pv 2) (pe_lst (pa_cons (pe_callB (r := rIsX K) call_isX (by rfl) T.z_isinstance (by decide +kernel) (pa_cons (pv 0) (pa_cons (pe_glob (v := .ref (ErT.ad .NoRule)) (by rfl) (T.er.r .NoRule).g rfl) pa_nil))) (pa_cons (pe_callB (r := rIsX K) call_isX (by rfl) T.z_isinstance (by decide +kernel) (pa_cons (pv 0) (pa_cons (pe_glob (v := .ref (ErT.ad .NoStand)) (by rfl) (T.er.r .NoStand).g rfl) pa_nil))) (pa_cons (pe_callB (r := rIsX K) call_isX (by rfl) T.z_isinstance (by decide +kernel) (pa_cons (pv 0) (pa_cons (pe_glob (v := .ref (ErT.ad .NoGood)) (by rfl) (T.er.r .NoGood).g rfl) pa_nil))) pa_nil)))))) (pss_cons (ps_set (i := 2) nd rfl (by first | exact Or.inl rfl | exact Or.inr rfl) (pe_op op_cat (pv 2) (pe_lst (pa_cons (pe_callB (r := rIsX K) call_isX (by rfl) T.z_isinstance (by decide +kernel) (pa_cons (pv 0) (pa_cons (pe_glob (v := .ref (ErT.ad .Endless)) (by rfl) (T.er.r .Endless).g rfl) pa_nil))) (pa_cons (pe_callB (r := rIsX K) call_isX (by rfl) T.z_isinstance (by decide +kernel) (pa_cons (pv 0) (pa_cons (pe_glob (v := .ref (ErT.ad .NoRules)) (by rfl) (T.er.r .NoRules).g rfl) pa_nil))) (pa_cons (pe_callB (r := rIsX K) call_isX (by rfl) T.z_isinstance (by decide +kernel) (pa_cons (pv 0) (pa_cons (pe_glob (v := .ref (ErT.ad .NoStretch)) (by rfl) (T.er.r .NoStretch).g rfl) pa_nil))) pa_nil)))))) (pss_cons (ps_set (i := 2) nd rfl (by first | exact Or.inl rfl | exact Or.inr rfl) (pe_op op_cat (pv 2) (pe_lst (pa_cons (pe_callB (r := rIsX K) call_isX (by rfl) T.z_isinstance (by decide +kernel) (pa_cons (pv 0) (pa_cons (pe_glob (v := .ref (ErT.ad .TooMany)) (by rfl) (T.er.r .TooMany).g rfl) pa_nil))) (pa_cons (pe_callB (r := rIsX K) call_isX (by rfl) T.z_isinstance (by decide +kernel) (pa_cons (pv 0) (pa_cons (pe_glob (v := .ref (ErT.ad .NoText)) (by rfl) (T.er.r .NoText).g rfl) pa_nil))) (pa_cons (pe_callB (r := rIsX K) call_isX (by rfl) T.z_isinstance (by decide +kernel) (pa_cons (pv 0) (pa_cons (pe_glob (v := .ref (ErT.ad .NoName)) (by rfl) (T.er.r .NoName).g rfl) pa_nil))) pa_nil)))))) (pss_cons (ps_set (i := 2) nd rfl (by first | exact Or.inl rfl | exact Or.inr rfl) (pe_op op_cat (pv 2) (pe_lst (pa_cons (pe_callB (r := rIsX K) call_isX (by rfl) T.z_isinstance (by decide +kernel) (pa_cons (pv 0) (pa_cons (pe_glob (v := .ref (ErT.ad .NoRow)) (by rfl) (T.er.r .NoRow).g rfl) pa_nil))) (pa_cons (pe_not (pe_callB (r := rIsX K) call_isX (by rfl) T.z_isinstance (by decide +kernel) (pa_cons (pv 0) (pa_cons (pe_bltn (v := .ty "ValueError") (by rfl) T.z_ValueError (by decide +kernel) rfl) pa_nil)))) pa_nil))))) (pss_one (ps_ret (pe_and (pe_cmp (pc_notN (pv 0))) (pe_one (pe_cmpR (op_eqT (α := (List Bool)) (by decide) (hu64 hr)) (pv 2) (pe_lc (own := [("k", 3)]) (g := (gName 3)) rfl nd (pi_range1 (by rfl) T.z_range (pa_cons pe_int pa_nil)) (blkOk_by (own := [("k", 3)]) (N := N__law_kinds) (sc := defScope s__law_kinds) (by decide +kernel)) (fun _ _ _ _ _ => pg_name (i := 3) nd rfl (Or.inl rfl)) (fun _ _ _ _ _ => pts_nil) (fun _ _ _ _ _ => (pe_cmp (pc_eqI (pv 3) (pv 1))))) (nomark _))))))))))), ?_⟩
  refine x_start (σ' := ([some v_caught, some (.int due), none, none] : L2.St)) (by with_unfolding_all rfl) ?_
  rw [_law_kinds] at hm
  with_reducible refine x_seq ?_
  with_reducible refine x_asg ?_
  with_reducible refine x_lst ?_
  with_reducible refine x_cons ?_
  with_reducible refine x_cb ?_
  with_reducible refine x_cons ?_
  refine ⟨_, rfl, ?_⟩
  with_reducible refine x_cons ?_
  with_reducible refine x_c ?_
  with_reducible refine x_nil ?_
  refine isiX_er T.er G0.sub (RX.mono (Sub.refl _) f_caught) .NoBase ?_
  with_reducible refine x_cons ?_
  with_reducible refine x_cb ?_
  with_reducible refine x_cons ?_
  refine ⟨_, rfl, ?_⟩
  with_reducible refine x_cons ?_
  with_reducible refine x_c ?_
  with_reducible refine x_nil ?_
  refine isiX_er T.er G0.sub (RX.mono (Sub.refl _) f_caught) .NoNumber ?_
  with_reducible refine x_cons ?_
  with_reducible refine x_cb ?_
  with_reducible refine x_cons ?_
  refine ⟨_, rfl, ?_⟩
  with_reducible refine x_cons ?_
  with_reducible refine x_c ?_
  with_reducible refine x_nil ?_
  refine isiX_er T.er G0.sub (RX.mono (Sub.refl _) f_caught) .NoFigures ?_
  refine ⟨szle (show 3 ≤ 16777216 from by decide), fun p1 np1 => ?_⟩
  have fr1 : Rs (α := Bool) (F0) [(.bl (decide (caught = some .NoBase))), (.bl (decide (caught = some .NoNumber))), (.bl (decide (caught = some .NoFigures)))] ([(decide (caught = some .NoBase)), (decide (caught = some .NoNumber)), (decide (caught = some .NoFigures))] : (List Bool)) := (Rs_cons (.bl _) (Rs_cons (.bl _) (Rs_cons (.bl _) Rs_nil)))
  have g1 := Gr.newO (o := .lst [(.bl (decide (caught = some .NoBase))), (.bl (decide (caught = some .NoNumber))), (.bl (decide (caught = some .NoFigures)))]) G0.sub np1
  have o1 := Ow.new (us := [(.bl (decide (caught = some .NoBase))), (.bl (decide (caught = some .NoNumber))), (.bl (decide (caught = some .NoFigures)))]) G0 np1
  have G1 := G0.step g1
  obtain ⟨F1, G2, ex1, fa1, nf1⟩ := o1.frzE G1
  have fr2 := Rs_mono ex1 fr1
  with_reducible refine x_gnE (σ' := ([some v_caught, some (.int due), some (.ref p1), none] : L2.St)) (by with_unfolding_all rfl) ?_
  with_reducible refine x_seq ?_
  with_reducible refine x_asg ?_
  with_reducible refine x_op ?_
  refine ⟨_, rfl, ?_⟩
  with_reducible refine x_lst ?_
  with_reducible refine x_cons ?_
  with_reducible refine x_cb ?_
  with_reducible refine x_cons ?_
  refine ⟨_, rfl, ?_⟩
  with_reducible refine x_cons ?_
  with_reducible refine x_c ?_
  with_reducible refine x_nil ?_
  refine isiX_er T.er G2.sub (RX.mono ex1 f_caught) .NoRule ?_
  with_reducible refine x_cons ?_
  with_reducible refine x_cb ?_
  with_reducible refine x_cons ?_
  refine ⟨_, rfl, ?_⟩
  with_reducible refine x_cons ?_
  with_reducible refine x_c ?_
  with_reducible refine x_nil ?_
  refine isiX_er T.er G2.sub (RX.mono ex1 f_caught) .NoStand ?_
  with_reducible refine x_cons ?_
  with_reducible refine x_cb ?_
  with_reducible refine x_cons ?_
  refine ⟨_, rfl, ?_⟩
  with_reducible refine x_cons ?_
  with_reducible refine x_c ?_
  with_reducible refine x_nil ?_
  refine isiX_er T.er G2.sub (RX.mono ex1 f_caught) .NoGood ?_
  refine ⟨szle (show 3 ≤ 16777216 from by decide), fun p2 np2 => ?_⟩
  have fr3 : Rs (α := Bool) (F1) [(.bl (decide (caught = some .NoRule))), (.bl (decide (caught = some .NoStand))), (.bl (decide (caught = some .NoGood)))] ([(decide (caught = some .NoRule)), (decide (caught = some .NoStand)), (decide (caught = some .NoGood))] : (List Bool)) := (Rs_cons (.bl _) (Rs_cons (.bl _) (Rs_cons (.bl _) Rs_nil)))
  have g2 := Gr.newO (o := .lst [(.bl (decide (caught = some .NoRule))), (.bl (decide (caught = some .NoStand))), (.bl (decide (caught = some .NoGood)))]) G2.sub np2
  have o2 := Ow.new (us := [(.bl (decide (caught = some .NoRule))), (.bl (decide (caught = some .NoStand))), (.bl (decide (caught = some .NoGood)))]) G2 np2
  have G3 := G2.step g2
  obtain ⟨c1, hm⟩ := guardp hm
  refine ⟨_, _, _, _, rfl, rfl, (G3.sub _ _ fa1), o2.at_, szle (by rw [Rs_len (Rs_mono (Sub.refl _) fr2), Rs_len fr3]; exact c1), fun p3 np3 => ?_⟩
  have fr4 : Rs (α := Bool) (F1) ([(.bl (decide (caught = some .NoBase))), (.bl (decide (caught = some .NoNumber))), (.bl (decide (caught = some .NoFigures)))] ++ [(.bl (decide (caught = some .NoRule))), (.bl (decide (caught = some .NoStand))), (.bl (decide (caught = some .NoGood)))]) (([(decide (caught = some .NoBase)), (decide (caught = some .NoNumber)), (decide (caught = some .NoFigures))] : (List Bool)) ++ ([(decide (caught = some .NoRule)), (decide (caught = some .NoStand)), (decide (caught = some .NoGood))] : (List Bool))) := Rs_app (Rs_mono (Sub.refl _) fr2) fr3
  have g3 := Gr.newO (o := .lst ([(.bl (decide (caught = some .NoBase))), (.bl (decide (caught = some .NoNumber))), (.bl (decide (caught = some .NoFigures)))] ++ [(.bl (decide (caught = some .NoRule))), (.bl (decide (caught = some .NoStand))), (.bl (decide (caught = some .NoGood)))])) G3.sub np3
  have o3 := Ow.new (us := ([(.bl (decide (caught = some .NoBase))), (.bl (decide (caught = some .NoNumber))), (.bl (decide (caught = some .NoFigures)))] ++ [(.bl (decide (caught = some .NoRule))), (.bl (decide (caught = some .NoStand))), (.bl (decide (caught = some .NoGood)))])) G3 np3
  have G4 := G3.step g3
  obtain ⟨F2, G5, ex2, fa2, nf2⟩ := o3.frzE G4
  have fr5 := Rs_mono ex2 fr4
  obtain ⟨x1, hx1, hm⟩ := bindp hm
  replace hx1 := Option.some.inj hx1
  have fr6 : Rs (α := Bool) (F2) ([(.bl (decide (caught = some .NoBase))), (.bl (decide (caught = some .NoNumber))), (.bl (decide (caught = some .NoFigures)))] ++ [(.bl (decide (caught = some .NoRule))), (.bl (decide (caught = some .NoStand))), (.bl (decide (caught = some .NoGood)))]) x1 := by rw [← hx1]; exact (Rs_mono (Sub.refl _) fr5)
  have fa3 := (Sub.refl _) _ _ fa2
  clear hx1
  with_reducible refine x_gnE (σ' := ([some v_caught, some (.int due), some (.ref p3), none] : L2.St)) (by with_unfolding_all rfl) ?_
  with_reducible refine x_seq ?_
  with_reducible refine x_asg ?_
  with_reducible refine x_op ?_
  refine ⟨_, rfl, ?_⟩
  with_reducible refine x_lst ?_
  with_reducible refine x_cons ?_
  with_reducible refine x_cb ?_
  with_reducible refine x_cons ?_
  refine ⟨_, rfl, ?_⟩
  with_reducible refine x_cons ?_
  with_reducible refine x_c ?_
  with_reducible refine x_nil ?_
  refine isiX_er T.er G5.sub (RX.mono (ex1.trans ex2) f_caught) .Endless ?_
  with_reducible refine x_cons ?_
  with_reducible refine x_cb ?_
  with_reducible refine x_cons ?_
  refine ⟨_, rfl, ?_⟩
  with_reducible refine x_cons ?_
  with_reducible refine x_c ?_
  with_reducible refine x_nil ?_
  refine isiX_er T.er G5.sub (RX.mono (ex1.trans ex2) f_caught) .NoRules ?_
  with_reducible refine x_cons ?_
  with_reducible refine x_cb ?_
  with_reducible refine x_cons ?_
  refine ⟨_, rfl, ?_⟩
  with_reducible refine x_cons ?_
  with_reducible refine x_c ?_
  with_reducible refine x_nil ?_
  refine isiX_er T.er G5.sub (RX.mono (ex1.trans ex2) f_caught) .NoStretch ?_
  refine ⟨szle (show 3 ≤ 16777216 from by decide), fun p4 np4 => ?_⟩
  have fr7 : Rs (α := Bool) (F2) [(.bl (decide (caught = some .Endless))), (.bl (decide (caught = some .NoRules))), (.bl (decide (caught = some .NoStretch)))] ([(decide (caught = some .Endless)), (decide (caught = some .NoRules)), (decide (caught = some .NoStretch))] : (List Bool)) := (Rs_cons (.bl _) (Rs_cons (.bl _) (Rs_cons (.bl _) Rs_nil)))
  have g4 := Gr.newO (o := .lst [(.bl (decide (caught = some .Endless))), (.bl (decide (caught = some .NoRules))), (.bl (decide (caught = some .NoStretch)))]) G5.sub np4
  have o4 := Ow.new (us := [(.bl (decide (caught = some .Endless))), (.bl (decide (caught = some .NoRules))), (.bl (decide (caught = some .NoStretch)))]) G5 np4
  have G6 := G5.step g4
  obtain ⟨c2, hm⟩ := guardp hm
  refine ⟨_, _, _, _, rfl, rfl, (G6.sub _ _ fa3), o4.at_, szle (by rw [Rs_len (Rs_mono (Sub.refl _) fr6), Rs_len fr7]; exact c2), fun p5 np5 => ?_⟩
  have fr8 : Rs (α := Bool) (F2) (([(.bl (decide (caught = some .NoBase))), (.bl (decide (caught = some .NoNumber))), (.bl (decide (caught = some .NoFigures)))] ++ [(.bl (decide (caught = some .NoRule))), (.bl (decide (caught = some .NoStand))), (.bl (decide (caught = some .NoGood)))]) ++ [(.bl (decide (caught = some .Endless))), (.bl (decide (caught = some .NoRules))), (.bl (decide (caught = some .NoStretch)))]) (x1 ++ ([(decide (caught = some .Endless)), (decide (caught = some .NoRules)), (decide (caught = some .NoStretch))] : (List Bool))) := Rs_app (Rs_mono (Sub.refl _) fr6) fr7
  have g5 := Gr.newO (o := .lst (([(.bl (decide (caught = some .NoBase))), (.bl (decide (caught = some .NoNumber))), (.bl (decide (caught = some .NoFigures)))] ++ [(.bl (decide (caught = some .NoRule))), (.bl (decide (caught = some .NoStand))), (.bl (decide (caught = some .NoGood)))]) ++ [(.bl (decide (caught = some .Endless))), (.bl (decide (caught = some .NoRules))), (.bl (decide (caught = some .NoStretch)))])) G6.sub np5
  have o5 := Ow.new (us := (([(.bl (decide (caught = some .NoBase))), (.bl (decide (caught = some .NoNumber))), (.bl (decide (caught = some .NoFigures)))] ++ [(.bl (decide (caught = some .NoRule))), (.bl (decide (caught = some .NoStand))), (.bl (decide (caught = some .NoGood)))]) ++ [(.bl (decide (caught = some .Endless))), (.bl (decide (caught = some .NoRules))), (.bl (decide (caught = some .NoStretch)))])) G6 np5
  have G7 := G6.step g5
  obtain ⟨F3, G8, ex3, fa4, nf3⟩ := o5.frzE G7
  have fr9 := Rs_mono ex3 fr8
  with_reducible refine x_gnE (σ' := ([some v_caught, some (.int due), some (.ref p5), none] : L2.St)) (by with_unfolding_all rfl) ?_
  with_reducible refine x_seq ?_
  with_reducible refine x_asg ?_
  with_reducible refine x_op ?_
  refine ⟨_, rfl, ?_⟩
  with_reducible refine x_lst ?_
  with_reducible refine x_cons ?_
  with_reducible refine x_cb ?_
  with_reducible refine x_cons ?_
  refine ⟨_, rfl, ?_⟩
  with_reducible refine x_cons ?_
  with_reducible refine x_c ?_
  with_reducible refine x_nil ?_
  refine isiX_er T.er G8.sub (RX.mono ((ex1.trans ex2).trans ex3) f_caught) .TooMany ?_
  with_reducible refine x_cons ?_
  with_reducible refine x_cb ?_
  with_reducible refine x_cons ?_
  refine ⟨_, rfl, ?_⟩
  with_reducible refine x_cons ?_
  with_reducible refine x_c ?_
  with_reducible refine x_nil ?_
  refine isiX_er T.er G8.sub (RX.mono ((ex1.trans ex2).trans ex3) f_caught) .NoText ?_
  with_reducible refine x_cons ?_
  with_reducible refine x_cb ?_
  with_reducible refine x_cons ?_
  refine ⟨_, rfl, ?_⟩
  with_reducible refine x_cons ?_
  with_reducible refine x_c ?_
  with_reducible refine x_nil ?_
  refine isiX_er T.er G8.sub (RX.mono ((ex1.trans ex2).trans ex3) f_caught) .NoName ?_
  refine ⟨szle (show 3 ≤ 16777216 from by decide), fun p6 np6 => ?_⟩
  have fr10 : Rs (α := Bool) (F3) [(.bl (decide (caught = some .TooMany))), (.bl (decide (caught = some .NoText))), (.bl (decide (caught = some .NoName)))] ([(decide (caught = some .TooMany)), (decide (caught = some .NoText)), (decide (caught = some .NoName))] : (List Bool)) := (Rs_cons (.bl _) (Rs_cons (.bl _) (Rs_cons (.bl _) Rs_nil)))
  have g6 := Gr.newO (o := .lst [(.bl (decide (caught = some .TooMany))), (.bl (decide (caught = some .NoText))), (.bl (decide (caught = some .NoName)))]) G8.sub np6
  have o6 := Ow.new (us := [(.bl (decide (caught = some .TooMany))), (.bl (decide (caught = some .NoText))), (.bl (decide (caught = some .NoName)))]) G8 np6
  have G9 := G8.step g6
  obtain ⟨c3, hm⟩ := guardp hm
  refine ⟨_, _, _, _, rfl, rfl, (G9.sub _ _ fa4), o6.at_, szle (by rw [Rs_len (Rs_mono (Sub.refl _) fr9), Rs_len fr10]; exact c3), fun p7 np7 => ?_⟩
  have fr11 : Rs (α := Bool) (F3) ((([(.bl (decide (caught = some .NoBase))), (.bl (decide (caught = some .NoNumber))), (.bl (decide (caught = some .NoFigures)))] ++ [(.bl (decide (caught = some .NoRule))), (.bl (decide (caught = some .NoStand))), (.bl (decide (caught = some .NoGood)))]) ++ [(.bl (decide (caught = some .Endless))), (.bl (decide (caught = some .NoRules))), (.bl (decide (caught = some .NoStretch)))]) ++ [(.bl (decide (caught = some .TooMany))), (.bl (decide (caught = some .NoText))), (.bl (decide (caught = some .NoName)))]) ((x1 ++ ([(decide (caught = some .Endless)), (decide (caught = some .NoRules)), (decide (caught = some .NoStretch))] : (List Bool))) ++ ([(decide (caught = some .TooMany)), (decide (caught = some .NoText)), (decide (caught = some .NoName))] : (List Bool))) := Rs_app (Rs_mono (Sub.refl _) fr9) fr10
  have g7 := Gr.newO (o := .lst ((([(.bl (decide (caught = some .NoBase))), (.bl (decide (caught = some .NoNumber))), (.bl (decide (caught = some .NoFigures)))] ++ [(.bl (decide (caught = some .NoRule))), (.bl (decide (caught = some .NoStand))), (.bl (decide (caught = some .NoGood)))]) ++ [(.bl (decide (caught = some .Endless))), (.bl (decide (caught = some .NoRules))), (.bl (decide (caught = some .NoStretch)))]) ++ [(.bl (decide (caught = some .TooMany))), (.bl (decide (caught = some .NoText))), (.bl (decide (caught = some .NoName)))])) G9.sub np7
  have o7 := Ow.new (us := ((([(.bl (decide (caught = some .NoBase))), (.bl (decide (caught = some .NoNumber))), (.bl (decide (caught = some .NoFigures)))] ++ [(.bl (decide (caught = some .NoRule))), (.bl (decide (caught = some .NoStand))), (.bl (decide (caught = some .NoGood)))]) ++ [(.bl (decide (caught = some .Endless))), (.bl (decide (caught = some .NoRules))), (.bl (decide (caught = some .NoStretch)))]) ++ [(.bl (decide (caught = some .TooMany))), (.bl (decide (caught = some .NoText))), (.bl (decide (caught = some .NoName)))])) G9 np7
  have G10 := G9.step g7
  obtain ⟨F4, G11, ex4, fa5, nf4⟩ := o7.frzE G10
  have fr12 := Rs_mono ex4 fr11
  obtain ⟨x2, hx2, hm⟩ := bindp hm
  replace hx2 := Option.some.inj hx2
  have fr13 : Rs (α := Bool) (F4) ((([(.bl (decide (caught = some .NoBase))), (.bl (decide (caught = some .NoNumber))), (.bl (decide (caught = some .NoFigures)))] ++ [(.bl (decide (caught = some .NoRule))), (.bl (decide (caught = some .NoStand))), (.bl (decide (caught = some .NoGood)))]) ++ [(.bl (decide (caught = some .Endless))), (.bl (decide (caught = some .NoRules))), (.bl (decide (caught = some .NoStretch)))]) ++ [(.bl (decide (caught = some .TooMany))), (.bl (decide (caught = some .NoText))), (.bl (decide (caught = some .NoName)))]) x2 := by rw [← hx2]; exact (Rs_mono (Sub.refl _) fr12)
  have fa6 := (Sub.refl _) _ _ fa5
  clear hx2
  with_reducible refine x_gnE (σ' := ([some v_caught, some (.int due), some (.ref p7), none] : L2.St)) (by with_unfolding_all rfl) ?_
  with_reducible refine x_seq ?_
  with_reducible refine x_asg ?_
  with_reducible refine x_op ?_
  refine ⟨_, rfl, ?_⟩
  with_reducible refine x_lst ?_
  with_reducible refine x_cons ?_
  with_reducible refine x_cb ?_
  with_reducible refine x_cons ?_
  refine ⟨_, rfl, ?_⟩
  with_reducible refine x_cons ?_
  with_reducible refine x_c ?_
  with_reducible refine x_nil ?_
  refine isiX_er T.er G11.sub (RX.mono (((ex1.trans ex2).trans ex3).trans ex4) f_caught) .NoRow ?_
  with_reducible refine x_cons ?_
  with_reducible refine x_notV ?_
  with_reducible refine x_cb ?_
  with_reducible refine x_cons ?_
  refine ⟨_, rfl, ?_⟩
  with_reducible refine x_cons ?_
  with_reducible refine x_c ?_
  with_reducible refine x_nil ?_
  refine isiX_ve T.er G11.sub (RX.mono (((ex1.trans ex2).trans ex3).trans ex4) f_caught) ?_
  refine ⟨_, rfl, ?_⟩
  refine ⟨szle (show 2 ≤ 16777216 from by decide), fun p8 np8 => ?_⟩
  have fr14 : Rs (α := Bool) (F4) [(.bl (decide (caught = some .NoRow))), (.bl (!(caught).isSome))] ([(decide (caught = some .NoRow)), (!(caught).isSome)] : (List Bool)) := (Rs_cons (.bl _) (Rs_cons (.bl _) Rs_nil))
  have g8 := Gr.newO (o := .lst [(.bl (decide (caught = some .NoRow))), (.bl (!(caught).isSome))]) G11.sub np8
  have o8 := Ow.new (us := [(.bl (decide (caught = some .NoRow))), (.bl (!(caught).isSome))]) G11 np8
  have G12 := G11.step g8
  obtain ⟨c4, hm⟩ := guardp hm
  refine ⟨_, _, _, _, rfl, rfl, (G12.sub _ _ fa6), o8.at_, szle (by rw [Rs_len (Rs_mono (Sub.refl _) fr13), Rs_len fr14]; exact c4), fun p9 np9 => ?_⟩
  have fr15 : Rs (α := Bool) (F4) (((([(.bl (decide (caught = some .NoBase))), (.bl (decide (caught = some .NoNumber))), (.bl (decide (caught = some .NoFigures)))] ++ [(.bl (decide (caught = some .NoRule))), (.bl (decide (caught = some .NoStand))), (.bl (decide (caught = some .NoGood)))]) ++ [(.bl (decide (caught = some .Endless))), (.bl (decide (caught = some .NoRules))), (.bl (decide (caught = some .NoStretch)))]) ++ [(.bl (decide (caught = some .TooMany))), (.bl (decide (caught = some .NoText))), (.bl (decide (caught = some .NoName)))]) ++ [(.bl (decide (caught = some .NoRow))), (.bl (!(caught).isSome))]) (x2 ++ ([(decide (caught = some .NoRow)), (!(caught).isSome)] : (List Bool))) := Rs_app (Rs_mono (Sub.refl _) fr13) fr14
  have g9 := Gr.newO (o := .lst (((([(.bl (decide (caught = some .NoBase))), (.bl (decide (caught = some .NoNumber))), (.bl (decide (caught = some .NoFigures)))] ++ [(.bl (decide (caught = some .NoRule))), (.bl (decide (caught = some .NoStand))), (.bl (decide (caught = some .NoGood)))]) ++ [(.bl (decide (caught = some .Endless))), (.bl (decide (caught = some .NoRules))), (.bl (decide (caught = some .NoStretch)))]) ++ [(.bl (decide (caught = some .TooMany))), (.bl (decide (caught = some .NoText))), (.bl (decide (caught = some .NoName)))]) ++ [(.bl (decide (caught = some .NoRow))), (.bl (!(caught).isSome))])) G12.sub np9
  have o9 := Ow.new (us := (((([(.bl (decide (caught = some .NoBase))), (.bl (decide (caught = some .NoNumber))), (.bl (decide (caught = some .NoFigures)))] ++ [(.bl (decide (caught = some .NoRule))), (.bl (decide (caught = some .NoStand))), (.bl (decide (caught = some .NoGood)))]) ++ [(.bl (decide (caught = some .Endless))), (.bl (decide (caught = some .NoRules))), (.bl (decide (caught = some .NoStretch)))]) ++ [(.bl (decide (caught = some .TooMany))), (.bl (decide (caught = some .NoText))), (.bl (decide (caught = some .NoName)))]) ++ [(.bl (decide (caught = some .NoRow))), (.bl (!(caught).isSome))])) G12 np9
  have G13 := G12.step g9
  obtain ⟨F5, G14, ex5, fa7, nf5⟩ := o9.frzE G13
  have fr16 := Rs_mono ex5 fr15
  with_reducible refine x_gnE (σ' := ([some v_caught, some (.int due), some (.ref p9), none] : L2.St)) (by with_unfolding_all rfl) ?_
  with_reducible refine x_ret ?_
  with_reducible refine x_andV ?_
  refine useEv (.bl (!(caught).isNone)) (by exact (ev_notNX (Evl.ev_var rfl) (RX.mono ((((ex1.trans ex2).trans ex3).trans ex4).trans ex5) f_caught))) (fun H1 e1 => ?_)
  have g10 := gr_ex G14.sub e1
  have G15 := G14.step g10
  refine ⟨_, rfl, ?_⟩
  refine ifD (fun hc => ?_) (fun hc => ?_)
  · replace hm := itep hm hc
    with_reducible refine x_op ?_
    refine ⟨_, rfl, ?_⟩
    with_reducible refine x_lc ?_
    with_reducible refine x_rng1 ?_
    with_reducible refine x_cons ?_
    with_reducible refine x_c ?_
    refine ⟨_, rfl, (show Rg1 (14 : Int) from by decide).lo, (show Rg1 (14 : Int) from by decide).hi, fun p10 np10 => ?_⟩
    have g11 := Gr.newO (o := .lst []) G15.sub np10
    have o10 := Ow.new (us := []) G15 np10
    have G16 := G15.step g11
    refine lc_rng (lo := 0) (hi := (14 : Int)) (by rw [Int.sub_zero]) (fun (ts1 : List Int) H2 => ∃ (F6 : Hp) (x4 : List Bool) (us2 : List V), forK (_law_kinds_c1 due) ts1 x4 (_law_kinds_k2 x2 caught) = some r ∧ Sub (F5) F6 ∧ Gr NA F0 H F6 H2 ∧ Ow H F6 H2 p10 us2 ∧ Rs F6 us2 x4) ⟨F5, ([] : List Bool), _, hm, (Sub.refl _), G16, o10, Rs_nil⟩ (fun t1 ts2 H1 hW => ?_) (fun H1 hW => ?_)
    · skip
      obtain ⟨F6, x4, us2, hm, s1, G17, o11, fr17⟩ := hW
      obtain ⟨next1, hnx1⟩ : ∃ nx, nx = fun s => forK (_law_kinds_c1 due) ts2 s (_law_kinds_k2 x2 caught) := ⟨_, rfl⟩
      have hm : (_law_kinds_c1 due) x4 t1 next1 = some r := by rw [hnx1]; exact forK_c hm
      rw [_law_kinds_c1] at hm
      with_reducible refine x_gnE (σ' := ([some v_caught, some (.int due), some (.ref p9), some (.int t1)] : L2.St)) (by with_unfolding_all rfl) ?_
      refine ⟨rfl, ?_⟩
      with_reducible refine x_yes ?_
      refine iteT ?_
      refine useEv (.bl (decide (t1 = due))) (by exact (ev_cmp (Evl.ev_var rfl) (Evl.ev_var rfl))) (fun H3 e2 => ?_)
      have g12 := gr_ex G17.sub e2
      have G18 := G17.step g12
      have o12 := o11.step g12
      obtain ⟨c5, hm⟩ := guardp hm
      have G19 := o12.mutG (o := .lst (us2 ++ [(.bl (decide (t1 = due)))])) G18
      have o13 := o12.mut (ws := us2 ++ [(.bl (decide (t1 = due)))])
      have fr18 : Rs (α := Bool) (F6) (us2 ++ [(.bl (decide (t1 = due)))]) (x4 ++ [(decide (t1 = due))]) := Rs_snoc fr17 (.bl _)
      rw [hnx1] at hm
      exact ⟨_, o12.at_, szl (by rw [Rs_len fr17]; exact c5), ⟨F6, (x4 ++ [(decide (t1 = due))]), _, hm, s1, G19, o13, fr18⟩⟩
    · skip
      obtain ⟨F6, x4, us2, hm, s2, G20, o14, fr19⟩ := hW
      have hm : (_law_kinds_k2 x2 caught) x4 = some r := forK_n hm
      rw [_law_kinds_k2] at hm
      refine ⟨_, (x2 ++ ([(decide (caught = some .NoRow)), (!(caught).isSome)] : (List Bool))), x4, Sub.refl _, (RD.mono G20.sub (mk_lst (s2 _ _ fa7) (Rs_mono s2 fr16))), (mk_lst o14.at_ (Rs_mono G20.sub fr19)), ?_⟩
      obtain rfl : _ = r := Option.some.inj hm
      exact q _ _ _ G20 (.bl _)
  · replace hm := iten hm (bF hc)
    obtain rfl : _ = r := Option.some.inj hm
    exact q _ _ _ G15 (.bl _)

abbrev N__law_right : List Str := ["door", "rule", "one", "figure", "due", "kept", "caught"]
theorem sc__law_right : FnScope N__law_right ["door", "rule", "one", "figure", "due"] (defScope s__law_right) := ⟨rfl, rfl, rfl, by decide +kernel, rfl, by decide +kernel, by decide +kernel⟩
def sp__law_right : Sp := fun vs H Q _ => ∃ (F : Hp) (v_door : V) (v_rule : V) (v_one : V) (v_figure : V) (v_due : V) (door : Int) (rule : PyData) (one : PyData) (figure : PyData) (due : PyData) (r : Bool), vs = [v_door, v_rule, v_one, v_figure, v_due] ∧ Sub F H ∧ R F v_door door ∧ R F v_rule rule ∧ R F v_one one ∧ R F v_figure figure ∧ R F v_due due ∧ _law_right door rule one figure due = some r ∧ ∀ N H2 v, Gr NA F H N H2 → R N v r → Q v H2
theorem ok__law_right {P : Program} {w : World} {K : PySem.W.Frag} {mg : Str → Option Value} {base : Heap} (T : Txt K mg) (hbs : (base.get? sysModules).isSome = true) : FnOkG P w K mg base CX0 9 T.f__law_right.f T.f__law_right.fd ["door", "rule", "one", "figure", "due"] sp__law_right := by
  have nd := (sc__law_right).nd
  refine okG0_of T.f__law_right.F sc__law_right (fun vs H Q E h => ?_) (fun cdv A0 outer s H vs Q E hgd hr h => ?_)
  · obtain ⟨_, _, _, _, _, _, _, _, _, _, _, _, rfl, _⟩ := h
    rfl
  obtain ⟨F0, v_door, v_rule, v_one, v_figure, v_due, door, rule, one, figure, due, r, rfl, s0, f_door, f_rule, f_one, f_figure, f_due, hm, q⟩ := h
  have G0 : Gr NA F0 H F0 H := Gr.refl s0
  obtain rfl := int_of f_door
  refine ⟨_, (pss_cons (ps_set (i := 5) nd rfl (by first | exact Or.inl rfl | exact Or.inr rfl) (pe_callB (r := rReprD) (call_reprD hgd hbs (hu200' hr)) (by rfl) T.z_repr (by decide +kernel) (pa_cons (pe_lst (pa_cons (pv 1) (pa_cons (pv 2) (pa_cons (pv 3) pa_nil)))) pa_nil))) (pss_cons (ps_set (i := 6) nd rfl (by first | exact Or.inl rfl | exact Or.inr rfl) (pe_call (ok__law_caught T) (hr.mono (by decide)) (by rfl) T.f__law_caught.g T.f__law_caught.F.kp T.f__law_caught.b .nil pass0 (pa_cons (pv 0) (pa_cons (pv 1) (pa_cons (pv 2) (pa_cons (pv 3) pa_nil)))))) (pss_cons (ps_if (PW.pt (pw_or (PW.pt (pw_and (pt_cmp (pc_isN (pv 4))) (pw_and1 (pt_cmp (pc_notN (pv 6)))))) (pw_or1 (PW.pt (pw_and (pt_cmp (pc_notN (pv 4))) (pw_and1 (pt_not (pt_val (pe_call (ok__law_kinds T) (hr.mono (by decide)) (by rfl) T.f__law_kinds.g T.f__law_kinds.F.kp T.f__law_kinds.b .nil pass0 (pa_cons (pv 6) (pa_cons (pv 4) pa_nil))))))))))) (pss_one (ps_ret pe_bl)) pss_nil) (pss_one (ps_ret (pe_cmpR op_eqS (pe_callB (r := rReprD) (call_reprD hgd hbs (hu200' hr)) (by rfl) T.z_repr (by decide +kernel) (pa_cons (pe_lst (pa_cons (pv 1) (pa_cons (pv 2) (pa_cons (pv 3) pa_nil)))) pa_nil)) (pv 5) (nomark _))))))), ?_⟩
  refine x_start (σ' := ([some (.int door), some v_rule, some v_one, some v_figure, some v_due, none, none] : L2.St)) (by with_unfolding_all rfl) ?_
  rw [_law_right] at hm
  with_reducible refine x_seq ?_
  with_reducible refine x_asg ?_
  with_reducible refine x_cb ?_
  with_reducible refine x_cons ?_
  with_reducible refine x_lst ?_
  with_reducible refine x_cons ?_
  refine ⟨_, rfl, ?_⟩
  with_reducible refine x_cons ?_
  refine ⟨_, rfl, ?_⟩
  with_reducible refine x_cons ?_
  refine ⟨_, rfl, ?_⟩
  refine ⟨szle (show 3 ≤ 16777216 from by decide), fun p1 np1 => ?_⟩
  have fr1 : Rs (α := PyData) (F0) [v_rule, v_one, v_figure] ([rule, one, figure] : (List PyData)) := (Rs_cons (RD.mono (Sub.refl _) f_rule) (Rs_cons (RD.mono (Sub.refl _) f_one) (Rs_cons (RD.mono (Sub.refl _) f_figure) Rs_nil)))
  have g1 := Gr.newO (o := .lst [v_rule, v_one, v_figure]) G0.sub np1
  have o1 := Ow.new (us := [v_rule, v_one, v_figure]) G0 np1
  have G1 := G0.step g1
  obtain ⟨F1, G2, ex1, fa1, nf1⟩ := o1.frzE G1
  have fr2 := Rs_mono ex1 fr1
  have d1 : R (α := PyData) (F1) (.ref p1) (PyData.list ([rule, one, figure] : (List PyData))) := (R_anyL (mk_lst ((Sub.refl _) _ _ fa1) (Rs_mono (Sub.refl _) fr2)))
  obtain ⟨c1, hm⟩ := guardp hm
  refine ⟨_, (PyData.list ([rule, one, figure] : (List PyData))), _, rfl, G2.sub, (RD.mono (Sub.refl _) d1), c1, ?_⟩
  with_reducible refine x_gnE (σ' := ([some (.int door), some v_rule, some v_one, some v_figure, some v_due, some (.str (PyData.shown (PyData.list ([rule, one, figure] : (List PyData))))), none] : L2.St)) (by with_unfolding_all rfl) ?_
  with_reducible refine x_seq ?_
  with_reducible refine x_asg ?_
  with_reducible refine x_call ?_
  with_reducible refine x_cons ?_
  refine ⟨_, rfl, ?_⟩
  with_reducible refine x_cons ?_
  refine ⟨_, rfl, ?_⟩
  with_reducible refine x_cons ?_
  refine ⟨_, rfl, ?_⟩
  with_reducible refine x_cons ?_
  refine ⟨_, rfl, ?_⟩
  obtain ⟨r1, hr1, hm⟩ := bindp hm
  refine ⟨_, _, _, _, _, door, rule, one, figure, r1, rfl, G2.sub, (.int _), (RD.mono ex1 f_rule), (RD.mono ex1 f_one), (RD.mono ex1 f_figure), hr1, fun N1 H1 v1 g2 d2  => ?_⟩
  have G3 := G2.step g2
  with_reducible refine x_gnE (σ' := ([some (.int door), some v_rule, some v_one, some v_figure, some v_due, some (.str (PyData.shown (PyData.list ([rule, one, figure] : (List PyData))))), some v1] : L2.St)) (by with_unfolding_all rfl) ?_
  with_reducible refine x_seq ?_
  with_reducible refine x_if ?_
  with_reducible refine x_or ?_
  with_reducible refine x_and ?_
  with_reducible refine x_B ?_
  with_reducible refine x_isN' ?_
  refine ⟨_, rfl, ?_⟩
  refine ⟨_, isN_D (RD.mono (ex1.trans g2.ex) f_due), ?_⟩
  refine ⟨_, rfl, ?_⟩
  refine ifD (fun hc => ?_) (fun hc => ?_)
  · replace hm := itep hm hc
    with_reducible refine x_B ?_
    refine useEv (.bl (!(r1).isNone)) (by exact (ev_notNX (Evl.ev_var rfl) (RX.mono (Sub.refl _) d2))) (fun H2 e1 => ?_)
    have g3 := gr_ex G3.sub e1
    have G4 := G3.step g3
    refine ⟨_, rfl, ?_⟩
    refine ifD (fun hc => ?_) (fun hc => ?_)
    · replace hm := itep hm hc
      refine iteT ?_
      with_reducible refine x_ret ?_
      with_reducible refine x_c ?_
      obtain rfl : _ = r := Option.some.inj hm
      exact q _ _ _ G4 (.bl _)
    · replace hm := iten hm (bF hc)
      with_reducible refine x_and ?_
      with_reducible refine x_B ?_
      with_reducible refine x_notN' ?_
      refine ⟨_, rfl, ?_⟩
      refine ⟨_, (congrArg not (isN_D (RD.mono (ex1.trans g2.ex) f_due))), ?_⟩
      refine ⟨_, rfl, ?_⟩
      refine ifD (fun hc => ?_) (fun hc => ?_)
      · replace hm := itep hm hc
        with_reducible refine x_not ?_
        with_reducible refine x_B ?_
        with_reducible refine x_call ?_
        with_reducible refine x_cons ?_
        refine ⟨_, rfl, ?_⟩
        with_reducible refine x_cons ?_
        refine ⟨_, rfl, ?_⟩
        obtain ⟨x1, hx1, hm⟩ := bindp hm
        obtain rfl := asInt_of (RD.mono (ex1.trans g2.ex) f_due) hx1
        obtain ⟨r2, hr2, hm⟩ := bindp hm
        refine ⟨_, _, _, r1, x1, r2, rfl, G4.sub, (RX.mono (Sub.refl _) d2), (.int _), hr2, fun N2 H3 v2 g4 d3  => ?_⟩
        have G5 := G4.step g4
        obtain rfl := bl_of d3
        refine ⟨_, rfl, ?_⟩
        refine ifD (fun hc => ?_) (fun hc => ?_)
        · replace hm := itep hm hc
          with_reducible refine x_ret ?_
          with_reducible refine x_c ?_
          obtain rfl : _ = r := Option.some.inj hm
          exact q _ _ _ G5 (.bl _)
        · replace hm := iten hm (bF hc)
          with_reducible refine x_next ?_
          with_reducible refine x_ret ?_
          with_reducible refine x_op ?_
          with_reducible refine x_cb ?_
          with_reducible refine x_cons ?_
          with_reducible refine x_lst ?_
          with_reducible refine x_cons ?_
          refine ⟨_, rfl, ?_⟩
          with_reducible refine x_cons ?_
          refine ⟨_, rfl, ?_⟩
          with_reducible refine x_cons ?_
          refine ⟨_, rfl, ?_⟩
          refine ⟨szle (show 3 ≤ 16777216 from by decide), fun p2 np2 => ?_⟩
          have fr3 : Rs (α := PyData) (N2) [v_rule, v_one, v_figure] ([rule, one, figure] : (List PyData)) := (Rs_cons (RD.mono ((ex1.trans g2.ex).trans g4.ex) f_rule) (Rs_cons (RD.mono ((ex1.trans g2.ex).trans g4.ex) f_one) (Rs_cons (RD.mono ((ex1.trans g2.ex).trans g4.ex) f_figure) Rs_nil)))
          have g5 := Gr.newO (o := .lst [v_rule, v_one, v_figure]) G5.sub np2
          have o2 := Ow.new (us := [v_rule, v_one, v_figure]) G5 np2
          have G6 := G5.step g5
          obtain ⟨F2, G7, ex2, fa2, nf2⟩ := o2.frzE G6
          have fr4 := Rs_mono ex2 fr3
          have d4 : R (α := PyData) (F2) (.ref p2) (PyData.list ([rule, one, figure] : (List PyData))) := (R_anyL (mk_lst ((Sub.refl _) _ _ fa2) (Rs_mono (Sub.refl _) fr4)))
          obtain ⟨c2, hm⟩ := guardp hm
          refine ⟨_, (PyData.list ([rule, one, figure] : (List PyData))), _, rfl, G7.sub, (RD.mono (Sub.refl _) d4), c2, ?_⟩
          refine ⟨_, rfl, ?_⟩
          refine eqS_use ?_
          obtain rfl : _ = r := Option.some.inj hm
          exact q _ _ _ G7 (.bl _)
      · replace hm := iten hm (bF hc)
        refine iteF ?_
        with_reducible refine x_next ?_
        with_reducible refine x_ret ?_
        with_reducible refine x_op ?_
        with_reducible refine x_cb ?_
        with_reducible refine x_cons ?_
        with_reducible refine x_lst ?_
        with_reducible refine x_cons ?_
        refine ⟨_, rfl, ?_⟩
        with_reducible refine x_cons ?_
        refine ⟨_, rfl, ?_⟩
        with_reducible refine x_cons ?_
        refine ⟨_, rfl, ?_⟩
        refine ⟨szle (show 3 ≤ 16777216 from by decide), fun p3 np3 => ?_⟩
        have fr5 : Rs (α := PyData) (N1) [v_rule, v_one, v_figure] ([rule, one, figure] : (List PyData)) := (Rs_cons (RD.mono (ex1.trans g2.ex) f_rule) (Rs_cons (RD.mono (ex1.trans g2.ex) f_one) (Rs_cons (RD.mono (ex1.trans g2.ex) f_figure) Rs_nil)))
        have g6 := Gr.newO (o := .lst [v_rule, v_one, v_figure]) G4.sub np3
        have o3 := Ow.new (us := [v_rule, v_one, v_figure]) G4 np3
        have G8 := G4.step g6
        obtain ⟨F3, G9, ex3, fa3, nf3⟩ := o3.frzE G8
        have fr6 := Rs_mono ex3 fr5
        have d5 : R (α := PyData) (F3) (.ref p3) (PyData.list ([rule, one, figure] : (List PyData))) := (R_anyL (mk_lst ((Sub.refl _) _ _ fa3) (Rs_mono (Sub.refl _) fr6)))
        obtain ⟨c3, hm⟩ := guardp hm
        refine ⟨_, (PyData.list ([rule, one, figure] : (List PyData))), _, rfl, G9.sub, (RD.mono (Sub.refl _) d5), c3, ?_⟩
        refine ⟨_, rfl, ?_⟩
        refine eqS_use ?_
        obtain rfl : _ = r := Option.some.inj hm
        exact q _ _ _ G9 (.bl _)
  · replace hm := iten hm (bF hc)
    refine iteF ?_
    with_reducible refine x_and ?_
    with_reducible refine x_B ?_
    with_reducible refine x_notN' ?_
    refine ⟨_, rfl, ?_⟩
    refine ⟨_, (congrArg not (isN_D (RD.mono (ex1.trans g2.ex) f_due))), ?_⟩
    refine ⟨_, rfl, ?_⟩
    refine ifD (fun hc => ?_) (fun hc => ?_)
    · replace hm := itep hm hc
      with_reducible refine x_not ?_
      with_reducible refine x_B ?_
      with_reducible refine x_call ?_
      with_reducible refine x_cons ?_
      refine ⟨_, rfl, ?_⟩
      with_reducible refine x_cons ?_
      refine ⟨_, rfl, ?_⟩
      obtain ⟨x2, hx2, hm⟩ := bindp hm
      obtain rfl := asInt_of (RD.mono (ex1.trans g2.ex) f_due) hx2
      obtain ⟨r3, hr3, hm⟩ := bindp hm
      refine ⟨_, _, _, r1, x2, r3, rfl, G3.sub, (RX.mono (Sub.refl _) d2), (.int _), hr3, fun N3 H4 v3 g7 d6  => ?_⟩
      have G10 := G3.step g7
      obtain rfl := bl_of d6
      refine ⟨_, rfl, ?_⟩
      refine ifD (fun hc => ?_) (fun hc => ?_)
      · replace hm := itep hm hc
        with_reducible refine x_ret ?_
        with_reducible refine x_c ?_
        obtain rfl : _ = r := Option.some.inj hm
        exact q _ _ _ G10 (.bl _)
      · replace hm := iten hm (bF hc)
        with_reducible refine x_next ?_
        with_reducible refine x_ret ?_
        with_reducible refine x_op ?_
        with_reducible refine x_cb ?_
        with_reducible refine x_cons ?_
        with_reducible refine x_lst ?_
        with_reducible refine x_cons ?_
        refine ⟨_, rfl, ?_⟩
        with_reducible refine x_cons ?_
        refine ⟨_, rfl, ?_⟩
        with_reducible refine x_cons ?_
        refine ⟨_, rfl, ?_⟩
        refine ⟨szle (show 3 ≤ 16777216 from by decide), fun p4 np4 => ?_⟩
        have fr7 : Rs (α := PyData) (N3) [v_rule, v_one, v_figure] ([rule, one, figure] : (List PyData)) := (Rs_cons (RD.mono ((ex1.trans g2.ex).trans g7.ex) f_rule) (Rs_cons (RD.mono ((ex1.trans g2.ex).trans g7.ex) f_one) (Rs_cons (RD.mono ((ex1.trans g2.ex).trans g7.ex) f_figure) Rs_nil)))
        have g8 := Gr.newO (o := .lst [v_rule, v_one, v_figure]) G10.sub np4
        have o4 := Ow.new (us := [v_rule, v_one, v_figure]) G10 np4
        have G11 := G10.step g8
        obtain ⟨F4, G12, ex4, fa4, nf4⟩ := o4.frzE G11
        have fr8 := Rs_mono ex4 fr7
        have d7 : R (α := PyData) (F4) (.ref p4) (PyData.list ([rule, one, figure] : (List PyData))) := (R_anyL (mk_lst ((Sub.refl _) _ _ fa4) (Rs_mono (Sub.refl _) fr8)))
        obtain ⟨c4, hm⟩ := guardp hm
        refine ⟨_, (PyData.list ([rule, one, figure] : (List PyData))), _, rfl, G12.sub, (RD.mono (Sub.refl _) d7), c4, ?_⟩
        refine ⟨_, rfl, ?_⟩
        refine eqS_use ?_
        obtain rfl : _ = r := Option.some.inj hm
        exact q _ _ _ G12 (.bl _)
    · replace hm := iten hm (bF hc)
      refine iteF ?_
      with_reducible refine x_next ?_
      with_reducible refine x_ret ?_
      with_reducible refine x_op ?_
      with_reducible refine x_cb ?_
      with_reducible refine x_cons ?_
      with_reducible refine x_lst ?_
      with_reducible refine x_cons ?_
      refine ⟨_, rfl, ?_⟩
      with_reducible refine x_cons ?_
      refine ⟨_, rfl, ?_⟩
      with_reducible refine x_cons ?_
      refine ⟨_, rfl, ?_⟩
      refine ⟨szle (show 3 ≤ 16777216 from by decide), fun p5 np5 => ?_⟩
      have fr9 : Rs (α := PyData) (N1) [v_rule, v_one, v_figure] ([rule, one, figure] : (List PyData)) := (Rs_cons (RD.mono (ex1.trans g2.ex) f_rule) (Rs_cons (RD.mono (ex1.trans g2.ex) f_one) (Rs_cons (RD.mono (ex1.trans g2.ex) f_figure) Rs_nil)))
      have g9 := Gr.newO (o := .lst [v_rule, v_one, v_figure]) G3.sub np5
      have o5 := Ow.new (us := [v_rule, v_one, v_figure]) G3 np5
      have G13 := G3.step g9
      obtain ⟨F5, G14, ex5, fa5, nf5⟩ := o5.frzE G13
      have fr10 := Rs_mono ex5 fr9
      have d8 : R (α := PyData) (F5) (.ref p5) (PyData.list ([rule, one, figure] : (List PyData))) := (R_anyL (mk_lst ((Sub.refl _) _ _ fa5) (Rs_mono (Sub.refl _) fr10)))
      obtain ⟨c5, hm⟩ := guardp hm
      refine ⟨_, (PyData.list ([rule, one, figure] : (List PyData))), _, rfl, G14.sub, (RD.mono (Sub.refl _) d8), c5, ?_⟩
      refine ⟨_, rfl, ?_⟩
      refine eqS_use ?_
      obtain rfl : _ = r := Option.some.inj hm
      exact q _ _ _ G14 (.bl _)

abbrev N__law_some_rule : List Str := ["deck", "base", "few", "first", "most", "bad", "k", "one", "at"]
theorem sc__law_some_rule : FnScope N__law_some_rule ["deck"] (defScope s__law_some_rule) := ⟨rfl, rfl, rfl, by decide +kernel, rfl, by decide +kernel, by decide +kernel⟩
def sp__law_some_rule : Sp := fun vs H Q _ => ∃ (F : Hp) (A : Addr → Prop) (dk : Addr) (st : DkS) (r : (Int × (List (List Int)))) (stR : DkS), vs = [.ref dk] ∧ Sub F H ∧ Deck A H dk st ∧ (∀ a, A a → F a = none) ∧ _law_some_rule st = some (r, stR) ∧ ∀ N H2 v, Gr A F H N H2 → Deck A H2 dk stR → R N v r → Q v H2
theorem ok__law_some_rule {P : Program} {w : World} {K : PySem.W.Frag} {mg : Str → Option Value} {base : Heap} (T : Txt K mg) : FnOk P w K mg base CX0 2 T.f__law_some_rule.f T.f__law_some_rule.fd ["deck"] sp__law_some_rule := by
  have nd := (sc__law_some_rule).nd
  refine T.f__law_some_rule.F.ok sc__law_some_rule (fun vs H Q E h => ?_) (fun cdv A0 outer s H vs Q E hr h => ?_)
  · obtain ⟨_, _, _, _, _, _, rfl, _⟩ := h
    rfl
  obtain ⟨F0, A, dk, st, r, stR, rfl, s0, hdk, hnf, hm, q⟩ := h
  have G0 : Gr A F0 H F0 H := Gr.refl s0
  have dk0 := DkAt.mk0 hdk hnf
  refine ⟨_, (pss_cons (ps_set (i := 1) nd rfl (by first | exact Or.inl rfl | exact Or.inr rfl) (pe_ix (r := rIxL K) ix_list (pe_lst (pa_cons (pe_op op_add pe_int (pe_call (ok__law_draw T) (hr.mono (by decide)) (by rfl) T.f__law_draw.g T.f__law_draw.F.kp T.f__law_draw.b .nil pass0 (pa_cons (pv 0) (pa_cons pe_int pa_nil)))) (pa_cons pe_int (pa_cons pe_int (pa_cons pe_int (pa_cons pe_int (pa_cons (pe_op op_add pe_int (pe_call (ok__law_draw T) (hr.mono (by decide)) (by rfl) T.f__law_draw.g T.f__law_draw.F.kp T.f__law_draw.b .nil pass0 (pa_cons (pv 0) (pa_cons pe_int pa_nil)))) pa_nil))))))) (pe_call (ok__law_draw T) (hr.mono (by decide)) (by rfl) T.f__law_draw.g T.f__law_draw.F.kp T.f__law_draw.b .nil pass0 (pa_cons (pv 0) (pa_cons pe_int pa_nil))) (fun _ _ => rfl))) (pss_cons (ps_set (i := 2) nd rfl (by first | exact Or.inl rfl | exact Or.inr rfl) (pe_callB (call_min2 rfl) (by rfl) T.z_min (by decide +kernel) (pa_cons (pv 1) (pa_cons (pe_ix (r := rIxL K) ix_list (pe_lst (pa_cons pe_int (pa_cons pe_int (pa_cons pe_int pa_nil)))) (pe_call (ok__law_draw T) (hr.mono (by decide)) (by rfl) T.f__law_draw.g T.f__law_draw.F.kp T.f__law_draw.b .nil pass0 (pa_cons (pv 0) (pa_cons pe_int pa_nil))) (fun _ _ => rfl)) pa_nil)))) (pss_cons (ps_set (i := 3) nd rfl (by first | exact Or.inl rfl | exact Or.inr rfl) (pe_call (ok__law_draw T) (hr.mono (by decide)) (by rfl) T.f__law_draw.g T.f__law_draw.F.kp T.f__law_draw.b .nil pass0 (pa_cons (pv 0) (pa_cons (pe_op op_add (pe_op op_sub (pv 1) (pv 2)) pe_int) pa_nil)))) (pss_cons (ps_set (i := 4) nd rfl (by first | exact Or.inl rfl | exact Or.inr rfl) (pe_ix (r := rIxL K) ix_list (pe_lst (pa_cons (pe_op op_add pe_int (pe_call (ok__law_draw T) (hr.mono (by decide)) (by rfl) T.f__law_draw.g T.f__law_draw.F.kp T.f__law_draw.b .nil pass0 (pa_cons (pv 0) (pa_cons pe_int pa_nil)))) (pa_cons pe_int (pa_cons pe_int (pa_cons pe_int pa_nil))))) (pe_call (ok__law_draw T) (hr.mono (by decide)) (by rfl) T.f__law_draw.g T.f__law_draw.F.kp T.f__law_draw.b .nil pass0 (pa_cons (pv 0) (pa_cons pe_int pa_nil))) (fun _ _ => rfl))) (pss_cons (ps_set (i := 5) nd rfl (by first | exact Or.inl rfl | exact Or.inr rfl) (pe_lst pa_nil)) (pss_cons (ps_for PassesOwn.never rfl (pi_range1 (by rfl) T.z_range (pa_cons (pe_ix (r := rIxL K) ix_list (pe_lst (pa_cons (pe_call (ok__law_draw T) (hr.mono (by decide)) (by rfl) T.f__law_draw.g T.f__law_draw.F.kp T.f__law_draw.b .nil pass0 (pa_cons (pv 0) (pa_cons pe_int pa_nil))) (pa_cons pe_int (pa_cons pe_int (pa_cons pe_int pa_nil))))) (pe_call (ok__law_draw T) (hr.mono (by decide)) (by rfl) T.f__law_draw.g T.f__law_draw.F.kp T.f__law_draw.b .nil pass0 (pa_cons (pv 0) (pa_cons pe_int pa_nil))) (fun _ _ => rfl)) pa_nil)) (pg_name (i := 6) nd rfl (by first | exact Or.inl rfl | exact Or.inr rfl)) (pss_cons (ps_setLc (i := 7) (own := [("at", 8)]) (g := (gName 8)) rfl nd rfl rfl (sw_true rfl rfl rfl (by decide +kernel)) (pi_range1 (by rfl) T.z_range (pa_cons (pe_op op_add pe_int (pe_call (ok__law_draw T) (hr.mono (by decide)) (by rfl) T.f__law_draw.g T.f__law_draw.F.kp T.f__law_draw.b .nil pass0 (pa_cons (pv 0) (pa_cons (pv 4) pa_nil)))) pa_nil)) (blkOk_by (own := [("at", 8)]) (N := N__law_some_rule) (sc := defScope s__law_some_rule) (by decide +kernel)) (fun _ _ _ _ _ => pg_name (i := 8) nd rfl (Or.inl rfl)) (fun _ _ _ _ _ => pts_nil) (fun _ _ _ _ _ => (pe_op op_add (pv 3) (pe_call (ok__law_draw T) (hr.mono (by decide)) (by rfl) T.f__law_draw.g T.f__law_draw.F.kp T.f__law_draw.b .nil pass0 (pa_cons (pv 0) (pa_cons (pv 2) pa_nil)))))) (pss_one (ps_if (pt_cmpR (op_niT (α := (List Int)) (by decide) (hu65 hr)) (pv 7) (pv 5) (by rfl)) (pss_one (ps_expr (pe_bm PySem.F.plainAttrs_list PySem.F.slot_list_append PySem.F.type_list_append mt_append (pv 5) (pa_cons (pv 7) pa_nil)))) pss_nil)))) (pss_one (ps_ret (pe_tup (pa_cons (pv 1) (pa_cons (pe_callB (r := rSortedT (List Int)) (call_sortedT (by decide) (hu200' hr)) (by rfl) T.z_sorted (by decide +kernel) (pa_cons (pv 5) pa_nil)) pa_nil))))))))))), ?_⟩
  refine x_start (σ' := ([some (.ref dk), none, none, none, none, none, none, none, none] : L2.St)) (by with_unfolding_all rfl) ?_
  rw [_law_some_rule] at hm
  with_reducible refine x_seq ?_
  with_reducible refine x_asg ?_
  with_reducible refine x_op ?_
  with_reducible refine x_lst ?_
  with_reducible refine x_cons ?_
  with_reducible refine x_op ?_
  with_reducible refine x_c ?_
  with_reducible refine x_call ?_
  with_reducible refine x_cons ?_
  refine ⟨_, rfl, ?_⟩
  with_reducible refine x_cons ?_
  with_reducible refine x_c ?_
  obtain ⟨⟨r1, st1⟩, hr1, hm⟩ := bindp hm
  refine ⟨_, _, _, _, _, (15 : Int), r1, st1, rfl, G0.sub, dk0.at_, dk0.nf, (.int _), hr1, fun N1 H1 v1 g1 dk1 d1 => ?_⟩
  have G1 := G0.trans g1
  have dk2 := dk0.stepA g1 dk1
  obtain rfl := int_of d1
  refine ⟨_, _, rfl, rfl, ?_⟩
  with_reducible refine x_cons ?_
  with_reducible refine x_c ?_
  with_reducible refine x_cons ?_
  with_reducible refine x_c ?_
  with_reducible refine x_cons ?_
  with_reducible refine x_c ?_
  with_reducible refine x_cons ?_
  with_reducible refine x_c ?_
  with_reducible refine x_cons ?_
  with_reducible refine x_op ?_
  with_reducible refine x_c ?_
  with_reducible refine x_call ?_
  with_reducible refine x_cons ?_
  refine ⟨_, rfl, ?_⟩
  with_reducible refine x_cons ?_
  with_reducible refine x_c ?_
  obtain ⟨⟨r2, st2⟩, hr2, hm⟩ := bindp hm
  refine ⟨_, _, _, _, _, (3 : Int), r2, st2, rfl, G1.sub, dk2.at_, dk2.nf, (.int _), hr2, fun N2 H2 v2 g2 dk3 d2 => ?_⟩
  have G2 := G1.trans g2
  have dk4 := dk2.stepA g2 dk3
  obtain rfl := int_of d2
  refine ⟨_, _, rfl, rfl, ?_⟩
  refine ⟨szle (show 6 ≤ 16777216 from by decide), fun p1 np1 => ?_⟩
  have fr1 : Rs (α := Int) (N2) [(.int ((2 : Int) + r1)), (.int 2), (.int 3), (.int 10), (.int 16), (.int ((2 : Int) + r2))] ([((2 : Int) + r1), (2 : Int), (3 : Int), (10 : Int), (16 : Int), ((2 : Int) + r2)] : (List Int)) := (Rs_cons (.int _) (Rs_cons (.int _) (Rs_cons (.int _) (Rs_cons (.int _) (Rs_cons (.int _) (Rs_cons (.int _) Rs_nil))))))
  have g3 := Gr.newO (o := .lst [(.int ((2 : Int) + r1)), (.int 2), (.int 3), (.int 10), (.int 16), (.int ((2 : Int) + r2))]) G2.sub np1
  have o1 := Ow.new (us := [(.int ((2 : Int) + r1)), (.int 2), (.int 3), (.int 10), (.int 16), (.int ((2 : Int) + r2))]) G2 np1
  have G3 := G2.step g3
  have dk5 := dk4.step g3
  with_reducible refine x_call ?_
  with_reducible refine x_cons ?_
  refine ⟨_, rfl, ?_⟩
  with_reducible refine x_cons ?_
  with_reducible refine x_c ?_
  obtain ⟨⟨r3, st3⟩, hr3, hm⟩ := bindp hm
  refine ⟨_, _, _, _, _, (6 : Int), r3, st3, rfl, G3.sub, dk5.at_, dk5.nf, (.int _), hr3, fun N3 H3 v3 g4 dk6 d3 => ?_⟩
  have G4 := G3.trans g4
  have o2 := o1.stepA g4 (dk5.out o1)
  have dk7 := dk5.stepA g4 dk6
  obtain rfl := int_of d3
  obtain ⟨x1, hx1, hm⟩ := bindp hm
  obtain ⟨v4, hu1, d4⟩ := Rs_at (Rs_mono g4.ex fr1) hx1
  refine ⟨_, _, _, _, rfl, rfl, .inl (.inl o2.at_), hu1, ?_⟩
  obtain rfl := int_of d4
  with_reducible refine x_gnE (σ' := ([some (.ref dk), some (.int x1), none, none, none, none, none, none, none] : L2.St)) (by with_unfolding_all rfl) ?_
  with_reducible refine x_seq ?_
  with_reducible refine x_asg ?_
  with_reducible refine x_cb ?_
  with_reducible refine x_cons ?_
  refine ⟨_, rfl, ?_⟩
  with_reducible refine x_cons ?_
  with_reducible refine x_op ?_
  with_reducible refine x_lst ?_
  with_reducible refine x_cons ?_
  with_reducible refine x_c ?_
  with_reducible refine x_cons ?_
  with_reducible refine x_c ?_
  with_reducible refine x_cons ?_
  with_reducible refine x_c ?_
  refine ⟨szle (show 3 ≤ 16777216 from by decide), fun p2 np2 => ?_⟩
  have fr2 : Rs (α := Int) (N3) [(.int 2), (.int 3), (.int 16)] ([(2 : Int), (3 : Int), (16 : Int)] : (List Int)) := (Rs_cons (.int _) (Rs_cons (.int _) (Rs_cons (.int _) Rs_nil)))
  have g5 := Gr.newO (o := .lst [(.int 2), (.int 3), (.int 16)]) G4.sub np2
  have o3 := Ow.new (us := [(.int 2), (.int 3), (.int 16)]) G4 np2
  have G5 := G4.step g5
  have dk8 := dk7.step g5
  with_reducible refine x_call ?_
  with_reducible refine x_cons ?_
  refine ⟨_, rfl, ?_⟩
  with_reducible refine x_cons ?_
  with_reducible refine x_c ?_
  obtain ⟨⟨r4, st4⟩, hr4, hm⟩ := bindp hm
  refine ⟨_, _, _, _, _, (3 : Int), r4, st4, rfl, G5.sub, dk8.at_, dk8.nf, (.int _), hr4, fun N4 H4 v5 g6 dk9 d5 => ?_⟩
  have G6 := G5.trans g6
  have o4 := o3.stepA g6 (dk8.out o3)
  have dk10 := dk8.stepA g6 dk9
  obtain rfl := int_of d5
  obtain ⟨x2, hx2, hm⟩ := bindp hm
  obtain ⟨v6, hu2, d6⟩ := Rs_at (Rs_mono g6.ex fr2) hx2
  refine ⟨_, _, _, _, rfl, rfl, .inl (.inl o4.at_), hu2, ?_⟩
  obtain rfl := int_of d6
  refine ⟨_, _, rfl, ?_⟩
  with_reducible refine x_gnE (σ' := ([some (.ref dk), some (.int x1), some (.int (if x2 < x1 then x2 else x1)), none, none, none, none, none, none] : L2.St)) (by with_unfolding_all rfl) ?_
  with_reducible refine x_seq ?_
  with_reducible refine x_asg ?_
  with_reducible refine x_call ?_
  with_reducible refine x_cons ?_
  refine ⟨_, rfl, ?_⟩
  with_reducible refine x_cons ?_
  refine useEv (.int ((x1 - (if x2 < x1 then x2 else x1)) + (1 : Int))) (by exact (Evl.ev_op (Evl.ev_op (Evl.ev_var rfl) (Evl.ev_var rfl) Evl.rv_I0) Evl.ev_c Evl.rv_I0)) (fun H5 e1 => ?_)
  have g7 := gr_ex G6.sub e1
  have G7 := G6.step g7
  have dk11 := dk10.step g7
  obtain ⟨⟨r5, st5⟩, hr5, hm⟩ := bindp hm
  refine ⟨_, _, _, _, _, ((x1 - (if x2 < x1 then x2 else x1)) + (1 : Int)), r5, st5, rfl, G7.sub, dk11.at_, dk11.nf, (.int _), hr5, fun N5 H6 v7 g8 dk12 d7 => ?_⟩
  have G8 := G7.trans g8
  have dk13 := dk11.stepA g8 dk12
  obtain rfl := int_of d7
  with_reducible refine x_gnE (σ' := ([some (.ref dk), some (.int x1), some (.int (if x2 < x1 then x2 else x1)), some (.int r5), none, none, none, none, none] : L2.St)) (by with_unfolding_all rfl) ?_
  with_reducible refine x_seq ?_
  with_reducible refine x_asg ?_
  with_reducible refine x_op ?_
  with_reducible refine x_lst ?_
  with_reducible refine x_cons ?_
  with_reducible refine x_op ?_
  with_reducible refine x_c ?_
  with_reducible refine x_call ?_
  with_reducible refine x_cons ?_
  refine ⟨_, rfl, ?_⟩
  with_reducible refine x_cons ?_
  with_reducible refine x_c ?_
  obtain ⟨⟨r6, st6⟩, hr6, hm⟩ := bindp hm
  refine ⟨_, _, _, _, _, (4 : Int), r6, st6, rfl, G8.sub, dk13.at_, dk13.nf, (.int _), hr6, fun N6 H7 v8 g9 dk14 d8 => ?_⟩
  have G9 := G8.trans g9
  have dk15 := dk13.stepA g9 dk14
  obtain rfl := int_of d8
  refine ⟨_, _, rfl, rfl, ?_⟩
  with_reducible refine x_cons ?_
  with_reducible refine x_c ?_
  with_reducible refine x_cons ?_
  with_reducible refine x_c ?_
  with_reducible refine x_cons ?_
  with_reducible refine x_c ?_
  refine ⟨szle (show 4 ≤ 16777216 from by decide), fun p3 np3 => ?_⟩
  have fr3 : Rs (α := Int) (N6) [(.int ((1 : Int) + r6)), (.int 2), (.int 3), (.int 4)] ([((1 : Int) + r6), (2 : Int), (3 : Int), (4 : Int)] : (List Int)) := (Rs_cons (.int _) (Rs_cons (.int _) (Rs_cons (.int _) (Rs_cons (.int _) Rs_nil))))
  have g10 := Gr.newO (o := .lst [(.int ((1 : Int) + r6)), (.int 2), (.int 3), (.int 4)]) G9.sub np3
  have o5 := Ow.new (us := [(.int ((1 : Int) + r6)), (.int 2), (.int 3), (.int 4)]) G9 np3
  have G10 := G9.step g10
  have dk16 := dk15.step g10
  with_reducible refine x_call ?_
  with_reducible refine x_cons ?_
  refine ⟨_, rfl, ?_⟩
  with_reducible refine x_cons ?_
  with_reducible refine x_c ?_
  obtain ⟨⟨r7, st7⟩, hr7, hm⟩ := bindp hm
  refine ⟨_, _, _, _, _, (4 : Int), r7, st7, rfl, G10.sub, dk16.at_, dk16.nf, (.int _), hr7, fun N7 H8 v9 g11 dk17 d9 => ?_⟩
  have G11 := G10.trans g11
  have o6 := o5.stepA g11 (dk16.out o5)
  have dk18 := dk16.stepA g11 dk17
  obtain rfl := int_of d9
  obtain ⟨x3, hx3, hm⟩ := bindp hm
  obtain ⟨v10, hu3, d10⟩ := Rs_at (Rs_mono g11.ex fr3) hx3
  refine ⟨_, _, _, _, rfl, rfl, .inl (.inl o6.at_), hu3, ?_⟩
  obtain rfl := int_of d10
  with_reducible refine x_gnE (σ' := ([some (.ref dk), some (.int x1), some (.int (if x2 < x1 then x2 else x1)), some (.int r5), some (.int x3), none, none, none, none] : L2.St)) (by with_unfolding_all rfl) ?_
  with_reducible refine x_seq ?_
  with_reducible refine x_asg ?_
  with_reducible refine x_lst ?_
  refine ⟨szle (show 0 ≤ 16777216 from by decide), fun p4 np4 => ?_⟩
  have fr4 : Rs (α := (List Int)) (N7) [] ([] : (List (List Int))) := Rs_nil
  have g12 := Gr.newO (o := .lst []) G11.sub np4
  have o7 := Ow.new (us := []) G11 np4
  have G12 := G11.step g12
  have dk19 := dk18.step g12
  with_reducible refine x_gnE (σ' := ([some (.ref dk), some (.int x1), some (.int (if x2 < x1 then x2 else x1)), some (.int r5), some (.int x3), some (.ref p4), none, none, none] : L2.St)) (by with_unfolding_all rfl) ?_
  with_reducible refine x_seq ?_
  with_reducible refine x_for ?_
  with_reducible refine x_rng1 ?_
  with_reducible refine x_cons ?_
  with_reducible refine x_op ?_
  with_reducible refine x_lst ?_
  with_reducible refine x_cons ?_
  with_reducible refine x_call ?_
  with_reducible refine x_cons ?_
  refine ⟨_, rfl, ?_⟩
  with_reducible refine x_cons ?_
  with_reducible refine x_c ?_
  obtain ⟨⟨r8, st8⟩, hr8, hm⟩ := bindp hm
  refine ⟨_, _, _, _, _, (5 : Int), r8, st8, rfl, G12.sub, dk19.at_, dk19.nf, (.int _), hr8, fun N8 H9 v11 g13 dk20 d11 => ?_⟩
  have G13 := G12.trans g13
  have o8 := o7.stepA g13 (dk19.out o7)
  have dk21 := dk19.stepA g13 dk20
  obtain rfl := int_of d11
  with_reducible refine x_cons ?_
  with_reducible refine x_c ?_
  with_reducible refine x_cons ?_
  with_reducible refine x_c ?_
  with_reducible refine x_cons ?_
  with_reducible refine x_c ?_
  refine ⟨szle (show 4 ≤ 16777216 from by decide), fun p5 np5 => ?_⟩
  have fr5 : Rs (α := Int) (N8) [(.int r8), (.int 4), (.int 3), (.int 1)] ([r8, (4 : Int), (3 : Int), (1 : Int)] : (List Int)) := (Rs_cons (.int _) (Rs_cons (.int _) (Rs_cons (.int _) (Rs_cons (.int _) Rs_nil))))
  have g14 := Gr.newO (o := .lst [(.int r8), (.int 4), (.int 3), (.int 1)]) G13.sub np5
  have o9 := Ow.new (us := [(.int r8), (.int 4), (.int 3), (.int 1)]) G13 np5
  have ne1 := o8.ne_new np5
  have G14 := G13.step g14
  have o10 := o8.step g14
  have dk22 := dk21.step g14
  with_reducible refine x_call ?_
  with_reducible refine x_cons ?_
  refine ⟨_, rfl, ?_⟩
  with_reducible refine x_cons ?_
  with_reducible refine x_c ?_
  obtain ⟨⟨r9, st9⟩, hr9, hm⟩ := bindp hm
  refine ⟨_, _, _, _, _, (4 : Int), r9, st9, rfl, G14.sub, dk22.at_, dk22.nf, (.int _), hr9, fun N9 H10 v12 g15 dk23 d12 => ?_⟩
  have G15 := G14.trans g15
  have o11 := o10.stepA g15 (dk22.out o10)
  have o12 := o9.stepA g15 (dk22.out o9)
  have dk24 := dk22.stepA g15 dk23
  obtain rfl := int_of d12
  obtain ⟨x4, hx4, hm⟩ := bindp hm
  obtain ⟨v13, hu4, d13⟩ := Rs_at (Rs_mono g15.ex fr5) hx4
  refine ⟨_, _, _, _, rfl, rfl, .inl (.inl o12.at_), hu4, ?_⟩
  obtain rfl := int_of d13
  obtain ⟨c1, hm⟩ := guardp hm
  refine ⟨_, rfl, c1.lo, c1.hi, ?_⟩
  refine for_rng (lo := 0) (hi := x4) (by rw [Int.sub_zero]) (fun (ts1 : List Int) σ H11 => ∃ (F1 : Hp) (st10 : DkS) (x5 : (List (List Int))) (p6 : Addr) (us1 : List V) (y1 : Option V) (y2 : Option V), forK (_law_some_rule_b1 x3 x2 x1 r5) ts1 (x5, st10) (_law_some_rule_e2 x1) = some (r, stR) ∧ Sub (N9) F1 ∧ Gr A F0 H F1 H11 ∧ Ow H F1 H11 p6 us1 ∧ Rs F1 us1 x5 ∧ DkAt A H F1 H11 dk st10 ∧ σ = [some (.ref dk), some (.int x1), some (.int (if x2 < x1 then x2 else x1)), some (.int r5), some (.int x3), some (.ref p6), y1, y2, none]) ⟨N9, _, ([] : (List (List Int))), _, _, _, _, hm, (Sub.refl _), G15, o11, (Rs_mono g15.ex (Rs_mono g13.ex fr4)), dk24, rfl⟩ (fun t1 ts2 σ H1 hW => ?_) (fun σ H1 hW => ?_)
  · skip
    obtain ⟨F1, st10, x5, p6, us1, y1, y2, hm, s1, G16, o13, fr6, dk25, rfl⟩ := hW
    obtain ⟨next1, hnx1⟩ : ∃ nx, nx = fun s => forK (_law_some_rule_b1 x3 x2 x1 r5) ts2 s (_law_some_rule_e2 x1) := ⟨_, rfl⟩
    have hm : (_law_some_rule_b1 x3 x2 x1 r5) (x5, st10) t1 next1 = some (r, stR) := by rw [hnx1]; exact forK_c hm
    rw [_law_some_rule_b1] at hm
    with_reducible refine x_gnE (σ' := ([some (.ref dk), some (.int x1), some (.int (if x2 < x1 then x2 else x1)), some (.int r5), some (.int x3), some (.ref p6), some (.int t1), y2, none] : L2.St)) (by with_unfolding_all rfl) ?_
    with_reducible refine x_seq ?_
    with_reducible refine x_asg ?_
    with_reducible refine x_lc ?_
    with_reducible refine x_rng1 ?_
    with_reducible refine x_cons ?_
    with_reducible refine x_op ?_
    with_reducible refine x_c ?_
    with_reducible refine x_call ?_
    with_reducible refine x_cons ?_
    refine ⟨_, rfl, ?_⟩
    with_reducible refine x_cons ?_
    refine ⟨_, rfl, ?_⟩
    obtain ⟨⟨r10, st11⟩, hr10, hm⟩ := bindp hm
    refine ⟨_, _, _, _, _, x3, r10, st11, rfl, G16.sub, dk25.at_, dk25.nf, (.int _), hr10, fun N10 H12 v15 g16 dk26 d14 => ?_⟩
    have G17 := G16.trans g16
    have o14 := o13.stepA g16 (dk25.out o13)
    have dk27 := dk25.stepA g16 dk26
    obtain rfl := int_of d14
    refine ⟨_, _, rfl, rfl, ?_⟩
    obtain ⟨c2, hm⟩ := guardp hm
    refine ⟨_, rfl, c2.lo, c2.hi, fun p7 np6 => ?_⟩
    have g17 := Gr.newO (o := .lst []) G17.sub np6
    have o15 := Ow.new (us := []) G17 np6
    have ne2 := o14.ne_new np6
    have G18 := G17.step g17
    have o16 := o14.step g17
    have dk28 := dk27.step g17
    refine lc_rng (lo := 0) (hi := ((1 : Int) + r10)) (by rw [Int.sub_zero]) (fun (ts3 : List Int) H13 => ∃ (F2 : Hp) (st12 : DkS) (x7 : List Int) (us3 : List V), forK (_law_some_rule_c3 x2 x1 r5) ts3 (x7, st12) (_law_some_rule_k4 x5 next1) = some (r, stR) ∧ Sub (N10) F2 ∧ Gr A F0 H F2 H13 ∧ Ow H F2 H13 p7 us3 ∧ Rs F2 us3 x7 ∧ Ow H F2 H13 p6 us1 ∧ DkAt A H F2 H13 dk st12) ⟨N10, _, ([] : List Int), _, hm, (Sub.refl _), G18, o15, Rs_nil, o16, dk28⟩ (fun t2 ts4 H1 hW => ?_) (fun H1 hW => ?_)
    · skip
      obtain ⟨F2, st12, x7, us3, hm, s2, G19, o17, fr7, o18, dk29⟩ := hW
      obtain ⟨next2, hnx2⟩ : ∃ nx, nx = fun s => forK (_law_some_rule_c3 x2 x1 r5) ts4 s (_law_some_rule_k4 x5 next1) := ⟨_, rfl⟩
      have hm : (_law_some_rule_c3 x2 x1 r5) (x7, st12) t2 next2 = some (r, stR) := by rw [hnx2]; exact forK_c hm
      rw [_law_some_rule_c3] at hm
      with_reducible refine x_gnE (σ' := ([some (.ref dk), some (.int x1), some (.int (if x2 < x1 then x2 else x1)), some (.int r5), some (.int x3), some (.ref p6), some (.int t1), y2, some (.int t2)] : L2.St)) (by with_unfolding_all rfl) ?_
      refine ⟨rfl, ?_⟩
      with_reducible refine x_yes ?_
      refine iteT ?_
      with_reducible refine x_op ?_
      refine ⟨_, rfl, ?_⟩
      with_reducible refine x_call ?_
      with_reducible refine x_cons ?_
      refine ⟨_, rfl, ?_⟩
      with_reducible refine x_cons ?_
      refine ⟨_, rfl, ?_⟩
      obtain ⟨⟨r11, st13⟩, hr11, hm⟩ := bindp hm
      refine ⟨_, _, _, _, _, (if x2 < x1 then x2 else x1), r11, st13, rfl, G19.sub, dk29.at_, dk29.nf, (.int _), hr11, fun N11 H14 v17 g18 dk30 d15 => ?_⟩
      have G20 := G19.trans g18
      have o19 := o17.stepA g18 (dk29.out o17)
      have o20 := o18.stepA g18 (dk29.out o18)
      have dk31 := dk29.stepA g18 dk30
      obtain rfl := int_of d15
      refine ⟨_, _, rfl, rfl, ?_⟩
      obtain ⟨c3, hm⟩ := guardp hm
      have G21 := o19.mutG (o := .lst (us3 ++ [(.int (r5 + r11))])) G20
      have o21 := o19.mut (ws := us3 ++ [(.int (r5 + r11))])
      have fr8 : Rs (α := Int) (N11) (us3 ++ [(.int (r5 + r11))]) (x7 ++ [(r5 + r11)]) := Rs_snoc (Rs_mono g18.ex fr7) (.int _)
      have o22 := o20.other (ws := us3 ++ [(.int (r5 + r11))]) (Ne.symm ne2)
      have dk32 := dk31.mut (ws := us3 ++ [(.int (r5 + r11))]) o19
      rw [hnx2] at hm
      exact ⟨_, o19.at_, szl (by rw [Rs_len (Rs_mono g18.ex fr7)]; exact c3), ⟨N11, _, (x7 ++ [(r5 + r11)]), _, hm, (s2.trans g18.ex), G21, o21, fr8, o22, dk32⟩⟩
    · skip
      obtain ⟨F2, st12, x7, us3, hm, s3, G22, o23, fr9, o24, dk33⟩ := hW
      have hm : (_law_some_rule_k4 x5 next1) (x7, st12) = some (r, stR) := forK_n hm
      rw [_law_some_rule_k4] at hm
      obtain ⟨F3, G23, ex1, fa1, nf1⟩ := o23.frzE G22
      have o25 := o24.frzN (Ne.symm (Ne.symm ne2)) nf1
      have fr10 := Rs_mono ex1 fr9
      have dk34 := dk33.frzN o23 ex1 nf1
      with_reducible refine x_gnE (σ' := ([some (.ref dk), some (.int x1), some (.int (if x2 < x1 then x2 else x1)), some (.int r5), some (.int x3), some (.ref p6), some (.int t1), some (.ref p7), none] : L2.St)) (by with_unfolding_all rfl) ?_
      with_reducible refine x_if ?_
      with_reducible refine x_test ?_
      with_reducible refine x_op ?_
      refine ⟨_, rfl, ?_⟩
      refine ⟨_, rfl, ?_⟩
      refine ⟨_, x7, x5, Sub.refl _, (RD.mono G23.sub (mk_lst ((Sub.refl _) _ _ fa1) (Rs_mono (Sub.refl _) fr10))), (mk_lst o25.at_ (Rs_mono G23.sub (Rs_mono ex1 (Rs_mono s3 (Rs_mono g16.ex fr6))))), ?_⟩
      refine ⟨_, rfl, ?_⟩
      refine ifD (fun hc => ?_) (fun hc => ?_)
      · replace hm := itep hm hc
        with_reducible refine x_drop ?_
        with_reducible refine x_bm ?_
        refine ⟨_, rfl, ?_⟩
        refine ⟨.inl ⟨rfl, _, .inl (.inl o25.at_)⟩, ?_⟩
        with_reducible refine x_cons ?_
        refine ⟨_, rfl, ?_⟩
        obtain ⟨c4, hm⟩ := guardp hm
        refine ⟨_, _, _, rfl, rfl, o25.at_, szl (by rw [Rs_len (Rs_mono ex1 (Rs_mono s3 (Rs_mono g16.ex fr6)))]; exact c4), ?_⟩
        have G24 := o25.mutG (o := .lst (us1 ++ [(.ref p7)])) G23
        have o26 := o25.mut (ws := us1 ++ [(.ref p7)])
        have dk35 := dk34.mut (ws := us1 ++ [(.ref p7)]) o25
        have fr11 : Rs (α := (List Int)) (F3) (us1 ++ [(.ref p7)]) (x5 ++ [x7]) := Rs_snoc (Rs_mono ex1 (Rs_mono s3 (Rs_mono g16.ex fr6))) (mk_lst ((Sub.refl _) _ _ fa1) (Rs_mono (Sub.refl _) fr10))
        rw [hnx1] at hm
        exact ⟨F3, _, (x5 ++ [x7]), _, _, _, _, hm, (((s1.trans g16.ex).trans s3).trans ex1), G24, o26, fr11, dk35, rfl⟩
      · replace hm := iten hm (bF hc)
        with_reducible refine x_next ?_
        rw [hnx1] at hm
        exact ⟨F3, _, x5, _, _, _, _, hm, (((s1.trans g16.ex).trans s3).trans ex1), G23, o25, (Rs_mono ex1 (Rs_mono s3 (Rs_mono g16.ex fr6))), dk34, rfl⟩
  · skip
    obtain ⟨F1, st10, x5, p6, us1, y1, y2, hm, s4, G25, o27, fr12, dk36, rfl⟩ := hW
    have hm : (_law_some_rule_e2 x1) (x5, st10) = some (r, stR) := forK_n hm
    rw [_law_some_rule_e2] at hm
    with_reducible refine x_ret ?_
    with_reducible refine x_tup ?_
    with_reducible refine x_cons ?_
    refine ⟨_, rfl, ?_⟩
    with_reducible refine x_cons ?_
    with_reducible refine x_cb ?_
    with_reducible refine x_cons ?_
    refine ⟨_, rfl, ?_⟩
    obtain ⟨c5, hm⟩ := guardp hm
    refine ⟨_, _, _, x5, rfl, o27.at_, G25.sub, fr12, c5, fun p8 us4 np7 fr13 => ?_⟩
    have g19 := Gr.newO (o := .lst us4) G25.sub np7
    have o28 := Ow.new (us := us4) G25 np7
    have ne3 := o27.ne_new np7
    have G26 := G25.step g19
    have o29 := o27.step g19
    have dk37 := dk36.step g19
    obtain ⟨F4, G27, ex2, fa2, nf2⟩ := o28.frzE G26
    have o30 := o29.frzN (Ne.symm (Ne.symm ne3)) nf2
    have fr14 := Rs_mono ex2 fr13
    have dk38 := dk37.frzN o28 ex2 nf2
    refine ⟨szle (show 2 ≤ 16777216 from by decide), fun p9 np8 => ?_⟩
    obtain ⟨F5, g20, fa3⟩ := Gr.newE (o := .tup [(.int x1), (.ref p8)]) G27.sub np8
    have G28 := G27.step g20
    have o31 := o30.step g20
    have dk39 := dk38.step g20
    obtain ⟨rfl, rfl⟩ := pairp hm
    exact q _ _ _ G28 dk39.at_ (mk_tup2 ((Sub.refl _) _ _ fa3) (.int _) (mk_lst (g20.ex _ _ fa2) (Rs_mono g20.ex fr14)))

abbrev N_law : List Str := ["script", "deck", "k", "rule", "base", "bad", "turn", "none", "figures", "bent", "odd", "strange", "figure", "good", "beside", "door", "due", "at"]
theorem sc_law : FnScope N_law ["script"] (defScope s_law) := ⟨rfl, rfl, rfl, by decide +kernel, rfl, by decide +kernel, by decide +kernel⟩
omit [ErT] in
def sp_law (K : PySem.W.Frag) : Sp := fun vs H Q _ => ∃ (a : Addr) (ns : List Int), vs = [.ref a] ∧ SqL K H a (ns.map V.int) ∧ law ns = some true ∧ ∀ H2, Q (.bl true) H2
theorem ok_law {P : Program} {w : World} {K : PySem.W.Frag} {mg : Str → Option Value} {base : Heap} (T : Txt K mg) (hbs : (base.get? sysModules).isSome = true) : FnOkG P w K mg base CX0 10 T.f_law.f T.f_law.fd ["script"] (sp_law K) := by
  have nd := sc_law.nd
  refine okG0_of T.f_law.F sc_law (fun vs H Q E h => ?_) (fun cdv A0 outer s Hx vs Q E hgd hr h => ?_)
  · obtain ⟨_, _, rfl, _⟩ := h
    rfl
  obtain ⟨a0, ns, rfl, hS, hm, q⟩ := h
  refine ⟨_, (pss_cons (ps_set (i := 1) nd rfl (by first | exact Or.inl rfl | exact Or.inr rfl) (pe_call (ok__law_deck T) (hr.mono (by decide)) (by rfl) T.f__law_deck.g T.f__law_deck.F.kp T.f__law_deck.b .nil pass0 (pa_cons (pv 0) pa_nil))) (pss_cons (ps_for PassesOwn.never rfl (pi_range1 (by rfl) T.z_range (pa_cons pe_int pa_nil)) (pg_name (i := 2) nd rfl (by first | exact Or.inl rfl | exact Or.inr rfl)) (pss_cons (ps_set (i := 3) nd rfl (by first | exact Or.inl rfl | exact Or.inr rfl) (pe_call (ok__law_some_rule T) (hr.mono (by decide)) (by rfl) T.f__law_some_rule.g T.f__law_some_rule.F.kp T.f__law_some_rule.b .nil pass0 (pa_cons (pv 1) pa_nil))) (pss_cons (ps_asg (pv 3) (pg_tup rfl (pgs_cons (pg_name (i := 4) nd rfl (by first | exact Or.inl rfl | exact Or.inr rfl)) (pgs_cons (pg_name (i := 5) nd rfl (by first | exact Or.inl rfl | exact Or.inr rfl)) pgs_nil)))) (pss_one (ps_for PassesOwn.never rfl (pi_range1 (by rfl) T.z_range (pa_cons pe_int pa_nil)) (pg_name (i := 6) nd rfl (by first | exact Or.inl rfl | exact Or.inr rfl)) (pss_cons (ps_set (i := 7) nd rfl (by first | exact Or.inl rfl | exact Or.inr rfl) (pe_call (ok__law_no_rule T) (hr.mono (by decide)) (by rfl) T.f__law_no_rule.g T.f__law_no_rule.F.kp T.f__law_no_rule.b .nil pass0 (pa_cons (pv 1) (pa_cons (pv 3) pa_nil)))) (pss_cons (ps_setLc (i := 8) (own := [("at", 17)]) (g := (gName 17)) rfl nd rfl rfl (sw_true rfl rfl rfl (by decide +kernel)) (pi_range1 (by rfl) T.z_range (pa_cons (pe_call (ok__law_draw T) (hr.mono (by decide)) (by rfl) T.f__law_draw.g T.f__law_draw.F.kp T.f__law_draw.b .nil pass0 (pa_cons (pv 1) (pa_cons pe_int pa_nil))) pa_nil)) (blkOk_by (own := [("at", 17)]) (N := N_law) (sc := defScope s_law) (by decide +kernel)) (fun _ _ _ _ _ => pg_name (i := 17) nd rfl (Or.inl rfl)) (fun _ _ _ _ _ => pts_nil) (fun _ _ _ _ _ => (pe_call (ok__law_draw T) (hr.mono (by decide)) (by rfl) T.f__law_draw.g T.f__law_draw.F.kp T.f__law_draw.b .nil pass0 (pa_cons (pv 1) (pa_cons (pv 4) pa_nil))))) (pss_cons (ps_set (i := 9) nd rfl (by first | exact Or.inl rfl | exact Or.inr rfl) (pe_call (ok__law_odd_figures T) (hr.mono (by decide)) (by rfl) T.f__law_odd_figures.g T.f__law_odd_figures.F.kp T.f__law_odd_figures.b .nil pass0 (pa_cons (pv 1) (pa_cons (pv 4) (pa_cons (pv 8) pa_nil))))) (pss_cons (ps_set (i := 10) nd rfl (by first | exact Or.inl rfl | exact Or.inr rfl) (pe_call (ok__law_odd_figure T) (hr.mono (by decide)) (by rfl) T.f__law_odd_figure.g T.f__law_odd_figure.F.kp T.f__law_odd_figure.b .nil pass0 (pa_cons (pv 1) (pa_cons (pv 4) pa_nil)))) (pss_cons (ps_set (i := 11) nd rfl (by first | exact Or.inl rfl | exact Or.inr rfl) (pe_call (ok__law_no_stand T) (hr.mono (by decide)) (by rfl) T.f__law_no_stand.g T.f__law_no_stand.F.kp T.f__law_no_stand.b .nil pass0 (pa_cons (pv 1) (pa_cons (pv 3) pa_nil)))) (pss_cons (ps_set (i := 12) nd rfl (by first | exact Or.inl rfl | exact Or.inr rfl) (pe_call (ok__law_draw T) (hr.mono (by decide)) (by rfl) T.f__law_draw.g T.f__law_draw.F.kp T.f__law_draw.b .nil pass0 (pa_cons (pv 1) (pa_cons (pv 4) pa_nil)))) (pss_cons (ps_set (i := 13) nd rfl (by first | exact Or.inl rfl | exact Or.inr rfl) (pe_ix (r := rIxL K) ix_list (pe_call (ok__law_all T) (hr.mono (by decide)) (by rfl) T.f__law_all.g T.f__law_all.F.kp T.f__law_all.b .nil pass0 (pa_cons (pv 5) pa_nil)) (pe_call (ok__law_draw T) (hr.mono (by decide)) (by rfl) T.f__law_draw.g T.f__law_draw.F.kp T.f__law_draw.b .nil pass0 (pa_cons (pv 1) (pa_cons (pe_callB (r := rLenT K) call_lenT (by rfl) T.z_len PySem.boot_len (pa_cons (pe_call (ok__law_all T) (hr.mono (by decide)) (by rfl) T.f__law_all.g T.f__law_all.F.kp T.f__law_all.b .nil pass0 (pa_cons (pv 5) pa_nil)) pa_nil)) pa_nil))) (fun _ _ => rfl))) (pss_cons (ps_set (i := 14) nd rfl (by first | exact Or.inl rfl | exact Or.inr rfl) (pe_ix (r := rIxL K) ix_list (pe_lst (pa_cons (pe_lst (pa_cons (pv 8) (pa_cons (pv 12) pa_nil))) (pa_cons (pe_lst (pa_cons (pv 9) (pa_cons (pv 10) pa_nil))) (pa_cons (pe_lst (pa_cons (pv 11) (pa_cons (pv 10) pa_nil))) pa_nil)))) (pe_op op_mod (pv 6) pe_int) (fun _ _ => rfl))) (pss_cons (ps_for PassesOwn.never rfl (pi_range1 (by rfl) T.z_range (pa_cons pe_int pa_nil)) (pg_name (i := 15) nd rfl (by first | exact Or.inl rfl | exact Or.inr rfl)) (pss_one (ps_if (PW.pt (pw_and (pt_not (pt_val (pe_call (ok__law_is_rule T) (hr.mono (by decide)) (by rfl) T.f__law_is_rule.g T.f__law_is_rule.F.kp T.f__law_is_rule.b .nil pass0 (pa_cons (pv 7) pa_nil)))) (pw_and1 (pt_not (pt_val (pe_callG hgd (ok__law_right T hbs) (hr.mono (by decide)) (by rfl) T.f__law_right.g T.f__law_right.F.kp T.f__law_right.b .nil pass0 (pa_cons (pv 15) (pa_cons (pv 7) (pa_cons (pe_ix (r := rIxL K) ix_list (pv 14) pe_int (fun _ _ => rfl)) (pa_cons (pe_ix (r := rIxL K) ix_list (pv 14) pe_int (fun _ _ => rfl)) (pa_cons pe_int pa_nil))))))))))) (pss_one (ps_ret pe_bl)) pss_nil))) (pss_cons (ps_if (PW.pt (pw_or (pt_not (pt_val (pe_callG hgd (ok__law_right T hbs) (hr.mono (by decide)) (by rfl) T.f__law_right.g T.f__law_right.F.kp T.f__law_right.b .nil pass0 (pa_cons pe_int (pa_cons (pv 3) (pa_cons (pv 9) (pa_cons pe_int (pa_cons pe_int pa_nil)))))))) (pw_or1 (pt_not (pt_val (pe_callG hgd (ok__law_right T hbs) (hr.mono (by decide)) (by rfl) T.f__law_right.g T.f__law_right.F.kp T.f__law_right.b .nil pass0 (pa_cons pe_int (pa_cons (pv 3) (pa_cons (pv 8) (pa_cons pe_int (pa_cons pe_non pa_nil))))))))))) (pss_one (ps_ret pe_bl)) pss_nil) (pss_cons (ps_set (i := 16) nd rfl (by first | exact Or.inl rfl | exact Or.inr rfl) (pe_ix (r := rIxL K) ix_list (pe_lst (pa_cons pe_int (pa_cons pe_non pa_nil))) (pe_callTy call_int1 (by rfl) T.z_int (by decide +kernel) (pa_cons (pe_call (ok__law_is_stand T) (hr.mono (by decide)) (by rfl) T.f__law_is_stand.g T.f__law_is_stand.F.kp T.f__law_is_stand.b .nil pass0 (pa_cons (pv 3) (pa_cons (pv 11) pa_nil))) pa_nil)) (fun _ _ => rfl))) (pss_cons (ps_if (PW.pt (pw_or (pt_not (pt_val (pe_callG hgd (ok__law_right T hbs) (hr.mono (by decide)) (by rfl) T.f__law_right.g T.f__law_right.F.kp T.f__law_right.b .nil pass0 (pa_cons pe_int (pa_cons (pv 3) (pa_cons (pv 11) (pa_cons (pv 12) (pa_cons (pv 16) pa_nil)))))))) (pw_or1 (pt_not (pt_val (pe_callG hgd (ok__law_right T hbs) (hr.mono (by decide)) (by rfl) T.f__law_right.g T.f__law_right.F.kp T.f__law_right.b .nil pass0 (pa_cons pe_int (pa_cons (pv 3) (pa_cons (pv 13) (pa_cons (pv 10) (pa_cons pe_int pa_nil))))))))))) (pss_one (ps_ret pe_bl)) pss_nil) (pss_cons (ps_if (PW.pt (pw_and (pt_cmp (pc_notN (pv 16))) (pw_and1 (pt_not (pt_val (pe_callG hgd (ok__law_right T hbs) (hr.mono (by decide)) (by rfl) T.f__law_right.g T.f__law_right.F.kp T.f__law_right.b .nil pass0 (pa_cons pe_int (pa_cons (pv 3) (pa_cons (pv 11) (pa_cons (pv 10) (pa_cons pe_int pa_nil))))))))))) (pss_one (ps_ret pe_bl)) pss_nil) (pss_one (ps_if (PW.pt (pw_or (pt_not (pt_val (pe_callG hgd (ok__law_right T hbs) (hr.mono (by decide)) (by rfl) T.f__law_right.g T.f__law_right.F.kp T.f__law_right.b .nil pass0 (pa_cons pe_int (pa_cons (pv 3) (pa_cons (pv 13) (pa_cons (pv 12) (pa_cons pe_non pa_nil)))))))) (pw_or1 (pt_not (pt_val (pe_callG hgd (ok__law_right T hbs) (hr.mono (by decide)) (by rfl) T.f__law_right.g T.f__law_right.F.kp T.f__law_right.b .nil pass0 (pa_cons pe_int (pa_cons (pv 3) (pa_cons pe_non (pa_cons pe_non (pa_cons pe_non pa_nil))))))))))) (pss_one (ps_ret pe_bl)) pss_nil)))))))))))))))))))) (pss_one (ps_ret pe_bl)))), ?_⟩
  rw [law] at hm
  with_reducible refine x_seq ?_
  with_reducible refine x_asg ?_
  with_reducible refine x_call ?_
  with_reducible refine x_cons ?_
  refine ⟨_, rfl, ?_⟩
  refine ⟨_, ns, rfl, hS, fun H dk A k1 hdk hA => ?_⟩
  with_reducible refine x_gnE (σ' := ([some (.ref a0), some (.ref dk), none, none, none, none, none, none, none, none, none, none, none, none, none, none, none, none] : L2.St)) (by with_unfolding_all rfl) ?_
  obtain ⟨F0, hF0⟩ : ∃ F : Hp, F = fun _ => none := ⟨_, rfl⟩
  have s0 : Sub F0 H := fun a o e => by rw [hF0] at e; cases e
  have G0 : Gr A F0 H F0 H := Gr.refl s0
  have dk0 : DkAt A H F0 H dk (mkDeck ns) := ⟨hdk, fun a _ => by rw [hF0], fun _ h => hdk.there h⟩
  with_reducible refine x_seq ?_
  with_reducible refine x_for ?_
  with_reducible refine x_rng1 ?_
  with_reducible refine x_cons ?_
  with_reducible refine x_c ?_
  refine ⟨_, rfl, (show Rg1 (12 : Int) from by decide).lo, (show Rg1 (12 : Int) from by decide).hi, ?_⟩
  refine for_rng (lo := 0) (hi := (12 : Int)) (by rw [Int.sub_zero]) (fun (ts1 : List Int) σ H1 => ∃ (F1 : Hp) (st1 : DkS) (y1 : Option V) (y2 : Option V) (y3 : Option V) (y4 : Option V) (y5 : Option V) (y6 : Option V) (y7 : Option V) (y8 : Option V) (y9 : Option V) (y10 : Option V) (y11 : Option V) (y12 : Option V) (y13 : Option V) (y14 : Option V) (y15 : Option V), forK (law_b1) ts1 st1 (law_e2) = some true ∧ Sub (F0) F1 ∧ Gr A F0 H F1 H1 ∧ DkAt A H F1 H1 dk st1 ∧ σ = [some (.ref a0), some (.ref dk), y10, y13, y2, y1, y15, y11, y8, y3, y12, y14, y7, y9, y4, y5, y6, none]) ⟨F0, _, _, _, _, _, _, _, _, _, _, _, _, _, _, _, _, hm, (Sub.refl _), G0, dk0, rfl⟩ (fun t1 ts2 σ H1 hW => ?_) (fun σ H1 hW => ?_)
  · skip
    obtain ⟨F1, st1, y1, y2, y3, y4, y5, y6, y7, y8, y9, y10, y11, y12, y13, y14, y15, hm, s1, G1, dk1, rfl⟩ := hW
    obtain ⟨next1, hnx1⟩ : ∃ nx, nx = fun s => forK (law_b1) ts2 s (law_e2) := ⟨_, rfl⟩
    have hm : (law_b1) st1 t1 next1 = some true := by rw [hnx1]; exact forK_c hm
    rw [law_b1] at hm
    with_reducible refine x_gnE (σ' := ([some (.ref a0), some (.ref dk), some (.int t1), y13, y2, y1, y15, y11, y8, y3, y12, y14, y7, y9, y4, y5, y6, none] : L2.St)) (by with_unfolding_all rfl) ?_
    with_reducible refine x_seq ?_
    with_reducible refine x_asg ?_
    with_reducible refine x_call ?_
    with_reducible refine x_cons ?_
    refine ⟨_, rfl, ?_⟩
    obtain ⟨⟨r1, st2⟩, hr1, hm⟩ := bindp hm
    refine ⟨_, _, _, _, r1, st2, rfl, G1.sub, dk1.at_, dk1.nf, hr1, fun N1 H2 v2 g1 dk2 d1 => ?_⟩
    have G2 := G1.trans g1
    have dk3 := dk1.stepA g1 dk2
    obtain ⟨a1, v3, v4, rfl, fa1, d2, d3⟩ := tup2_of d1
    obtain rfl := int_of d2
    obtain ⟨a2, us1, rfl, fa2, fr1⟩ := lst_of d3
    with_reducible refine x_gnE (σ' := ([some (.ref a0), some (.ref dk), some (.int t1), some (.ref a1), y2, y1, y15, y11, y8, y3, y12, y14, y7, y9, y4, y5, y6, none] : L2.St)) (by with_unfolding_all rfl) ?_
    with_reducible refine x_seq ?_
    with_reducible refine x_asg ?_
    refine ⟨_, rfl, ?_⟩
    refine ⟨_, _, rfl, .inl (.inl (G2.sub _ _ fa1)), rfl, ?_⟩
    refine ⟨_, _, rfl, ?_⟩
    with_reducible refine x_gnE (σ' := ([some (.ref a0), some (.ref dk), some (.int t1), some (.ref a1), some (.int (r1).1), y1, y15, y11, y8, y3, y12, y14, y7, y9, y4, y5, y6, none] : L2.St)) (by with_unfolding_all rfl) ?_
    refine ⟨_, _, rfl, ?_⟩
    with_reducible refine x_gnE (σ' := ([some (.ref a0), some (.ref dk), some (.int t1), some (.ref a1), some (.int (r1).1), some (.ref a2), y15, y11, y8, y3, y12, y14, y7, y9, y4, y5, y6, none] : L2.St)) (by with_unfolding_all rfl) ?_
    refine ⟨rfl, ?_⟩
    with_reducible refine x_for ?_
    with_reducible refine x_rng1 ?_
    with_reducible refine x_cons ?_
    with_reducible refine x_c ?_
    refine ⟨_, rfl, (show Rg1 (5 : Int) from by decide).lo, (show Rg1 (5 : Int) from by decide).hi, ?_⟩
    refine for_rng (lo := 0) (hi := (5 : Int)) (by rw [Int.sub_zero]) (fun (ts3 : List Int) σ H3 => ∃ (F2 : Hp) (st3 : DkS) (y16 : Option V) (y17 : Option V) (y18 : Option V) (y19 : Option V) (y20 : Option V) (y21 : Option V) (y22 : Option V) (y23 : Option V) (y24 : Option V) (y25 : Option V) (y26 : Option V), forK (law_b3 r1) ts3 st3 (law_e4 next1) = some true ∧ Sub (N1) F2 ∧ Gr A F0 H F2 H3 ∧ DkAt A H F2 H3 dk st3 ∧ σ = [some (.ref a0), some (.ref dk), some (.int t1), some (.ref a1), some (.int (r1).1), some (.ref a2), y26, y23, y21, y16, y24, y25, y20, y22, y17, y18, y19, none]) ⟨N1, _, _, _, _, _, _, _, _, _, _, _, _, hm, (Sub.refl _), G2, dk3, rfl⟩ (fun t2 ts4 σ H1 hW => ?_) (fun σ H1 hW => ?_)
    · skip
      obtain ⟨F2, st3, y16, y17, y18, y19, y20, y21, y22, y23, y24, y25, y26, hm, s2, G3, dk4, rfl⟩ := hW
      obtain ⟨next2, hnx2⟩ : ∃ nx, nx = fun s => forK (law_b3 r1) ts4 s (law_e4 next1) := ⟨_, rfl⟩
      have hm : (law_b3 r1) st3 t2 next2 = some true := by rw [hnx2]; exact forK_c hm
      rw [law_b3] at hm
      with_reducible refine x_gnE (σ' := ([some (.ref a0), some (.ref dk), some (.int t1), some (.ref a1), some (.int (r1).1), some (.ref a2), some (.int t2), y23, y21, y16, y24, y25, y20, y22, y17, y18, y19, none] : L2.St)) (by with_unfolding_all rfl) ?_
      with_reducible refine x_seq ?_
      with_reducible refine x_asg ?_
      with_reducible refine x_call ?_
      with_reducible refine x_cons ?_
      refine ⟨_, rfl, ?_⟩
      with_reducible refine x_cons ?_
      refine ⟨_, rfl, ?_⟩
      obtain ⟨⟨r2, st4⟩, hr2, hm⟩ := bindp hm
      refine ⟨_, _, _, _, _, r1, r2, st4, rfl, G3.sub, dk4.at_, dk4.nf, (mk_tup2 (s2 _ _ fa1) (.int _) (mk_lst (s2 _ _ fa2) (Rs_mono s2 fr1))), hr2, fun N2 H4 v6 g2 dk5 d4 => ?_⟩
      have G4 := G3.trans g2
      have dk6 := dk4.stepA g2 dk5
      with_reducible refine x_gnE (σ' := ([some (.ref a0), some (.ref dk), some (.int t1), some (.ref a1), some (.int (r1).1), some (.ref a2), some (.int t2), some v6, y21, y16, y24, y25, y20, y22, y17, y18, y19, none] : L2.St)) (by with_unfolding_all rfl) ?_
      with_reducible refine x_seq ?_
      with_reducible refine x_asg ?_
      with_reducible refine x_lc ?_
      with_reducible refine x_rng1 ?_
      with_reducible refine x_cons ?_
      with_reducible refine x_call ?_
      with_reducible refine x_cons ?_
      refine ⟨_, rfl, ?_⟩
      with_reducible refine x_cons ?_
      with_reducible refine x_c ?_
      obtain ⟨⟨r3, st5⟩, hr3, hm⟩ := bindp hm
      refine ⟨_, _, _, _, _, (6 : Int), r3, st5, rfl, G4.sub, dk6.at_, dk6.nf, (.int _), hr3, fun N3 H5 v7 g3 dk7 d5 => ?_⟩
      have G5 := G4.trans g3
      have dk8 := dk6.stepA g3 dk7
      obtain rfl := int_of d5
      obtain ⟨c1, hm⟩ := guardp hm
      refine ⟨_, rfl, c1.lo, c1.hi, fun p1 np1 => ?_⟩
      have g4 := Gr.newO (o := .lst []) G5.sub np1
      have o1 := Ow.new (us := []) G5 np1
      have G6 := G5.step g4
      have dk9 := dk8.step g4
      refine lc_rng (lo := 0) (hi := r3) (by rw [Int.sub_zero]) (fun (ts5 : List Int) H6 => ∃ (F3 : Hp) (st6 : DkS) (x2 : List Int) (us3 : List V), forK (law_c5 r1) ts5 (x2, st6) (law_k6 r1 t2 r2 next2) = some true ∧ Sub (N3) F3 ∧ Gr A F0 H F3 H6 ∧ Ow H F3 H6 p1 us3 ∧ Rs F3 us3 x2 ∧ DkAt A H F3 H6 dk st6) ⟨N3, _, ([] : List Int), _, hm, (Sub.refl _), G6, o1, Rs_nil, dk9⟩ (fun t3 ts6 H1 hW => ?_) (fun H1 hW => ?_)
      · skip
        obtain ⟨F3, st6, x2, us3, hm, s3, G7, o2, fr2, dk10⟩ := hW
        obtain ⟨next3, hnx3⟩ : ∃ nx, nx = fun s => forK (law_c5 r1) ts6 s (law_k6 r1 t2 r2 next2) := ⟨_, rfl⟩
        have hm : (law_c5 r1) (x2, st6) t3 next3 = some true := by rw [hnx3]; exact forK_c hm
        rw [law_c5] at hm
        with_reducible refine x_gnE (σ' := ([some (.ref a0), some (.ref dk), some (.int t1), some (.ref a1), some (.int (r1).1), some (.ref a2), some (.int t2), some v6, y21, y16, y24, y25, y20, y22, y17, y18, y19, some (.int t3)] : L2.St)) (by with_unfolding_all rfl) ?_
        refine ⟨rfl, ?_⟩
        with_reducible refine x_yes ?_
        refine iteT ?_
        with_reducible refine x_call ?_
        with_reducible refine x_cons ?_
        refine ⟨_, rfl, ?_⟩
        with_reducible refine x_cons ?_
        refine ⟨_, rfl, ?_⟩
        obtain ⟨⟨r4, st7⟩, hr4, hm⟩ := bindp hm
        refine ⟨_, _, _, _, _, (r1).1, r4, st7, rfl, G7.sub, dk10.at_, dk10.nf, (.int _), hr4, fun N4 H7 v9 g5 dk11 d6 => ?_⟩
        have G8 := G7.trans g5
        have o3 := o2.stepA g5 (dk10.out o2)
        have dk12 := dk10.stepA g5 dk11
        obtain rfl := int_of d6
        obtain ⟨c2, hm⟩ := guardp hm
        have G9 := o3.mutG (o := .lst (us3 ++ [(.int r4)])) G8
        have o4 := o3.mut (ws := us3 ++ [(.int r4)])
        have fr3 : Rs (α := Int) (N4) (us3 ++ [(.int r4)]) (x2 ++ [r4]) := Rs_snoc (Rs_mono g5.ex fr2) (.int _)
        have dk13 := dk12.mut (ws := us3 ++ [(.int r4)]) o3
        rw [hnx3] at hm
        exact ⟨_, o3.at_, szl (by rw [Rs_len (Rs_mono g5.ex fr2)]; exact c2), ⟨N4, _, (x2 ++ [r4]), _, hm, (s3.trans g5.ex), G9, o4, fr3, dk13⟩⟩
      · skip
        obtain ⟨F3, st6, x2, us3, hm, s4, G10, o5, fr4, dk14⟩ := hW
        have hm : (law_k6 r1 t2 r2 next2) (x2, st6) = some true := forK_n hm
        rw [law_k6] at hm
        obtain ⟨F4, G11, ex1, fa3, nf1⟩ := o5.frzE G10
        have fr5 := Rs_mono ex1 fr4
        have dk15 := dk14.frzN o5 ex1 nf1
        with_reducible refine x_gnE (σ' := ([some (.ref a0), some (.ref dk), some (.int t1), some (.ref a1), some (.int (r1).1), some (.ref a2), some (.int t2), some v6, some (.ref p1), y16, y24, y25, y20, y22, y17, y18, y19, none] : L2.St)) (by with_unfolding_all rfl) ?_
        with_reducible refine x_seq ?_
        with_reducible refine x_asg ?_
        with_reducible refine x_call ?_
        with_reducible refine x_cons ?_
        refine ⟨_, rfl, ?_⟩
        with_reducible refine x_cons ?_
        refine ⟨_, rfl, ?_⟩
        with_reducible refine x_cons ?_
        refine ⟨_, rfl, ?_⟩
        obtain ⟨⟨r5, st8⟩, hr5, hm⟩ := bindp hm
        refine ⟨_, _, _, _, _, _, (r1).1, x2, r5, st8, rfl, G11.sub, dk15.at_, dk15.nf, (.int _), (mk_lst ((Sub.refl _) _ _ fa3) (Rs_mono (Sub.refl _) fr5)), hr5, fun N5 H8 v10 g6 dk16 d7 => ?_⟩
        have G12 := G11.trans g6
        have dk17 := dk15.stepA g6 dk16
        with_reducible refine x_gnE (σ' := ([some (.ref a0), some (.ref dk), some (.int t1), some (.ref a1), some (.int (r1).1), some (.ref a2), some (.int t2), some v6, some (.ref p1), some v10, y24, y25, y20, y22, y17, y18, y19, none] : L2.St)) (by with_unfolding_all rfl) ?_
        with_reducible refine x_seq ?_
        with_reducible refine x_asg ?_
        with_reducible refine x_call ?_
        with_reducible refine x_cons ?_
        refine ⟨_, rfl, ?_⟩
        with_reducible refine x_cons ?_
        refine ⟨_, rfl, ?_⟩
        obtain ⟨⟨r6, st9⟩, hr6, hm⟩ := bindp hm
        refine ⟨_, _, _, _, _, (r1).1, r6, st9, rfl, G12.sub, dk17.at_, dk17.nf, (.int _), hr6, fun N6 H9 v11 g7 dk18 d8 => ?_⟩
        have G13 := G12.trans g7
        have dk19 := dk17.stepA g7 dk18
        with_reducible refine x_gnE (σ' := ([some (.ref a0), some (.ref dk), some (.int t1), some (.ref a1), some (.int (r1).1), some (.ref a2), some (.int t2), some v6, some (.ref p1), some v10, some v11, y25, y20, y22, y17, y18, y19, none] : L2.St)) (by with_unfolding_all rfl) ?_
        with_reducible refine x_seq ?_
        with_reducible refine x_asg ?_
        with_reducible refine x_call ?_
        with_reducible refine x_cons ?_
        refine ⟨_, rfl, ?_⟩
        with_reducible refine x_cons ?_
        refine ⟨_, rfl, ?_⟩
        obtain ⟨⟨r7, st10⟩, hr7, hm⟩ := bindp hm
        refine ⟨_, _, _, _, _, r1, r7, st10, rfl, G13.sub, dk19.at_, dk19.nf, (mk_tup2 (((((((s2.trans g2.ex).trans g3.ex).trans s4).trans ex1).trans g6.ex).trans g7.ex) _ _ fa1) (.int _) (mk_lst (((((((s2.trans g2.ex).trans g3.ex).trans s4).trans ex1).trans g6.ex).trans g7.ex) _ _ fa2) (Rs_mono ((((((s2.trans g2.ex).trans g3.ex).trans s4).trans ex1).trans g6.ex).trans g7.ex) fr1))), hr7, fun N7 H10 v12 g8 dk20 d9 => ?_⟩
        have G14 := G13.trans g8
        have dk21 := dk19.stepA g8 dk20
        with_reducible refine x_gnE (σ' := ([some (.ref a0), some (.ref dk), some (.int t1), some (.ref a1), some (.int (r1).1), some (.ref a2), some (.int t2), some v6, some (.ref p1), some v10, some v11, some v12, y20, y22, y17, y18, y19, none] : L2.St)) (by with_unfolding_all rfl) ?_
        with_reducible refine x_seq ?_
        with_reducible refine x_asg ?_
        with_reducible refine x_call ?_
        with_reducible refine x_cons ?_
        refine ⟨_, rfl, ?_⟩
        with_reducible refine x_cons ?_
        refine ⟨_, rfl, ?_⟩
        obtain ⟨⟨r8, st11⟩, hr8, hm⟩ := bindp hm
        refine ⟨_, _, _, _, _, (r1).1, r8, st11, rfl, G14.sub, dk21.at_, dk21.nf, (.int _), hr8, fun N8 H11 v13 g9 dk22 d10 => ?_⟩
        have G15 := G14.trans g9
        have dk23 := dk21.stepA g9 dk22
        obtain rfl := int_of d10
        with_reducible refine x_gnE (σ' := ([some (.ref a0), some (.ref dk), some (.int t1), some (.ref a1), some (.int (r1).1), some (.ref a2), some (.int t2), some v6, some (.ref p1), some v10, some v11, some v12, some (.int r8), y22, y17, y18, y19, none] : L2.St)) (by with_unfolding_all rfl) ?_
        with_reducible refine x_seq ?_
        with_reducible refine x_asg ?_
        with_reducible refine x_op ?_
        with_reducible refine x_call ?_
        with_reducible refine x_cons ?_
        refine ⟨_, rfl, ?_⟩
        obtain ⟨r9, hr9, hm⟩ := bindp hm
        refine ⟨_, _, (r1).2, r9, rfl, G15.sub, (mk_lst (((((((((s2.trans g2.ex).trans g3.ex).trans s4).trans ex1).trans g6.ex).trans g7.ex).trans g8.ex).trans g9.ex) _ _ fa2) (Rs_mono ((((((((s2.trans g2.ex).trans g3.ex).trans s4).trans ex1).trans g6.ex).trans g7.ex).trans g8.ex).trans g9.ex) fr1)), hr9, fun N9 H12 v14 g10 d11  => ?_⟩
        have G16 := G15.step g10
        have dk24 := dk23.step g10
        obtain ⟨a3, us4, rfl, fa4, fr6⟩ := lst_of d11
        with_reducible refine x_call ?_
        with_reducible refine x_cons ?_
        refine ⟨_, rfl, ?_⟩
        with_reducible refine x_cons ?_
        with_reducible refine x_cb ?_
        with_reducible refine x_cons ?_
        with_reducible refine x_call ?_
        with_reducible refine x_cons ?_
        refine ⟨_, rfl, ?_⟩
        obtain ⟨r10, hr10, hm⟩ := bindp hm
        refine ⟨_, _, (r1).2, r10, rfl, G16.sub, (mk_lst ((((((((((s2.trans g2.ex).trans g3.ex).trans s4).trans ex1).trans g6.ex).trans g7.ex).trans g8.ex).trans g9.ex).trans g10.ex) _ _ fa2) (Rs_mono (((((((((s2.trans g2.ex).trans g3.ex).trans s4).trans ex1).trans g6.ex).trans g7.ex).trans g8.ex).trans g9.ex).trans g10.ex) fr1)), hr10, fun N10 H13 v15 g11 d12  => ?_⟩
        have G17 := G16.step g11
        have dk25 := dk24.step g11
        obtain ⟨a4, us5, rfl, fa5, fr7⟩ := lst_of d12
        refine ⟨_, _, rfl, .inl (.inl (.inl (G17.sub _ _ fa5))), ?_⟩
        rw [Rs_len (Rs_mono (Sub.refl _) fr7)]
        obtain ⟨⟨r11, st12⟩, hr11, hm⟩ := bindp hm
        refine ⟨_, _, _, _, _, (r10.length : Int), r11, st12, rfl, G17.sub, dk25.at_, dk25.nf, (.int _), hr11, fun N11 H14 v16 g12 dk26 d13 => ?_⟩
        have G18 := G17.trans g12
        have dk27 := dk25.stepA g12 dk26
        obtain rfl := int_of d13
        obtain ⟨x3, hx1, hm⟩ := bindp hm
        obtain ⟨v17, hu1, d14⟩ := Rs_at (Rs_mono (g11.ex.trans g12.ex) fr6) hx1
        refine ⟨_, _, _, _, rfl, rfl, .inl (.inl (((g11.ex.trans g12.ex).trans G18.sub) _ _ fa4)), hu1, ?_⟩
        obtain ⟨a5, us6, rfl, fa6, fr8⟩ := lst_of d14
        with_reducible refine x_gnE (σ' := ([some (.ref a0), some (.ref dk), some (.int t1), some (.ref a1), some (.int (r1).1), some (.ref a2), some (.int t2), some v6, some (.ref p1), some v10, some v11, some v12, some (.int r8), some (.ref a5), y17, y18, y19, none] : L2.St)) (by with_unfolding_all rfl) ?_
        with_reducible refine x_seq ?_
        with_reducible refine x_asg ?_
        with_reducible refine x_op ?_
        with_reducible refine x_lst ?_
        with_reducible refine x_cons ?_
        with_reducible refine x_lst ?_
        with_reducible refine x_cons ?_
        refine ⟨_, rfl, ?_⟩
        have d15 : R (α := PyData) (N11) (.ref p1) (PyData.list (x2.map fun z => (PyData.int z))) := (mk_lst (((((((g6.ex.trans g7.ex).trans g8.ex).trans g9.ex).trans g10.ex).trans g11.ex).trans g12.ex) _ _ fa3) (Rs_mono ((((((g6.ex.trans g7.ex).trans g8.ex).trans g9.ex).trans g10.ex).trans g11.ex).trans g12.ex) fr5))
        with_reducible refine x_cons ?_
        refine ⟨_, rfl, ?_⟩
        have d16 : R (α := PyData) (N11) (.int r8) (PyData.int r8) := (.int _)
        refine ⟨szle (show 2 ≤ 16777216 from by decide), fun p2 np2 => ?_⟩
        have fr9 : Rs (α := PyData) (N11) [(.ref p1), (.int r8)] ([(PyData.list (x2.map fun z => (PyData.int z))), (PyData.int r8)] : (List PyData)) := (Rs_cons (RD.mono (Sub.refl _) d15) (Rs_cons (RD.mono (Sub.refl _) d16) Rs_nil))
        have g13 := Gr.newO (o := .lst [(.ref p1), (.int r8)]) G18.sub np2
        have o6 := Ow.new (us := [(.ref p1), (.int r8)]) G18 np2
        have G19 := G18.step g13
        have dk28 := dk27.step g13
        obtain ⟨F5, G20, ex2, fa7, nf2⟩ := o6.frzE G19
        have fr10 := Rs_mono ex2 fr9
        have dk29 := dk28.frzN o6 ex2 nf2
        with_reducible refine x_cons ?_
        with_reducible refine x_lst ?_
        with_reducible refine x_cons ?_
        refine ⟨_, rfl, ?_⟩
        with_reducible refine x_cons ?_
        refine ⟨_, rfl, ?_⟩
        refine ⟨szle (show 2 ≤ 16777216 from by decide), fun p3 np3 => ?_⟩
        have fr11 : Rs (α := PyData) (F5) [v10, v11] ([r5, r6] : (List PyData)) := (Rs_cons (RD.mono ((((((g7.ex.trans g8.ex).trans g9.ex).trans g10.ex).trans g11.ex).trans g12.ex).trans ex2) d7) (Rs_cons (RD.mono (((((g8.ex.trans g9.ex).trans g10.ex).trans g11.ex).trans g12.ex).trans ex2) d8) Rs_nil))
        have g14 := Gr.newO (o := .lst [v10, v11]) G20.sub np3
        have o7 := Ow.new (us := [v10, v11]) G20 np3
        have G21 := G20.step g14
        have dk30 := dk29.step g14
        obtain ⟨F6, G22, ex3, fa8, nf3⟩ := o7.frzE G21
        have fr12 := Rs_mono ex3 fr11
        have dk31 := dk30.frzN o7 ex3 nf3
        with_reducible refine x_cons ?_
        with_reducible refine x_lst ?_
        with_reducible refine x_cons ?_
        refine ⟨_, rfl, ?_⟩
        with_reducible refine x_cons ?_
        refine ⟨_, rfl, ?_⟩
        refine ⟨szle (show 2 ≤ 16777216 from by decide), fun p4 np4 => ?_⟩
        have fr13 : Rs (α := PyData) (F6) [v12, v11] ([r7, r6] : (List PyData)) := (Rs_cons (RD.mono (((((g9.ex.trans g10.ex).trans g11.ex).trans g12.ex).trans ex2).trans ex3) d9) (Rs_cons (RD.mono ((((((g8.ex.trans g9.ex).trans g10.ex).trans g11.ex).trans g12.ex).trans ex2).trans ex3) d8) Rs_nil))
        have g15 := Gr.newO (o := .lst [v12, v11]) G22.sub np4
        have o8 := Ow.new (us := [v12, v11]) G22 np4
        have G23 := G22.step g15
        have dk32 := dk31.step g15
        obtain ⟨F7, G24, ex4, fa9, nf4⟩ := o8.frzE G23
        have fr14 := Rs_mono ex4 fr13
        have dk33 := dk32.frzN o8 ex4 nf4
        refine ⟨szle (show 3 ≤ 16777216 from by decide), fun p5 np5 => ?_⟩
        have fr15 : Rs (α := (List PyData)) (F7) [(.ref p2), (.ref p3), (.ref p4)] ([([(PyData.list (x2.map fun z => (PyData.int z))), (PyData.int r8)] : (List PyData)), ([r5, r6] : (List PyData)), ([r7, r6] : (List PyData))] : (List (List PyData))) := (Rs_cons (mk_lst ((ex3.trans ex4) _ _ fa7) (Rs_mono (ex3.trans ex4) fr10)) (Rs_cons (mk_lst (ex4 _ _ fa8) (Rs_mono ex4 fr12)) (Rs_cons (mk_lst ((Sub.refl _) _ _ fa9) (Rs_mono (Sub.refl _) fr14)) Rs_nil)))
        have g16 := Gr.newO (o := .lst [(.ref p2), (.ref p3), (.ref p4)]) G24.sub np5
        have o9 := Ow.new (us := [(.ref p2), (.ref p3), (.ref p4)]) G24 np5
        have G25 := G24.step g16
        have dk34 := dk33.step g16
        with_reducible refine x_op ?_
        refine ⟨_, rfl, ?_⟩
        with_reducible refine x_c ?_
        refine ⟨_, _, rfl, rfl, (show (0 : Int) < (3 : Int) from by decide), ?_⟩
        obtain ⟨x4, hx2, hm⟩ := bindp hm
        obtain ⟨v18, hu2, d17⟩ := Rs_at fr15 hx2
        refine ⟨_, _, _, _, rfl, rfl, .inl (.inl o9.at_), hu2, ?_⟩
        obtain ⟨a6, us7, rfl, fa10, fr16⟩ := lst_of d17
        with_reducible refine x_gnE (σ' := ([some (.ref a0), some (.ref dk), some (.int t1), some (.ref a1), some (.int (r1).1), some (.ref a2), some (.int t2), some v6, some (.ref p1), some v10, some v11, some v12, some (.int r8), some (.ref a5), some (.ref a6), y18, y19, none] : L2.St)) (by with_unfolding_all rfl) ?_
        with_reducible refine x_seq ?_
        with_reducible refine x_for ?_
        with_reducible refine x_rng1 ?_
        with_reducible refine x_cons ?_
        with_reducible refine x_c ?_
        refine ⟨_, rfl, (show Rg1 (3 : Int) from by decide).lo, (show Rg1 (3 : Int) from by decide).hi, ?_⟩
        refine for_rng (lo := 0) (hi := (3 : Int)) (by rw [Int.sub_zero]) (fun (ts7 : List Int) σ H15 => ∃ (F8 : Hp) (st13 : DkS) (y27 : Option V), forK (law_b7 r2 x4) ts7 st13 (law_e8 r1 r5 x2 r7 r8 x3 r6 next2) = some true ∧ Sub (F7) F8 ∧ Gr A F0 H F8 H15 ∧ DkAt A H F8 H15 dk st13 ∧ σ = [some (.ref a0), some (.ref dk), some (.int t1), some (.ref a1), some (.int (r1).1), some (.ref a2), some (.int t2), some v6, some (.ref p1), some v10, some v11, some v12, some (.int r8), some (.ref a5), some (.ref a6), y27, y19, none]) ⟨F7, _, _, hm, (Sub.refl _), G25, dk34, rfl⟩ (fun t4 ts8 σ H1 hW => ?_) (fun σ H1 hW => ?_)
        · skip
          obtain ⟨F8, st13, y27, hm, s5, G26, dk35, rfl⟩ := hW
          obtain ⟨next4, hnx4⟩ : ∃ nx, nx = fun s => forK (law_b7 r2 x4) ts8 s (law_e8 r1 r5 x2 r7 r8 x3 r6 next2) := ⟨_, rfl⟩
          have hm : (law_b7 r2 x4) st13 t4 next4 = some true := by rw [hnx4]; exact forK_c hm
          rw [law_b7] at hm
          with_reducible refine x_gnE (σ' := ([some (.ref a0), some (.ref dk), some (.int t1), some (.ref a1), some (.int (r1).1), some (.ref a2), some (.int t2), some v6, some (.ref p1), some v10, some v11, some v12, some (.int r8), some (.ref a5), some (.ref a6), some (.int t4), y19, none] : L2.St)) (by with_unfolding_all rfl) ?_
          with_reducible refine x_if ?_
          with_reducible refine x_and ?_
          with_reducible refine x_not ?_
          with_reducible refine x_B ?_
          with_reducible refine x_call ?_
          with_reducible refine x_cons ?_
          refine ⟨_, rfl, ?_⟩
          obtain ⟨r12, hr12, hm⟩ := bindp hm
          refine ⟨_, _, r2, r12, rfl, G26.sub, (RD.mono (((((((((((((g3.ex.trans s4).trans ex1).trans g6.ex).trans g7.ex).trans g8.ex).trans g9.ex).trans g10.ex).trans g11.ex).trans g12.ex).trans ex2).trans ex3).trans ex4).trans s5) d4), hr12, fun N12 H16 v20 g17 d18  => ?_⟩
          have G27 := G26.step g17
          have dk36 := dk35.step g17
          obtain rfl := bl_of d18
          refine ⟨_, rfl, ?_⟩
          refine ifD (fun hc => ?_) (fun hc => ?_)
          · replace hm := itep hm hc
            with_reducible refine x_not ?_
            with_reducible refine x_B ?_
            with_reducible refine x_call ?_
            with_reducible refine x_cons ?_
            refine ⟨_, rfl, ?_⟩
            with_reducible refine x_cons ?_
            refine ⟨_, rfl, ?_⟩
            with_reducible refine x_cons ?_
            with_reducible refine x_op ?_
            refine ⟨_, rfl, ?_⟩
            with_reducible refine x_c ?_
            obtain ⟨x5, hx3, hm⟩ := bindp hm
            obtain ⟨v21, hu3, d19⟩ := Rs_at (Rs_mono (s5.trans g17.ex) fr16) hx3
            refine ⟨_, _, _, _, rfl, rfl, .inl (.inl (((s5.trans g17.ex).trans G27.sub) _ _ fa10)), hu3, ?_⟩
            with_reducible refine x_cons ?_
            with_reducible refine x_op ?_
            refine ⟨_, rfl, ?_⟩
            with_reducible refine x_c ?_
            obtain ⟨x6, hx4, hm⟩ := bindp hm
            obtain ⟨v22, hu4, d20⟩ := Rs_at (Rs_mono (s5.trans g17.ex) fr16) hx4
            refine ⟨_, _, _, _, rfl, rfl, .inl (.inl (((s5.trans g17.ex).trans G27.sub) _ _ fa10)), hu4, ?_⟩
            with_reducible refine x_cons ?_
            with_reducible refine x_c ?_
            have d21 : R (α := PyData) (N12) (.int 3) (PyData.int (3 : Int)) := (.int _)
            obtain ⟨r13, hr13, hm⟩ := bindp hm
            refine ⟨_, _, _, _, _, _, t4, r2, x5, x6, (PyData.int (3 : Int)), r13, rfl, G27.sub, (.int _), (RD.mono ((((((((((((((g3.ex.trans s4).trans ex1).trans g6.ex).trans g7.ex).trans g8.ex).trans g9.ex).trans g10.ex).trans g11.ex).trans g12.ex).trans ex2).trans ex3).trans ex4).trans s5).trans g17.ex) d4), (RD.mono (Sub.refl _) d19), (RD.mono (Sub.refl _) d20), (RD.mono (Sub.refl _) d21), hr13, fun N13 H17 v23 g18 d22  => ?_⟩
            have G28 := G27.step g18
            have dk37 := dk36.step g18
            obtain rfl := bl_of d22
            refine ⟨_, rfl, ?_⟩
            refine ifD (fun hc => ?_) (fun hc => ?_)
            · replace hm := itep hm hc
              with_reducible refine x_ret ?_
              with_reducible refine x_c ?_
              exact ret_true hm q
            · replace hm := iten hm (bF hc)
              with_reducible refine x_next ?_
              rw [hnx4] at hm
              exact ⟨N13, _, _, hm, ((s5.trans g17.ex).trans g18.ex), G28, dk37, rfl⟩
          · replace hm := iten hm (bF hc)
            refine iteF ?_
            with_reducible refine x_next ?_
            rw [hnx4] at hm
            exact ⟨N12, _, _, hm, (s5.trans g17.ex), G27, dk36, rfl⟩
        · skip
          obtain ⟨F8, st13, y27, hm, s6, G29, dk38, rfl⟩ := hW
          have hm : (law_e8 r1 r5 x2 r7 r8 x3 r6 next2) st13 = some true := forK_n hm
          rw [law_e8] at hm
          with_reducible refine x_seq ?_
          with_reducible refine x_if ?_
          with_reducible refine x_or ?_
          with_reducible refine x_not ?_
          with_reducible refine x_B ?_
          with_reducible refine x_call ?_
          with_reducible refine x_cons ?_
          with_reducible refine x_c ?_
          with_reducible refine x_cons ?_
          refine ⟨_, rfl, ?_⟩
          with_reducible refine x_cons ?_
          refine ⟨_, rfl, ?_⟩
          with_reducible refine x_cons ?_
          with_reducible refine x_c ?_
          with_reducible refine x_cons ?_
          with_reducible refine x_c ?_
          have d23 : R (α := PyData) (F8) (.ref a1) (PyData.tuple [(PyData.int (r1).1), (PyData.list ((r1).2.map fun z => (PyData.list (z.map fun z => (PyData.int z)))))]) := (.tup ((((((((((((((((s2.trans g2.ex).trans g3.ex).trans s4).trans ex1).trans g6.ex).trans g7.ex).trans g8.ex).trans g9.ex).trans g10.ex).trans g11.ex).trans g12.ex).trans ex2).trans ex3).trans ex4).trans s6) _ _ fa1) (.cons (.int _) (.cons (mk_lst ((((((((((((((((s2.trans g2.ex).trans g3.ex).trans s4).trans ex1).trans g6.ex).trans g7.ex).trans g8.ex).trans g9.ex).trans g10.ex).trans g11.ex).trans g12.ex).trans ex2).trans ex3).trans ex4).trans s6) _ _ fa2) (Rs_mono (((((((((((((((s2.trans g2.ex).trans g3.ex).trans s4).trans ex1).trans g6.ex).trans g7.ex).trans g8.ex).trans g9.ex).trans g10.ex).trans g11.ex).trans g12.ex).trans ex2).trans ex3).trans ex4).trans s6) fr1)) .nil)))
          have d24 : R (α := PyData) (F8) (.int 0) (PyData.int (0 : Int)) := (.int _)
          have d25 : R (α := PyData) (F8) (.int 2) (PyData.int (2 : Int)) := (.int _)
          obtain ⟨r14, hr14, hm⟩ := bindp hm
          refine ⟨_, _, _, _, _, _, (0 : Int), (PyData.tuple [(PyData.int (r1).1), (PyData.list ((r1).2.map fun z => (PyData.list (z.map fun z => (PyData.int z)))))]), r5, (PyData.int (0 : Int)), (PyData.int (2 : Int)), r14, rfl, G29.sub, (.int _), (RD.mono (Sub.refl _) d23), (RD.mono (((((((((g7.ex.trans g8.ex).trans g9.ex).trans g10.ex).trans g11.ex).trans g12.ex).trans ex2).trans ex3).trans ex4).trans s6) d7), (RD.mono (Sub.refl _) d24), (RD.mono (Sub.refl _) d25), hr14, fun N14 H18 v24 g19 d26  => ?_⟩
          have G30 := G29.step g19
          have dk39 := dk38.step g19
          obtain rfl := bl_of d26
          refine ⟨_, rfl, ?_⟩
          refine ifD (fun hc => ?_) (fun hc => ?_)
          · replace hm := itep hm hc
            refine iteT ?_
            with_reducible refine x_ret ?_
            with_reducible refine x_c ?_
            exact ret_true hm q
          · replace hm := iten hm (bF hc)
            with_reducible refine x_not ?_
            with_reducible refine x_B ?_
            with_reducible refine x_call ?_
            with_reducible refine x_cons ?_
            with_reducible refine x_c ?_
            with_reducible refine x_cons ?_
            refine ⟨_, rfl, ?_⟩
            with_reducible refine x_cons ?_
            refine ⟨_, rfl, ?_⟩
            with_reducible refine x_cons ?_
            with_reducible refine x_c ?_
            with_reducible refine x_cons ?_
            with_reducible refine x_c ?_
            have d27 : R (α := PyData) (N14) (.ref a1) (PyData.tuple [(PyData.int (r1).1), (PyData.list ((r1).2.map fun z => (PyData.list (z.map fun z => (PyData.int z)))))]) := (.tup (((((((((((((((((s2.trans g2.ex).trans g3.ex).trans s4).trans ex1).trans g6.ex).trans g7.ex).trans g8.ex).trans g9.ex).trans g10.ex).trans g11.ex).trans g12.ex).trans ex2).trans ex3).trans ex4).trans s6).trans g19.ex) _ _ fa1) (.cons (.int _) (.cons (mk_lst (((((((((((((((((s2.trans g2.ex).trans g3.ex).trans s4).trans ex1).trans g6.ex).trans g7.ex).trans g8.ex).trans g9.ex).trans g10.ex).trans g11.ex).trans g12.ex).trans ex2).trans ex3).trans ex4).trans s6).trans g19.ex) _ _ fa2) (Rs_mono ((((((((((((((((s2.trans g2.ex).trans g3.ex).trans s4).trans ex1).trans g6.ex).trans g7.ex).trans g8.ex).trans g9.ex).trans g10.ex).trans g11.ex).trans g12.ex).trans ex2).trans ex3).trans ex4).trans s6).trans g19.ex) fr1)) .nil)))
            have d28 : R (α := PyData) (N14) (.ref p1) (PyData.list (x2.map fun z => (PyData.int z))) := (mk_lst ((((((((((((g6.ex.trans g7.ex).trans g8.ex).trans g9.ex).trans g10.ex).trans g11.ex).trans g12.ex).trans ex2).trans ex3).trans ex4).trans s6).trans g19.ex) _ _ fa3) (Rs_mono (((((((((((g6.ex.trans g7.ex).trans g8.ex).trans g9.ex).trans g10.ex).trans g11.ex).trans g12.ex).trans ex2).trans ex3).trans ex4).trans s6).trans g19.ex) fr5))
            have d29 : R (α := PyData) (N14) (.int 0) (PyData.int (0 : Int)) := (.int _)
            have d30 : R (α := PyData) (N14) .non PyData.none := .non
            obtain ⟨r15, hr15, hm⟩ := bindp hm
            refine ⟨_, _, _, _, _, _, (0 : Int), (PyData.tuple [(PyData.int (r1).1), (PyData.list ((r1).2.map fun z => (PyData.list (z.map fun z => (PyData.int z)))))]), (PyData.list (x2.map fun z => (PyData.int z))), (PyData.int (0 : Int)), PyData.none, r15, rfl, G30.sub, (.int _), (RD.mono (Sub.refl _) d27), (RD.mono (Sub.refl _) d28), (RD.mono (Sub.refl _) d29), (RD.mono (Sub.refl _) d30), hr15, fun N15 H19 v25 g20 d31  => ?_⟩
            have G31 := G30.step g20
            have dk40 := dk39.step g20
            obtain rfl := bl_of d31
            refine ⟨_, rfl, ?_⟩
            refine ifD (fun hc => ?_) (fun hc => ?_)
            · replace hm := itep hm hc
              with_reducible refine x_ret ?_
              with_reducible refine x_c ?_
              exact ret_true hm q
            · replace hm := iten hm (bF hc)
              with_reducible refine x_next ?_
              with_reducible refine x_seq ?_
              with_reducible refine x_asg ?_
              with_reducible refine x_op ?_
              with_reducible refine x_lst ?_
              with_reducible refine x_cons ?_
              with_reducible refine x_c ?_
              have d32 : R (α := PyData) (N15) (.int 4) (PyData.int (4 : Int)) := (.int _)
              with_reducible refine x_cons ?_
              with_reducible refine x_c ?_
              have d33 : R (α := PyData) (N15) .non PyData.none := .non
              refine ⟨szle (show 2 ≤ 16777216 from by decide), fun p6 np6 => ?_⟩
              have fr17 : Rs (α := PyData) (N15) [(.int 4), .non] ([(PyData.int (4 : Int)), PyData.none] : (List PyData)) := (Rs_cons (RD.mono (Sub.refl _) d32) (Rs_cons (RD.mono (Sub.refl _) d33) Rs_nil))
              have g21 := Gr.newO (o := .lst [(.int 4), .non]) G31.sub np6
              have o10 := Ow.new (us := [(.int 4), .non]) G31 np6
              have G32 := G31.step g21
              have dk41 := dk40.step g21
              with_reducible refine x_cb ?_
              with_reducible refine x_cons ?_
              with_reducible refine x_call ?_
              with_reducible refine x_cons ?_
              refine ⟨_, rfl, ?_⟩
              with_reducible refine x_cons ?_
              refine ⟨_, rfl, ?_⟩
              obtain ⟨r16, hr16, hm⟩ := bindp hm
              refine ⟨_, _, _, r1, r7, r16, rfl, G32.sub, (mk_tup2 ((((((((((((((((((s2.trans g2.ex).trans g3.ex).trans s4).trans ex1).trans g6.ex).trans g7.ex).trans g8.ex).trans g9.ex).trans g10.ex).trans g11.ex).trans g12.ex).trans ex2).trans ex3).trans ex4).trans s6).trans g19.ex).trans g20.ex) _ _ fa1) (.int _) (mk_lst ((((((((((((((((((s2.trans g2.ex).trans g3.ex).trans s4).trans ex1).trans g6.ex).trans g7.ex).trans g8.ex).trans g9.ex).trans g10.ex).trans g11.ex).trans g12.ex).trans ex2).trans ex3).trans ex4).trans s6).trans g19.ex).trans g20.ex) _ _ fa2) (Rs_mono (((((((((((((((((s2.trans g2.ex).trans g3.ex).trans s4).trans ex1).trans g6.ex).trans g7.ex).trans g8.ex).trans g9.ex).trans g10.ex).trans g11.ex).trans g12.ex).trans ex2).trans ex3).trans ex4).trans s6).trans g19.ex).trans g20.ex) fr1))), (RD.mono (((((((((g9.ex.trans g10.ex).trans g11.ex).trans g12.ex).trans ex2).trans ex3).trans ex4).trans s6).trans g19.ex).trans g20.ex) d9), hr16, fun N16 H20 v26 g22 d34  => ?_⟩
              have G33 := G32.step g22
              have o11 := o10.step g22
              have dk42 := dk41.step g22
              obtain rfl := bl_of d34
              refine .inr ⟨_, rfl, ?_⟩
              obtain ⟨x7, hx5, hm⟩ := bindp hm
              obtain ⟨v27, hu5, d35⟩ := Rs_at (Rs_mono g22.ex fr17) hx5
              refine ⟨_, _, _, _, rfl, rfl, .inl (.inl o11.at_), hu5, ?_⟩
              with_reducible refine x_gnE (σ' := ([some (.ref a0), some (.ref dk), some (.int t1), some (.ref a1), some (.int (r1).1), some (.ref a2), some (.int t2), some v6, some (.ref p1), some v10, some v11, some v12, some (.int r8), some (.ref a5), some (.ref a6), y27, some v27, none] : L2.St)) (by with_unfolding_all rfl) ?_
              with_reducible refine x_seq ?_
              with_reducible refine x_if ?_
              with_reducible refine x_or ?_
              with_reducible refine x_not ?_
              with_reducible refine x_B ?_
              with_reducible refine x_call ?_
              with_reducible refine x_cons ?_
              with_reducible refine x_c ?_
              with_reducible refine x_cons ?_
              refine ⟨_, rfl, ?_⟩
              with_reducible refine x_cons ?_
              refine ⟨_, rfl, ?_⟩
              with_reducible refine x_cons ?_
              refine ⟨_, rfl, ?_⟩
              with_reducible refine x_cons ?_
              refine ⟨_, rfl, ?_⟩
              have d36 : R (α := PyData) (N16) (.ref a1) (PyData.tuple [(PyData.int (r1).1), (PyData.list ((r1).2.map fun z => (PyData.list (z.map fun z => (PyData.int z)))))]) := (.tup (((((((((((((((((((s2.trans g2.ex).trans g3.ex).trans s4).trans ex1).trans g6.ex).trans g7.ex).trans g8.ex).trans g9.ex).trans g10.ex).trans g11.ex).trans g12.ex).trans ex2).trans ex3).trans ex4).trans s6).trans g19.ex).trans g20.ex).trans g22.ex) _ _ fa1) (.cons (.int _) (.cons (mk_lst (((((((((((((((((((s2.trans g2.ex).trans g3.ex).trans s4).trans ex1).trans g6.ex).trans g7.ex).trans g8.ex).trans g9.ex).trans g10.ex).trans g11.ex).trans g12.ex).trans ex2).trans ex3).trans ex4).trans s6).trans g19.ex).trans g20.ex).trans g22.ex) _ _ fa2) (Rs_mono ((((((((((((((((((s2.trans g2.ex).trans g3.ex).trans s4).trans ex1).trans g6.ex).trans g7.ex).trans g8.ex).trans g9.ex).trans g10.ex).trans g11.ex).trans g12.ex).trans ex2).trans ex3).trans ex4).trans s6).trans g19.ex).trans g20.ex).trans g22.ex) fr1)) .nil)))
              have d37 : R (α := PyData) (N16) (.int r8) (PyData.int r8) := (.int _)
              obtain ⟨r17, hr17, hm⟩ := bindp hm
              refine ⟨_, _, _, _, _, _, (2 : Int), (PyData.tuple [(PyData.int (r1).1), (PyData.list ((r1).2.map fun z => (PyData.list (z.map fun z => (PyData.int z)))))]), r7, (PyData.int r8), x7, r17, rfl, G33.sub, (.int _), (RD.mono (Sub.refl _) d36), (RD.mono ((((((((((g9.ex.trans g10.ex).trans g11.ex).trans g12.ex).trans ex2).trans ex3).trans ex4).trans s6).trans g19.ex).trans g20.ex).trans g22.ex) d9), (RD.mono (Sub.refl _) d37), (RD.mono (Sub.refl _) d35), hr17, fun N17 H21 v28 g23 d38  => ?_⟩
              have G34 := G33.step g23
              have dk43 := dk42.step g23
              obtain rfl := bl_of d38
              refine ⟨_, rfl, ?_⟩
              refine ifD (fun hc => ?_) (fun hc => ?_)
              · replace hm := itep hm hc
                refine iteT ?_
                with_reducible refine x_ret ?_
                with_reducible refine x_c ?_
                exact ret_true hm q
              · replace hm := iten hm (bF hc)
                with_reducible refine x_not ?_
                with_reducible refine x_B ?_
                with_reducible refine x_call ?_
                with_reducible refine x_cons ?_
                with_reducible refine x_c ?_
                with_reducible refine x_cons ?_
                refine ⟨_, rfl, ?_⟩
                with_reducible refine x_cons ?_
                refine ⟨_, rfl, ?_⟩
                with_reducible refine x_cons ?_
                refine ⟨_, rfl, ?_⟩
                with_reducible refine x_cons ?_
                with_reducible refine x_c ?_
                have d39 : R (α := PyData) (N17) (.ref a1) (PyData.tuple [(PyData.int (r1).1), (PyData.list ((r1).2.map fun z => (PyData.list (z.map fun z => (PyData.int z)))))]) := (.tup ((((((((((((((((((((s2.trans g2.ex).trans g3.ex).trans s4).trans ex1).trans g6.ex).trans g7.ex).trans g8.ex).trans g9.ex).trans g10.ex).trans g11.ex).trans g12.ex).trans ex2).trans ex3).trans ex4).trans s6).trans g19.ex).trans g20.ex).trans g22.ex).trans g23.ex) _ _ fa1) (.cons (.int _) (.cons (mk_lst ((((((((((((((((((((s2.trans g2.ex).trans g3.ex).trans s4).trans ex1).trans g6.ex).trans g7.ex).trans g8.ex).trans g9.ex).trans g10.ex).trans g11.ex).trans g12.ex).trans ex2).trans ex3).trans ex4).trans s6).trans g19.ex).trans g20.ex).trans g22.ex).trans g23.ex) _ _ fa2) (Rs_mono (((((((((((((((((((s2.trans g2.ex).trans g3.ex).trans s4).trans ex1).trans g6.ex).trans g7.ex).trans g8.ex).trans g9.ex).trans g10.ex).trans g11.ex).trans g12.ex).trans ex2).trans ex3).trans ex4).trans s6).trans g19.ex).trans g20.ex).trans g22.ex).trans g23.ex) fr1)) .nil)))
                have d40 : R (α := PyData) (N17) (.ref a5) (PyData.list (x3.map fun z => (PyData.int z))) := (mk_lst ((((((((ex2.trans ex3).trans ex4).trans s6).trans g19.ex).trans g20.ex).trans g22.ex).trans g23.ex) _ _ fa6) (Rs_mono (((((((ex2.trans ex3).trans ex4).trans s6).trans g19.ex).trans g20.ex).trans g22.ex).trans g23.ex) fr8))
                have d41 : R (α := PyData) (N17) (.int 2) (PyData.int (2 : Int)) := (.int _)
                obtain ⟨r18, hr18, hm⟩ := bindp hm
                refine ⟨_, _, _, _, _, _, (2 : Int), (PyData.tuple [(PyData.int (r1).1), (PyData.list ((r1).2.map fun z => (PyData.list (z.map fun z => (PyData.int z)))))]), (PyData.list (x3.map fun z => (PyData.int z))), r6, (PyData.int (2 : Int)), r18, rfl, G34.sub, (.int _), (RD.mono (Sub.refl _) d39), (RD.mono (Sub.refl _) d40), (RD.mono ((((((((((((g8.ex.trans g9.ex).trans g10.ex).trans g11.ex).trans g12.ex).trans ex2).trans ex3).trans ex4).trans s6).trans g19.ex).trans g20.ex).trans g22.ex).trans g23.ex) d8), (RD.mono (Sub.refl _) d41), hr18, fun N18 H22 v29 g24 d42  => ?_⟩
                have G35 := G34.step g24
                have dk44 := dk43.step g24
                obtain rfl := bl_of d42
                refine ⟨_, rfl, ?_⟩
                refine ifD (fun hc => ?_) (fun hc => ?_)
                · replace hm := itep hm hc
                  with_reducible refine x_ret ?_
                  with_reducible refine x_c ?_
                  exact ret_true hm q
                · replace hm := iten hm (bF hc)
                  with_reducible refine x_next ?_
                  with_reducible refine x_seq ?_
                  with_reducible refine x_if ?_
                  with_reducible refine x_and ?_
                  with_reducible refine x_B ?_
                  with_reducible refine x_notN' ?_
                  refine ⟨_, rfl, ?_⟩
                  refine ⟨_, (congrArg not (isN_D (RD.mono (g23.ex.trans g24.ex) d35))), ?_⟩
                  refine ⟨_, rfl, ?_⟩
                  refine ifD (fun hc => ?_) (fun hc => ?_)
                  · replace hm := itep hm hc
                    with_reducible refine x_not ?_
                    with_reducible refine x_B ?_
                    with_reducible refine x_call ?_
                    with_reducible refine x_cons ?_
                    with_reducible refine x_c ?_
                    with_reducible refine x_cons ?_
                    refine ⟨_, rfl, ?_⟩
                    with_reducible refine x_cons ?_
                    refine ⟨_, rfl, ?_⟩
                    with_reducible refine x_cons ?_
                    refine ⟨_, rfl, ?_⟩
                    with_reducible refine x_cons ?_
                    with_reducible refine x_c ?_
                    have d43 : R (α := PyData) (N18) (.ref a1) (PyData.tuple [(PyData.int (r1).1), (PyData.list ((r1).2.map fun z => (PyData.list (z.map fun z => (PyData.int z)))))]) := (.tup (((((((((((((((((((((s2.trans g2.ex).trans g3.ex).trans s4).trans ex1).trans g6.ex).trans g7.ex).trans g8.ex).trans g9.ex).trans g10.ex).trans g11.ex).trans g12.ex).trans ex2).trans ex3).trans ex4).trans s6).trans g19.ex).trans g20.ex).trans g22.ex).trans g23.ex).trans g24.ex) _ _ fa1) (.cons (.int _) (.cons (mk_lst (((((((((((((((((((((s2.trans g2.ex).trans g3.ex).trans s4).trans ex1).trans g6.ex).trans g7.ex).trans g8.ex).trans g9.ex).trans g10.ex).trans g11.ex).trans g12.ex).trans ex2).trans ex3).trans ex4).trans s6).trans g19.ex).trans g20.ex).trans g22.ex).trans g23.ex).trans g24.ex) _ _ fa2) (Rs_mono ((((((((((((((((((((s2.trans g2.ex).trans g3.ex).trans s4).trans ex1).trans g6.ex).trans g7.ex).trans g8.ex).trans g9.ex).trans g10.ex).trans g11.ex).trans g12.ex).trans ex2).trans ex3).trans ex4).trans s6).trans g19.ex).trans g20.ex).trans g22.ex).trans g23.ex).trans g24.ex) fr1)) .nil)))
                    have d44 : R (α := PyData) (N18) (.int 4) (PyData.int (4 : Int)) := (.int _)
                    obtain ⟨r19, hr19, hm⟩ := bindp hm
                    refine ⟨_, _, _, _, _, _, (2 : Int), (PyData.tuple [(PyData.int (r1).1), (PyData.list ((r1).2.map fun z => (PyData.list (z.map fun z => (PyData.int z)))))]), r7, r6, (PyData.int (4 : Int)), r19, rfl, G35.sub, (.int _), (RD.mono (Sub.refl _) d43), (RD.mono ((((((((((((g9.ex.trans g10.ex).trans g11.ex).trans g12.ex).trans ex2).trans ex3).trans ex4).trans s6).trans g19.ex).trans g20.ex).trans g22.ex).trans g23.ex).trans g24.ex) d9), (RD.mono (((((((((((((g8.ex.trans g9.ex).trans g10.ex).trans g11.ex).trans g12.ex).trans ex2).trans ex3).trans ex4).trans s6).trans g19.ex).trans g20.ex).trans g22.ex).trans g23.ex).trans g24.ex) d8), (RD.mono (Sub.refl _) d44), hr19, fun N19 H23 v30 g25 d45  => ?_⟩
                    have G36 := G35.step g25
                    have dk45 := dk44.step g25
                    obtain rfl := bl_of d45
                    refine ⟨_, rfl, ?_⟩
                    refine ifD (fun hc => ?_) (fun hc => ?_)
                    · replace hm := itep hm hc
                      with_reducible refine x_ret ?_
                      with_reducible refine x_c ?_
                      exact ret_true hm q
                    · replace hm := iten hm (bF hc)
                      with_reducible refine x_next ?_
                      with_reducible refine x_if ?_
                      with_reducible refine x_or ?_
                      with_reducible refine x_not ?_
                      with_reducible refine x_B ?_
                      with_reducible refine x_call ?_
                      with_reducible refine x_cons ?_
                      with_reducible refine x_c ?_
                      with_reducible refine x_cons ?_
                      refine ⟨_, rfl, ?_⟩
                      with_reducible refine x_cons ?_
                      refine ⟨_, rfl, ?_⟩
                      with_reducible refine x_cons ?_
                      refine ⟨_, rfl, ?_⟩
                      with_reducible refine x_cons ?_
                      with_reducible refine x_c ?_
                      have d46 : R (α := PyData) (N19) (.ref a1) (PyData.tuple [(PyData.int (r1).1), (PyData.list ((r1).2.map fun z => (PyData.list (z.map fun z => (PyData.int z)))))]) := (.tup ((((((((((((((((((((((s2.trans g2.ex).trans g3.ex).trans s4).trans ex1).trans g6.ex).trans g7.ex).trans g8.ex).trans g9.ex).trans g10.ex).trans g11.ex).trans g12.ex).trans ex2).trans ex3).trans ex4).trans s6).trans g19.ex).trans g20.ex).trans g22.ex).trans g23.ex).trans g24.ex).trans g25.ex) _ _ fa1) (.cons (.int _) (.cons (mk_lst ((((((((((((((((((((((s2.trans g2.ex).trans g3.ex).trans s4).trans ex1).trans g6.ex).trans g7.ex).trans g8.ex).trans g9.ex).trans g10.ex).trans g11.ex).trans g12.ex).trans ex2).trans ex3).trans ex4).trans s6).trans g19.ex).trans g20.ex).trans g22.ex).trans g23.ex).trans g24.ex).trans g25.ex) _ _ fa2) (Rs_mono (((((((((((((((((((((s2.trans g2.ex).trans g3.ex).trans s4).trans ex1).trans g6.ex).trans g7.ex).trans g8.ex).trans g9.ex).trans g10.ex).trans g11.ex).trans g12.ex).trans ex2).trans ex3).trans ex4).trans s6).trans g19.ex).trans g20.ex).trans g22.ex).trans g23.ex).trans g24.ex).trans g25.ex) fr1)) .nil)))
                      have d47 : R (α := PyData) (N19) (.ref a5) (PyData.list (x3.map fun z => (PyData.int z))) := (mk_lst ((((((((((ex2.trans ex3).trans ex4).trans s6).trans g19.ex).trans g20.ex).trans g22.ex).trans g23.ex).trans g24.ex).trans g25.ex) _ _ fa6) (Rs_mono (((((((((ex2.trans ex3).trans ex4).trans s6).trans g19.ex).trans g20.ex).trans g22.ex).trans g23.ex).trans g24.ex).trans g25.ex) fr8))
                      have d48 : R (α := PyData) (N19) (.int r8) (PyData.int r8) := (.int _)
                      have d49 : R (α := PyData) (N19) .non PyData.none := .non
                      obtain ⟨r20, hr20, hm⟩ := bindp hm
                      refine ⟨_, _, _, _, _, _, (2 : Int), (PyData.tuple [(PyData.int (r1).1), (PyData.list ((r1).2.map fun z => (PyData.list (z.map fun z => (PyData.int z)))))]), (PyData.list (x3.map fun z => (PyData.int z))), (PyData.int r8), PyData.none, r20, rfl, G36.sub, (.int _), (RD.mono (Sub.refl _) d46), (RD.mono (Sub.refl _) d47), (RD.mono (Sub.refl _) d48), (RD.mono (Sub.refl _) d49), hr20, fun N20 H24 v31 g26 d50  => ?_⟩
                      have G37 := G36.step g26
                      have dk46 := dk45.step g26
                      obtain rfl := bl_of d50
                      refine ⟨_, rfl, ?_⟩
                      refine ifD (fun hc => ?_) (fun hc => ?_)
                      · replace hm := itep hm hc
                        refine iteT ?_
                        with_reducible refine x_ret ?_
                        with_reducible refine x_c ?_
                        exact ret_true hm q
                      · replace hm := iten hm (bF hc)
                        with_reducible refine x_not ?_
                        with_reducible refine x_B ?_
                        with_reducible refine x_call ?_
                        with_reducible refine x_cons ?_
                        with_reducible refine x_c ?_
                        with_reducible refine x_cons ?_
                        refine ⟨_, rfl, ?_⟩
                        with_reducible refine x_cons ?_
                        with_reducible refine x_c ?_
                        with_reducible refine x_cons ?_
                        with_reducible refine x_c ?_
                        with_reducible refine x_cons ?_
                        with_reducible refine x_c ?_
                        have d51 : R (α := PyData) (N20) (.ref a1) (PyData.tuple [(PyData.int (r1).1), (PyData.list ((r1).2.map fun z => (PyData.list (z.map fun z => (PyData.int z)))))]) := (.tup (((((((((((((((((((((((s2.trans g2.ex).trans g3.ex).trans s4).trans ex1).trans g6.ex).trans g7.ex).trans g8.ex).trans g9.ex).trans g10.ex).trans g11.ex).trans g12.ex).trans ex2).trans ex3).trans ex4).trans s6).trans g19.ex).trans g20.ex).trans g22.ex).trans g23.ex).trans g24.ex).trans g25.ex).trans g26.ex) _ _ fa1) (.cons (.int _) (.cons (mk_lst (((((((((((((((((((((((s2.trans g2.ex).trans g3.ex).trans s4).trans ex1).trans g6.ex).trans g7.ex).trans g8.ex).trans g9.ex).trans g10.ex).trans g11.ex).trans g12.ex).trans ex2).trans ex3).trans ex4).trans s6).trans g19.ex).trans g20.ex).trans g22.ex).trans g23.ex).trans g24.ex).trans g25.ex).trans g26.ex) _ _ fa2) (Rs_mono ((((((((((((((((((((((s2.trans g2.ex).trans g3.ex).trans s4).trans ex1).trans g6.ex).trans g7.ex).trans g8.ex).trans g9.ex).trans g10.ex).trans g11.ex).trans g12.ex).trans ex2).trans ex3).trans ex4).trans s6).trans g19.ex).trans g20.ex).trans g22.ex).trans g23.ex).trans g24.ex).trans g25.ex).trans g26.ex) fr1)) .nil)))
                        have d52 : R (α := PyData) (N20) .non PyData.none := .non
                        have d53 : R (α := PyData) (N20) .non PyData.none := .non
                        have d54 : R (α := PyData) (N20) .non PyData.none := .non
                        obtain ⟨r21, hr21, hm⟩ := bindp hm
                        refine ⟨_, _, _, _, _, _, (1 : Int), (PyData.tuple [(PyData.int (r1).1), (PyData.list ((r1).2.map fun z => (PyData.list (z.map fun z => (PyData.int z)))))]), PyData.none, PyData.none, PyData.none, r21, rfl, G37.sub, (.int _), (RD.mono (Sub.refl _) d51), (RD.mono (Sub.refl _) d52), (RD.mono (Sub.refl _) d53), (RD.mono (Sub.refl _) d54), hr21, fun N21 H25 v32 g27 d55  => ?_⟩
                        have G38 := G37.step g27
                        have dk47 := dk46.step g27
                        obtain rfl := bl_of d55
                        refine ⟨_, rfl, ?_⟩
                        refine ifD (fun hc => ?_) (fun hc => ?_)
                        · replace hm := itep hm hc
                          with_reducible refine x_ret ?_
                          with_reducible refine x_c ?_
                          exact ret_true hm q
                        · replace hm := iten hm (bF hc)
                          with_reducible refine x_next ?_
                          rw [hnx2] at hm
                          exact ⟨N21, _, _, _, _, _, _, _, _, _, _, _, _, hm, (((((((((((((((((((((((s2.trans g2.ex).trans g3.ex).trans s4).trans ex1).trans g6.ex).trans g7.ex).trans g8.ex).trans g9.ex).trans g10.ex).trans g11.ex).trans g12.ex).trans ex2).trans ex3).trans ex4).trans s6).trans g19.ex).trans g20.ex).trans g22.ex).trans g23.ex).trans g24.ex).trans g25.ex).trans g26.ex).trans g27.ex), G38, dk47, rfl⟩
                  · replace hm := iten hm (bF hc)
                    refine iteF ?_
                    with_reducible refine x_next ?_
                    with_reducible refine x_if ?_
                    with_reducible refine x_or ?_
                    with_reducible refine x_not ?_
                    with_reducible refine x_B ?_
                    with_reducible refine x_call ?_
                    with_reducible refine x_cons ?_
                    with_reducible refine x_c ?_
                    with_reducible refine x_cons ?_
                    refine ⟨_, rfl, ?_⟩
                    with_reducible refine x_cons ?_
                    refine ⟨_, rfl, ?_⟩
                    with_reducible refine x_cons ?_
                    refine ⟨_, rfl, ?_⟩
                    with_reducible refine x_cons ?_
                    with_reducible refine x_c ?_
                    have d56 : R (α := PyData) (N18) (.ref a1) (PyData.tuple [(PyData.int (r1).1), (PyData.list ((r1).2.map fun z => (PyData.list (z.map fun z => (PyData.int z)))))]) := (.tup (((((((((((((((((((((s2.trans g2.ex).trans g3.ex).trans s4).trans ex1).trans g6.ex).trans g7.ex).trans g8.ex).trans g9.ex).trans g10.ex).trans g11.ex).trans g12.ex).trans ex2).trans ex3).trans ex4).trans s6).trans g19.ex).trans g20.ex).trans g22.ex).trans g23.ex).trans g24.ex) _ _ fa1) (.cons (.int _) (.cons (mk_lst (((((((((((((((((((((s2.trans g2.ex).trans g3.ex).trans s4).trans ex1).trans g6.ex).trans g7.ex).trans g8.ex).trans g9.ex).trans g10.ex).trans g11.ex).trans g12.ex).trans ex2).trans ex3).trans ex4).trans s6).trans g19.ex).trans g20.ex).trans g22.ex).trans g23.ex).trans g24.ex) _ _ fa2) (Rs_mono ((((((((((((((((((((s2.trans g2.ex).trans g3.ex).trans s4).trans ex1).trans g6.ex).trans g7.ex).trans g8.ex).trans g9.ex).trans g10.ex).trans g11.ex).trans g12.ex).trans ex2).trans ex3).trans ex4).trans s6).trans g19.ex).trans g20.ex).trans g22.ex).trans g23.ex).trans g24.ex) fr1)) .nil)))
                    have d57 : R (α := PyData) (N18) (.ref a5) (PyData.list (x3.map fun z => (PyData.int z))) := (mk_lst (((((((((ex2.trans ex3).trans ex4).trans s6).trans g19.ex).trans g20.ex).trans g22.ex).trans g23.ex).trans g24.ex) _ _ fa6) (Rs_mono ((((((((ex2.trans ex3).trans ex4).trans s6).trans g19.ex).trans g20.ex).trans g22.ex).trans g23.ex).trans g24.ex) fr8))
                    have d58 : R (α := PyData) (N18) (.int r8) (PyData.int r8) := (.int _)
                    have d59 : R (α := PyData) (N18) .non PyData.none := .non
                    obtain ⟨r22, hr22, hm⟩ := bindp hm
                    refine ⟨_, _, _, _, _, _, (2 : Int), (PyData.tuple [(PyData.int (r1).1), (PyData.list ((r1).2.map fun z => (PyData.list (z.map fun z => (PyData.int z)))))]), (PyData.list (x3.map fun z => (PyData.int z))), (PyData.int r8), PyData.none, r22, rfl, G35.sub, (.int _), (RD.mono (Sub.refl _) d56), (RD.mono (Sub.refl _) d57), (RD.mono (Sub.refl _) d58), (RD.mono (Sub.refl _) d59), hr22, fun N22 H26 v33 g28 d60  => ?_⟩
                    have G39 := G35.step g28
                    have dk48 := dk44.step g28
                    obtain rfl := bl_of d60
                    refine ⟨_, rfl, ?_⟩
                    refine ifD (fun hc => ?_) (fun hc => ?_)
                    · replace hm := itep hm hc
                      refine iteT ?_
                      with_reducible refine x_ret ?_
                      with_reducible refine x_c ?_
                      exact ret_true hm q
                    · replace hm := iten hm (bF hc)
                      with_reducible refine x_not ?_
                      with_reducible refine x_B ?_
                      with_reducible refine x_call ?_
                      with_reducible refine x_cons ?_
                      with_reducible refine x_c ?_
                      with_reducible refine x_cons ?_
                      refine ⟨_, rfl, ?_⟩
                      with_reducible refine x_cons ?_
                      with_reducible refine x_c ?_
                      with_reducible refine x_cons ?_
                      with_reducible refine x_c ?_
                      with_reducible refine x_cons ?_
                      with_reducible refine x_c ?_
                      have d61 : R (α := PyData) (N22) (.ref a1) (PyData.tuple [(PyData.int (r1).1), (PyData.list ((r1).2.map fun z => (PyData.list (z.map fun z => (PyData.int z)))))]) := (.tup ((((((((((((((((((((((s2.trans g2.ex).trans g3.ex).trans s4).trans ex1).trans g6.ex).trans g7.ex).trans g8.ex).trans g9.ex).trans g10.ex).trans g11.ex).trans g12.ex).trans ex2).trans ex3).trans ex4).trans s6).trans g19.ex).trans g20.ex).trans g22.ex).trans g23.ex).trans g24.ex).trans g28.ex) _ _ fa1) (.cons (.int _) (.cons (mk_lst ((((((((((((((((((((((s2.trans g2.ex).trans g3.ex).trans s4).trans ex1).trans g6.ex).trans g7.ex).trans g8.ex).trans g9.ex).trans g10.ex).trans g11.ex).trans g12.ex).trans ex2).trans ex3).trans ex4).trans s6).trans g19.ex).trans g20.ex).trans g22.ex).trans g23.ex).trans g24.ex).trans g28.ex) _ _ fa2) (Rs_mono (((((((((((((((((((((s2.trans g2.ex).trans g3.ex).trans s4).trans ex1).trans g6.ex).trans g7.ex).trans g8.ex).trans g9.ex).trans g10.ex).trans g11.ex).trans g12.ex).trans ex2).trans ex3).trans ex4).trans s6).trans g19.ex).trans g20.ex).trans g22.ex).trans g23.ex).trans g24.ex).trans g28.ex) fr1)) .nil)))
                      have d62 : R (α := PyData) (N22) .non PyData.none := .non
                      have d63 : R (α := PyData) (N22) .non PyData.none := .non
                      have d64 : R (α := PyData) (N22) .non PyData.none := .non
                      obtain ⟨r23, hr23, hm⟩ := bindp hm
                      refine ⟨_, _, _, _, _, _, (1 : Int), (PyData.tuple [(PyData.int (r1).1), (PyData.list ((r1).2.map fun z => (PyData.list (z.map fun z => (PyData.int z)))))]), PyData.none, PyData.none, PyData.none, r23, rfl, G39.sub, (.int _), (RD.mono (Sub.refl _) d61), (RD.mono (Sub.refl _) d62), (RD.mono (Sub.refl _) d63), (RD.mono (Sub.refl _) d64), hr23, fun N23 H27 v34 g29 d65  => ?_⟩
                      have G40 := G39.step g29
                      have dk49 := dk48.step g29
                      obtain rfl := bl_of d65
                      refine ⟨_, rfl, ?_⟩
                      refine ifD (fun hc => ?_) (fun hc => ?_)
                      · replace hm := itep hm hc
                        with_reducible refine x_ret ?_
                        with_reducible refine x_c ?_
                        exact ret_true hm q
                      · replace hm := iten hm (bF hc)
                        with_reducible refine x_next ?_
                        rw [hnx2] at hm
                        exact ⟨N23, _, _, _, _, _, _, _, _, _, _, _, _, hm, ((((((((((((((((((((((s2.trans g2.ex).trans g3.ex).trans s4).trans ex1).trans g6.ex).trans g7.ex).trans g8.ex).trans g9.ex).trans g10.ex).trans g11.ex).trans g12.ex).trans ex2).trans ex3).trans ex4).trans s6).trans g19.ex).trans g20.ex).trans g22.ex).trans g23.ex).trans g24.ex).trans g28.ex).trans g29.ex), G40, dk49, rfl⟩
    · skip
      obtain ⟨F2, st3, y16, y17, y18, y19, y20, y21, y22, y23, y24, y25, y26, hm, s7, G41, dk50, rfl⟩ := hW
      have hm : (law_e4 next1) st3 = some true := forK_n hm
      rw [law_e4] at hm
      rw [hnx1] at hm
      exact ⟨F2, _, _, _, _, _, _, _, _, _, _, _, _, _, _, _, _, hm, ((s1.trans g1.ex).trans s7), G41, dk50, rfl⟩
  · skip
    obtain ⟨F1, st1, y1, y2, y3, y4, y5, y6, y7, y8, y9, y10, y11, y12, y13, y14, y15, hm, s8, G42, dk51, rfl⟩ := hW
    have hm : (law_e2) st1 = some true := forK_n hm
    rw [law_e2] at hm
    with_reducible refine x_ret ?_
    with_reducible refine x_c ?_
    exact ret_true hm q

end

/-! ### mathematics, with no program in sight -/
section
/-- an answer is there, and it is so -/
def Ok {α : Type} (o : Option α) (Q : α → Prop) : Prop := ∃ x, o = some x ∧ Q x
variable {α β S ρ : Type} {Q : ρ → Prop}
theorem Ok.mk {x : α} {Q : α → Prop} (h : Q x) : Ok (some x) Q := ⟨x, rfl, h⟩
theorem Ok.bind {o : Option α} {f : α → Option ρ} {P : α → Prop} (h : Ok o P) (k : ∀ x, P x → Ok (f x) Q) : Ok (o.bind f) Q := by
  obtain ⟨x, rfl, p⟩ := h
  exact k x p
theorem Ok.mono {o : Option ρ} {P : ρ → Prop} (h : Ok o P) (k : ∀ x, P x → Q x) : Ok o Q := by
  obtain ⟨x, e, p⟩ := h
  exact ⟨x, e, k x p⟩
theorem Ok.guard {c : Prop} [Decidable c] {a : Option ρ} (hc : c) (h : Ok a Q) : Ok (if c then a else none) Q := by rw [if_pos hc]; exact h
theorem Ok.ite {c : Prop} [Decidable c] {a b : Option ρ} (h1 : c → Ok a Q) (h2 : ¬ c → Ok b Q) : Ok (if c then a else b) Q := by
  by_cases h : c
  · rw [if_pos h]; exact h1 h
  · rw [if_neg h]; exact h2 h
theorem Ok.eq {o : Option ρ} {x : ρ} (h : Ok o (· = x)) : o = some x := by
  obtain ⟨y, e, rfl⟩ := h
  exact e
theorem Ok.of {o : Option ρ} {x : ρ} (h : o = some x) (q : Q x) : Ok o Q := ⟨x, h, q⟩
theorem forK_ok {f : S → α → (S → Option ρ) → Option ρ} {K : S → Option ρ} {P : S → Prop} : ∀ {xs : List α} {s : S}, P s →
    (∀ s x next, x ∈ xs → P s → (∀ s', P s' → Ok (next s') Q) → Ok (f s x next) Q) → (∀ s, P s → Ok (K s) Q) → Ok (forK f xs s K) Q
  | [], s, h0, _, hK => hK s h0
  | x :: xs, s, h0, hs, hK => hs s x _ List.mem_cons_self h0 fun s' h' => forK_ok h' (fun s y next hy => hs s y next (List.mem_cons_of_mem _ hy)) hK
/-- with what has been gone through -/
theorem forK_okI {f : S → α → (S → Option ρ) → Option ρ} {K : S → Option ρ} {P : List α → S → Prop} {xs : List α} {s : S} (h0 : P [] s)
    (hs : ∀ pre x post s next, xs = pre ++ x :: post → P pre s → (∀ s', P (pre ++ [x]) s' → Ok (next s') Q) → Ok (f s x next) Q) (hK : ∀ s, P xs s → Ok (K s) Q) : Ok (forK f xs s K) Q := by
  have all : ∀ (post pre : List α) (s : S), xs = pre ++ post → P pre s → Ok (forK f post s K) Q := by
    intro post
    induction post with
    | nil => intro pre s e h; rw [List.append_nil] at e; subst e; exact hK s h
    | cons x post ih =>
      intro pre s e h
      exact hs pre x post s _ e h fun s' h' => ih (pre ++ [x]) s' (by rw [e, List.append_assoc]; rfl) h'
  exact all xs [] s rfl h0
theorem whileK_ok {f : S → (S → Option ρ) → Option ρ} {P : S → Prop} (μ : S → Nat) (h : ∀ s next, P s → (∀ s', P s' → μ s' < μ s → Ok (next s') Q) → Ok (f s next) Q) :
    ∀ (m : Nat) (s : S), P s → μ s < m → Ok (whileK f m s) Q
  | 0, _, _, hm => absurd hm (Nat.not_lt_zero _)
  | m + 1, s, hp, hm => h s _ hp fun s' hp' hl => whileK_ok μ h m s' hp' (Nat.lt_of_lt_of_le hl (Nat.le_of_lt_succ hm))
/-- a loop that leaves early or goes on -/
theorem forK_stop {f : S → α → (S → Option ρ) → Option ρ} {K : S → Option ρ} {p : α → Bool} {c : Option ρ} {s : S} (h : ∀ x next, f s x next = if p x = true then c else next s) : ∀ xs : List α, forK f xs s K = if xs.any p = true then c else K s
  | [] => rfl
  | x :: xs => by
    show f s x _ = _
    rw [h, forK_stop h xs, List.any_cons]
    cases p x <;> simp
theorem forK_fold {f : S → α → (S → Option ρ) → Option ρ} {K : S → Option ρ} {g : S → α → S} (h : ∀ s x next, f s x next = next (g s x)) : ∀ (xs : List α) (s : S), forK f xs s K = K (xs.foldl g s)
  | [], _ => rfl
  | x :: xs, s => by
    show f s x _ = _
    rw [h]; exact forK_fold h xs _
/-- a comprehension whose element and test are total -/
theorem forK_fm {f : List β → α → (List β → Option ρ) → Option ρ} {K : List β → Option ρ} {p : α → Bool} {g : α → β} {B : Nat} (h : ∀ acc x next, acc.length < B → f acc x next = if p x = true then next (acc ++ [g x]) else next acc) :
    ∀ (xs : List α) (acc : List β), acc.length + xs.length ≤ B → forK f xs acc K = K (acc ++ (xs.filter p).map g)
  | [], acc, _ => by rw [List.filter_nil, List.map_nil, List.append_nil]; rfl
  | x :: xs, acc, hB => by
    rw [List.length_cons] at hB
    show f acc x _ = _
    rw [h acc x _ (by omega), List.filter_cons]
    cases hp : p x with
    | true =>
      rw [if_pos rfl, if_pos rfl, List.map_cons]
      have := forK_fm (K := K) h xs (acc ++ [g x]) (by rw [List.length_append, List.length_singleton]; omega)
      rw [List.append_assoc] at this
      exact this
    | false =>
      rw [if_neg Bool.false_ne_true, if_neg Bool.false_ne_true]
      exact forK_fm h xs acc (by omega)
end
theorem irange_mem {lo hi x : Int} : x ∈ irange lo hi ↔ lo ≤ x ∧ x < hi := by
  unfold irange
  rw [List.mem_map]
  constructor
  · rintro ⟨i, hi', rfl⟩
    rw [List.mem_range] at hi'
    omega
  · intro h
    exact ⟨(x - lo).toNat, by rw [List.mem_range]; omega, by omega⟩
theorem sz_ok {n : Nat} (h : n < 100000) : n < 16777216 := by omega
theorem Mv_of {i j : Int} {a b : Nat} (ha : i.natAbs < 2 ^ a) (hb : j.natAbs < 2 ^ b) (h0 : 0 < a) (h1 : 0 < b) (h : a + b ≤ 1000000) : Mv i j := wide_mul ha hb h0 h1 h
theorem Dv_small {j : Int} (h : 0 < j) (h2 : j < 2 ^ 64) : Dv j := (wide_div (i := 0) (b := 64) h (by omega) (by decide) (by decide) : CDivW 0 j)
theorem Dv_of {j : Int} {b : Nat} (h : 0 < j) (h2 : j.natAbs < 2 ^ b) (h0 : 0 < b) (h9 : b ≤ 9000) : Dv j := (wide_div (i := 0) h h2 h0 h9 : CDivW 0 j)

/-! #### draws -/
def DkOk (st : DkS) : Prop := st.1 ≠ []
theorem mkDeck_ok (ns : List Int) : DkOk (mkDeck ns) := by
  unfold DkOk mkDeck
  have h : 1 ≤ deckLen ns := by unfold deckLen; omega
  intro e
  have := congrArg List.length e
  simp at this
  omega
theorem draw_ok {st : DkS} {many : Int} (h : DkOk st) (h0 : 0 < many) (h1 : many < 2 ^ 64) : Ok (_law_draw st many) fun p => (0 ≤ p.1 ∧ p.1 < many) ∧ DkOk p.2 := by
  unfold _law_draw
  refine Ok.guard (Dv_small h0 h1) ?_
  have hl : 0 < st.1.length := List.length_pos_iff.mpr h
  have e1 := Int.emod_nonneg st.2 (show (st.1.length : Int) ≠ 0 by omega)
  have e2 := Int.emod_lt_of_pos st.2 (show (0 : Int) < (st.1.length : Int) by omega)
  have hi : (st.2 % (st.1.length : Int)).toNat < st.1.length := by omega
  rw [List.getElem?_eq_getElem hi]
  show Ok (if _ then _ else _) _
  have ok2 : ∀ p : Int × Int × Int, DkOk (st.1.set (st.2 % (st.1.length : Int)).toNat p, st.2 + 1) := fun p e => by
    have := congrArg List.length e
    simp only [List.length_set, List.length_nil] at this
    omega
  refine Ok.ite (fun _ => ?_) (fun _ => ?_)
  · exact Ok.mk ⟨⟨Int.emod_nonneg _ (by omega), Int.emod_lt_of_pos _ h0⟩, ok2 _⟩
  · exact Ok.mk ⟨⟨Int.emod_nonneg _ (by omega), Int.emod_lt_of_pos _ h0⟩, ok2 _⟩

/-! #### figures of numbers -/
/-- how many binary places -/
def lg (n : Int) : Nat := if n ≤ 0 then 0 else Nat.log2 n.toNat + 1
theorem lg_le {n : Int} {k : Nat} (h : n < 2 ^ k) : lg n ≤ k := by
  unfold lg
  by_cases h0 : n ≤ 0
  · rw [if_pos h0]; exact Nat.zero_le _
  · rw [if_neg h0]
    have h1 : n.toNat < 2 ^ k := by
      have : ((2 ^ k : Nat) : Int) = 2 ^ k := by push_cast; rfl
      omega
    have := (Nat.log2_lt (n := n.toNat) (k := k) (by omega)).mpr h1
    omega
theorem lt_lg (n : Int) : n < 2 ^ lg n := by
  unfold lg
  by_cases h0 : n ≤ 0
  · rw [if_pos h0]; show n < 1; omega
  · rw [if_neg h0]
    have h1 := Nat.lt_log2_self (n := n.toNat)
    have : ((2 ^ (Nat.log2 n.toNat + 1) : Nat) : Int) = 2 ^ (Nat.log2 n.toNat + 1) := by push_cast; rfl
    omega
theorem lg_div {n b : Int} (hn : 0 < n) (hb : 2 ≤ b) : lg (n / b) < lg n := by
  have h1 := lt_lg n
  have hk : 0 < lg n := by unfold lg; rw [if_neg (by omega)]; omega
  obtain ⟨k, e⟩ : ∃ k, lg n = k + 1 := ⟨lg n - 1, by omega⟩
  rw [e] at h1 ⊢
  have h2 : n / b < 2 ^ k := by
    refine Int.ediv_lt_of_lt_mul (by omega) ?_
    have p : (0 : Int) ≤ 2 ^ k := Int.le_of_lt (Int.pow_pos (by decide))
    have := Int.mul_le_mul_of_nonneg_left hb p
    rw [Int.pow_succ] at h1
    omega
  have := lg_le h2
  omega

theorem ediv_lt_self {b n : Int} (hb : 2 ≤ b) (hn : 0 < n) : n / b < n := by
  refine Int.ediv_lt_of_lt_mul (by omega) ?_
  have := Int.mul_le_mul_of_nonneg_left hb (show 0 ≤ n by omega)
  omega
def digs (b n : Int) : List Int := if h : b < 2 ∨ n < b then [n] else digs b (n / b) ++ [n % b]
termination_by n.toNat
decreasing_by
  have h1 := ediv_lt_self (b := b) (n := n) (by omega) (by omega)
  have h2 : 0 ≤ n / b := Int.ediv_nonneg (by omega) (by omega)
  omega
theorem digs_lt {b n : Int} (h : n < b) : digs b n = [n] := by rw [digs, dif_pos (.inr h)]
theorem digs_ge {b n : Int} (hb : 2 ≤ b) (h : b ≤ n) : digs b n = digs b (n / b) ++ [n % b] := by rw [digs, dif_neg (by omega)]
theorem digs_step {b n : Int} (hb : 2 ≤ b) (hn : 0 ≤ n) : digs b n = (if 0 < n / b then digs b (n / b) else []) ++ [n % b] := by
  by_cases h : n < b
  · rw [digs_lt h, Int.ediv_eq_zero_of_lt hn h, Int.emod_eq_of_lt hn h]; rfl
  · have : 1 ≤ n / b := Int.le_ediv_of_mul_le (by omega) (by omega)
    rw [digs_ge hb (by omega), if_pos (show 0 < n / b by omega)]
/-- so many figures of n -/
def dp (b : Int) : Nat → Int → List Int
  | 0, _ => []
  | j + 1, n => (n / b ^ j) :: dp b j (n % b ^ j)
theorem emod_mul_ediv {n b c : Int} (hb : 0 < b) (hc : 0 < c) : (n % (b * c)) / b = (n / b) % c := by
  have h1 := Int.emod_add_mul_ediv n b
  have h2 := Int.emod_add_mul_ediv (n / b) c
  have r1 := Int.emod_nonneg n (show b ≠ 0 by omega)
  have r2 := Int.emod_lt_of_pos n hb
  have r3 := Int.emod_nonneg (n / b) (show c ≠ 0 by omega)
  have r4 := Int.emod_lt_of_pos (n / b) hc
  have e : n % (b * c) = n % b + b * ((n / b) % c) := by
    have := (Int.ediv_emod_unique (a := n) (b := b * c) (r := n % b + b * ((n / b) % c)) (q := n / b / c) (Int.mul_pos hb hc)).mpr ⟨by
      rw [Int.mul_assoc, Int.add_assoc, ← Int.mul_add, h2, h1], by
      have := Int.mul_nonneg (show (0 : Int) ≤ b by omega) r3
      omega, by
      have q1 : b * ((n / b) % c) ≤ b * (c - 1) := Int.mul_le_mul_of_nonneg_left (by omega) (by omega)
      rw [Int.mul_sub, Int.mul_one] at q1
      omega⟩
    exact this.2
  rw [e, Int.add_mul_ediv_left _ _ (by omega), Int.ediv_eq_zero_of_lt r1 r2, Int.zero_add]
theorem dp_snoc {b : Int} (hb : 0 < b) : ∀ (j : Nat) (n : Int), 0 ≤ n → n < b ^ (j + 1) → dp b (j + 1) n = dp b j (n / b) ++ [n % b]
  | 0, n, h0, h => by
    rw [Int.pow_succ, Int.pow_zero, Int.one_mul] at h
    show [n / b ^ 0] = [] ++ [n % b]
    rw [Int.pow_zero, Int.ediv_one, Int.emod_eq_of_lt h0 h]; rfl
  | j + 1, n, h0, h => by
    have hp : 0 < b ^ (j + 1) := Int.pow_pos hb
    show (n / b ^ (j + 1)) :: dp b (j + 1) (n % b ^ (j + 1)) = (n / b / b ^ j) :: dp b j (n / b % b ^ j) ++ [n % b]
    rw [dp_snoc hb j _ (Int.emod_nonneg _ (by omega)) (Int.emod_lt_of_pos _ hp), Int.pow_succ, Int.mul_comm (b ^ j) b, emod_mul_ediv hb (Int.pow_pos hb), Int.emod_emod_of_dvd n (Int.dvd_mul_right b (b ^ j)), Int.ediv_ediv_of_nonneg (by omega)]
    rfl
theorem dp_digs {b : Int} (hb : 2 ≤ b) : ∀ (j : Nat) (n : Int), 0 ≤ n → n < b ^ (j + 1) → (b ^ j ≤ n ∨ j = 0) → digs b n = dp b (j + 1) n
  | 0, n, h0, h, _ => by
    rw [Int.pow_succ, Int.pow_zero, Int.one_mul] at h
    rw [digs_lt h]
    show [n] = [n / b ^ 0]
    rw [Int.pow_zero, Int.ediv_one]
  | j + 1, n, h0, h, h1 => by
    have h2 : b ^ (j + 1) ≤ n := by rcases h1 with h | h; exact h; cases h
    have hbj : 0 < b ^ j := Int.pow_pos (by omega)
    have h3 : b ≤ n := by
      rw [Int.pow_succ] at h2
      have := Int.mul_le_mul_of_nonneg_right (show 1 ≤ b ^ j by omega) (show 0 ≤ b by omega)
      omega
    rw [digs_ge hb h3, dp_snoc (by omega) _ n h0 h, dp_digs hb j (n / b) (Int.ediv_nonneg h0 (by omega)) (Int.ediv_lt_of_lt_mul (by omega) (by rw [← Int.pow_succ]; exact h)) (.inl (Int.le_ediv_of_mul_le (by omega) (by rw [← Int.pow_succ]; exact h2)))]
theorem natAbs_lt {n : Int} {k : Nat} (h0 : 0 ≤ n) (h : n < 2 ^ k) : n.natAbs < 2 ^ k := by
  have : ((2 ^ k : Nat) : Int) = 2 ^ k := by push_cast; rfl
  omega
theorem pow_mono {b : Int} (hb : 1 ≤ b) {i j : Nat} (h : i ≤ j) : b ^ i ≤ b ^ j := by
  obtain ⟨k, rfl⟩ : ∃ k, j = i + k := ⟨j - i, by omega⟩
  induction k with
  | zero => exact Int.le_refl _
  | succ k ih =>
    have h1 := ih (by omega)
    have h2 : 0 < b ^ (i + k) := Int.pow_pos (by omega)
    rw [← Nat.add_assoc, Int.pow_succ]
    have := Int.mul_le_mul_of_nonneg_left hb (show 0 ≤ b ^ (i + k) by omega)
    omega
theorem one_lt_p {k : Nat} (h : k ≠ 0) : (1 : Int) < 2 ^ k := by
  have := Nat.one_lt_two_pow h
  have e : ((2 ^ k : Nat) : Int) = 2 ^ k := by push_cast; rfl
  omega
/-! #### parts of MathFig, MathRule, MathLacks that need no typed mirror -/
/-! #### lists of figures -/
def Figs (b : Int) (ds : List Int) : Prop := ∀ d ∈ ds, 0 ≤ d ∧ d < b
theorem Figs.nil {b : Int} : Figs b [] := fun d h => nomatch h
theorem Figs.app {b : Int} {x y : List Int} (h : Figs b x) (k : Figs b y) : Figs b (x ++ y) := fun d hd => (List.mem_append.mp hd).elim (h d) (k d)
theorem Figs.one {b d : Int} (h : 0 ≤ d ∧ d < b) : Figs b [d] := fun x hx => by rw [List.mem_singleton.mp hx]; exact h
theorem Figs.left {b : Int} {x y : List Int} (h : Figs b (x ++ y)) : Figs b x := fun d hd => h d (List.mem_append_left _ hd)
theorem Figs.right {b : Int} {x y : List Int} (h : Figs b (x ++ y)) : Figs b y := fun d hd => h d (List.mem_append_right _ hd)
/-- the number of a list of figures -/
def val (b : Int) (ds : List Int) : Int := ds.foldl (fun a d => a * b + d) 0
theorem val_snoc (b : Int) (ds : List Int) (d : Int) : val b (ds ++ [d]) = val b ds * b + d := by unfold val; rw [List.foldl_append]; rfl
theorem val_rev_bound {b : Int} (hb : 0 < b) : ∀ rs : List Int, Figs b rs → 0 ≤ val b rs.reverse ∧ val b rs.reverse < b ^ rs.length
  | [], _ => ⟨Int.le_refl _, by show (0 : Int) < b ^ 0; rw [Int.pow_zero]; decide⟩
  | d :: rs, h => by
    obtain ⟨i1, i2⟩ := val_rev_bound hb rs fun x hx => h x (List.mem_cons_of_mem _ hx)
    obtain ⟨d1, d2⟩ := h d List.mem_cons_self
    rw [List.reverse_cons, val_snoc, List.length_cons, Int.pow_succ]
    have m1 := Int.mul_nonneg i1 (Int.le_of_lt hb)
    have m2 := Int.mul_le_mul_of_nonneg_right (show val b rs.reverse ≤ b ^ rs.length - 1 by omega) (Int.le_of_lt hb)
    rw [Int.sub_mul, Int.one_mul] at m2
    omega
theorem Figs.rev {b : Int} {ds : List Int} (h : Figs b ds) : Figs b ds.reverse := fun x hx => h x (List.mem_reverse.mp hx)
theorem val_bound {b : Int} (hb : 0 < b) {ds : List Int} (h : Figs b ds) : 0 ≤ val b ds ∧ val b ds < b ^ ds.length := by
  have := val_rev_bound hb ds.reverse h.rev
  rw [List.reverse_reverse, List.length_reverse] at this
  exact this
theorem val_cons_rev (b d : Int) : ∀ rs : List Int, val b (d :: rs.reverse) = d * b ^ rs.length + val b rs.reverse
  | [] => by
    show 0 * b + d = d * b ^ 0 + 0
    rw [Int.pow_zero, Int.zero_mul, Int.mul_one, Int.zero_add, Int.add_zero]
  | e :: rs => by
    rw [List.reverse_cons, ← List.cons_append, val_snoc, val_cons_rev b d rs, val_snoc, List.length_cons, Int.pow_succ, Int.add_mul, Int.mul_assoc, Int.add_assoc]
theorem val_cons (b d : Int) (ds : List Int) : val b (d :: ds) = d * b ^ ds.length + val b ds := by
  have := val_cons_rev b d ds.reverse
  rw [List.reverse_reverse, List.length_reverse] at this
  exact this
theorem pow16 {b : Int} (h0 : 0 ≤ b) (h : b ≤ 16) : ∀ n : Nat, b ^ n ≤ 2 ^ (4 * n)
  | 0 => by rw [Int.pow_zero, Nat.mul_zero, Int.pow_zero]; exact Int.le_refl _
  | n + 1 => by
    have i := pow16 h0 h n
    have p : (0 : Int) ≤ 2 ^ (4 * n) := Int.le_of_lt (Int.pow_pos (by decide))
    rw [Int.pow_succ, show 4 * (n + 1) = 4 * n + 4 from rfl, Int.pow_add]
    exact Int.mul_le_mul i (by omega) h0 p
theorem pow2_le {b : Int} (h : 2 ≤ b) : ∀ n : Nat, (2 : Int) ^ n ≤ b ^ n
  | 0 => by rw [Int.pow_zero, Int.pow_zero]; exact Int.le_refl _
  | n + 1 => by
    rw [Int.pow_succ, Int.pow_succ]
    exact Int.mul_le_mul (pow2_le h n) h (by decide) (Int.le_of_lt (Int.pow_pos (by omega)))
theorem val_lt {b : Int} (hb : 2 ≤ b) (h2 : b ≤ 16) {ds : List Int} (h : Figs b ds) {n : Nat} (hl : ds.length ≤ n) : (val b ds).natAbs < 2 ^ (4 * n + 1) := by
  obtain ⟨v1, v2⟩ := val_bound (by omega) h
  have := pow16 (by omega) h2 ds.length
  refine natAbs_lt v1 ?_
  have p1 : (2 : Int) ^ (4 * ds.length) ≤ 2 ^ (4 * n + 1) := pow_mono (by decide) (by omega)
  omega
theorem atI0 {α : Type} (x : α) (xs : List α) : atI (x :: xs) 0 = some x := by
  unfold atI ixN
  rw [if_pos (by decide), if_pos (by rw [List.length_cons]; omega)]
  rfl
theorem ixN_lt {n : Nat} {i : Int} (h0 : 0 ≤ i) (h : i < n) : ixN n i = some i.toNat := by
  unfold ixN
  rw [if_pos h0, if_pos h]
theorem atI_lt {α : Type} {xs : List α} {i : Int} (h0 : 0 ≤ i) (h : i < xs.length) : ∃ x, atI xs i = some x ∧ xs[i.toNat]? = some x ∧ x ∈ xs := by
  have hl : i.toNat < xs.length := by omega
  refine ⟨xs[i.toNat], ?_, List.getElem?_eq_getElem hl, List.getElem_mem hl⟩
  unfold atI
  rw [ixN_lt h0 h, Option.bind_some, List.getElem?_eq_getElem hl]
/-- figures of a number: no 0 ahead -/
def Num (b : Int) (ds : List Int) : Prop := ∃ d t, ds = d :: t ∧ (t = [] ∨ d ≠ 0) ∧ Figs b ds

theorem toks_inj : ∀ xs ys : List Int, PySem.W.keyToksAll (xs.map fun n => PyData.int n) = PySem.W.keyToksAll (ys.map fun n => PyData.int n) → xs = ys
  | [], [], _ => rfl
  | [], y :: ys, h => by
    rw [List.map_nil, List.map_cons, PySem.W.keyToksAll, PySem.W.keyToksAll] at h
    exact absurd (Sum.inl.inj (List.cons.inj h).1) (by decide)
  | x :: xs, [], h => by
    rw [List.map_nil, List.map_cons, PySem.W.keyToksAll, PySem.W.keyToksAll] at h
    exact absurd (Sum.inl.inj (List.cons.inj h).1) (by decide)
  | x :: xs, y :: ys, h => by
    rw [List.map_cons, List.map_cons, PySem.W.keyToksAll, PySem.W.keyToksAll, PySem.W.keyToks, PySem.W.keyToks] at h
    have h1 := (List.cons.inj h).2
    have h2 := List.cons.inj h1
    have e : x = y := Sum.inl.inj h2.1
    rw [e, toks_inj xs ys h2.2]
theorem ltT_tot {x y : List Int} (h1 : ltT x y = false) (h2 : ltT y x = false) : x = y := toks_inj x y (PyProof.Rows.lex_total _ _ h1 h2)
theorem ltT_irr (x : List Int) : ltT x x = false := PyProof.Rows.lex_irrefl _
theorem ltT_trans {x y z : List Int} (h1 : ltT x y = true) (h2 : ltT y z = true) : ltT x z = true := PyProof.Rows.lex_trans _ _ _ h1 h2
theorem sortT_perm {α : Type} [TD α] (xs : List α) : (sortT xs).Perm xs := List.mergeSort_perm _ _
theorem sortT_mem {α : Type} [TD α] {xs : List α} {x : α} : x ∈ sortT xs ↔ x ∈ xs := (sortT_perm xs).mem_iff
theorem sortT_le (xs : List (List Int)) : (sortT xs).Pairwise fun a b => (!ltT b a) = true := by
  have := PySem.W.sort_pairwise (le := PySem.W.dataLe false (TD.d (α := List Int))) (PySem.W.sortLe_total _ _ _) xs
  exact this
theorem sortT_lt {xs : List (List Int)} (h : xs.Nodup) : (sortT xs).Pairwise fun a b => ltT a b = true := by
  have nd : (sortT xs).Pairwise fun a b => a ≠ b := (sortT_perm xs).nodup_iff.mpr h
  have := List.pairwise_and_iff.mpr ⟨sortT_le xs, nd⟩
  refine this.imp fun {a b} ⟨h1, h2⟩ => ?_
  rw [Bool.not_eq_true'] at h1
  cases h3 : ltT a b with
  | true => rfl
  | false => exact absurd (ltT_tot h3 h1) h2
/-! #### rules -/
structure GoodRule (rule : Int × List (List Int)) : Prop where
  lo : 2 ≤ rule.1
  hi : rule.1 ≤ 16
  few : rule.2.length ≤ 4
  figs : ∀ s ∈ rule.2, Figs rule.1 s ∧ 1 ≤ s.length ∧ s.length ≤ 4
  sorted : rule.2.Pairwise fun a b => ltT a b = true
theorem atI_get {α : Type} {xs : List α} {i : Int} {k : Nat} (e : i = k) (h : k < xs.length) : atI xs i = some xs[k] := by
  subst e
  unfold atI
  rw [ixN_lt (by omega) (by omega), Option.bind_some, Int.toNat_natCast, List.getElem?_eq_getElem h]
/-- a comprehension, with where the element is from -/
theorem forK_fmM {α β ρ : Type} {f : List β → α → (List β → Option ρ) → Option ρ} {K : List β → Option ρ} {p : α → Bool} {g : α → β} {B : Nat} :
    ∀ (xs : List α) (acc : List β), (∀ acc x next, x ∈ xs → acc.length < B → f acc x next = if p x = true then next (acc ++ [g x]) else next acc) → acc.length + xs.length ≤ B → forK f xs acc K = K (acc ++ (xs.filter p).map g)
  | [], acc, _, _ => by rw [List.filter_nil, List.map_nil, List.append_nil]; rfl
  | x :: xs, acc, h, hB => by
    rw [List.length_cons] at hB
    show f acc x _ = _
    have h' : ∀ acc y next, y ∈ xs → acc.length < B → f acc y next = if p y = true then next (acc ++ [g y]) else next acc := fun acc y next hy => h acc y next (List.mem_cons_of_mem _ hy)
    rw [h acc x _ List.mem_cons_self (by omega), List.filter_cons]
    cases hp : p x with
    | true =>
      rw [if_pos rfl, if_pos rfl, List.map_cons]
      have := forK_fmM (K := K) xs (acc ++ [g x]) h' (by rw [List.length_append, List.length_singleton]; omega)
      rw [List.append_assoc] at this
      exact this
    | false =>
      rw [if_neg Bool.false_ne_true, if_neg Bool.false_ne_true]
      exact forK_fmM xs acc h' (by omega)
theorem filter_nil_iff {α : Type} [TD α] [TE' α] {xs : List α} {p : α → Bool} : eqT (xs.filter p) [] = true ↔ ∀ x ∈ xs, ¬ p x = true := by
  rw [eqT_iff, List.filter_eq_nil_iff]
open Classical in
/-- a stretch stands in figures -/
noncomputable def stB (s ds : List Int) : Bool := decide (s <:+: ds)
theorem stB_iff {s ds : List Int} : stB s ds = true ↔ s <:+: ds := by unfold stB; exact decide_eq_true_iff
theorem cut_mid {α : Type} {xs : List α} {i j : Int} {k n : Nat} (hi : i = k) (hj : j = k + n) (h : k + n ≤ xs.length) : cutT xs (some i) (some j) = (xs.drop k).take n := by
  subst hi hj
  unfold cutT HT.sIx
  dsimp only
  rw [if_neg (by omega), if_neg (by omega), Int.toNat_natCast, show ((k : Int) + n).toNat = k + n from by omega, Nat.min_eq_left h, Nat.min_eq_left (show k ≤ xs.length by omega), Nat.add_sub_cancel_left]
theorem infix_at {s ds : List Int} : s <:+: ds ↔ ∃ k, k + s.length ≤ ds.length ∧ (ds.drop k).take s.length = s := by
  constructor
  · rintro ⟨l, r, rfl⟩
    refine ⟨l.length, by rw [List.length_append, List.length_append]; omega, ?_⟩
    rw [List.append_assoc, List.drop_left, List.take_left]
  · rintro ⟨k, _, e⟩
    refine ⟨ds.take k, (ds.drop k).drop s.length, ?_⟩
    rw [List.append_assoc]
    conv => lhs; arg 2; arg 1; rw [← e]
    rw [List.take_append_drop, List.take_append_drop]
theorem stands_in_eq {s ds : List Int} (h4 : s.length ≤ 1000) (hl : ds.length < 1000000) : stands_in s ds = some (stB s ds) := by
  unfold stands_in
  refine Ok.eq (Ok.guard ⟨by omega, by omega⟩ ?_)
  rw [forK_fmM (p := fun t => eqT (cutT ds (some t) (some (t + (s.length : Int)))) s) (g := fun x => x) (B := 16777216) _ _ (fun acc x next _ hl => by rw [stands_in_c1, if_pos hl]) (by rw [List.length_nil, irange_len]; omega)]
  rw [stands_in_k2, List.map_id', List.nil_append]
  refine Ok.mk ?_
  apply Bool.eq_iff_iff.mpr
  rw [Bool.not_eq_true', ← Bool.not_eq_true, filter_nil_iff, stB_iff, infix_at]
  constructor
  · intro h
    apply Classical.byContradiction
    intro hn
    refine h fun x hx he => hn ?_
    have hx := irange_mem.mp hx
    obtain ⟨k, rfl⟩ : ∃ k : Nat, x = k := ⟨x.toNat, by omega⟩
    rw [eqT_iff, cut_mid (k := k) (n := s.length) rfl rfl (by omega)] at he
    exact ⟨k, by omega, he⟩
  · rintro ⟨k, h1, h2⟩ h
    refine h (k : Int) (irange_mem.mpr ⟨by omega, by omega⟩) ?_
    rw [eqT_iff, cut_mid (k := k) (n := s.length) rfl rfl h1]
    exact h2
open Classical in
/-- none of the stretches stands in them -/
noncomputable def goodB (bad : List (List Int)) (ds : List Int) : Bool := decide (∀ s ∈ bad, ¬ s <:+: ds)
theorem goodB_iff {bad : List (List Int)} {ds : List Int} : goodB bad ds = true ↔ ∀ s ∈ bad, ¬ s <:+: ds := by unfold goodB; exact decide_eq_true_iff
theorem lacks_all_eq {rule : Int × List (List Int)} {ds : List Int} (h4 : ∀ s ∈ rule.2, s.length ≤ 1000) (h : rule.2.length ≤ 1000) (hl : ds.length < 1000000) : lacks_all rule ds = some (goodB rule.2 ds) := by
  unfold lacks_all
  rw [forK_fmM (p := fun s => stB s ds) (g := fun x => x) (B := 16777216) _ _ (fun acc x next hx hl2 => by rw [lacks_all_c1, stands_in_eq (h4 x hx) hl, Option.bind_some, if_pos hl2]) (by rw [List.length_nil]; omega)]
  rw [lacks_all_k2, List.map_id', List.nil_append]
  refine congrArg some (Bool.eq_iff_iff.mpr ?_)
  rw [filter_nil_iff, goodB_iff]
  exact ⟨fun h s hs hi => h s hs (stB_iff.mpr hi), fun h s hs hi => h s hs (stB_iff.mp hi)⟩

theorem some_rule_ok {st : DkS} (h : DkOk st) : Ok (_law_some_rule st) fun p => GoodRule p.1 ∧ DkOk p.2 := by
  unfold _law_some_rule
  refine (draw_ok h (by decide) (by decide)).bind fun ⟨r1, st1⟩ ⟨⟨a1, a2⟩, h1⟩ => ?_
  refine (draw_ok h1 (by decide) (by decide)).bind fun ⟨r2, st2⟩ ⟨⟨a3, a4⟩, h2⟩ => ?_
  refine (draw_ok h2 (by decide) (by decide)).bind fun ⟨r3, st3⟩ ⟨⟨a5, a6⟩, h3⟩ => ?_
  have a1 : 0 ≤ r1 := a1
  have a2 : r1 < 15 := a2
  have a3 : 0 ≤ r2 := a3
  have a4 : r2 < 3 := a4
  have a5 : 0 ≤ r3 := a5
  have a6 : r3 < 6 := a6
  refine Ok.bind (P := fun x => 2 ≤ x ∧ x ≤ 16) ?_ fun x1 hx1 => ?_
  · rcases (show r3 = 0 ∨ r3 = 1 ∨ r3 = 2 ∨ r3 = 3 ∨ r3 = 4 ∨ r3 = 5 by omega) with rfl | rfl | rfl | rfl | rfl | rfl
    · exact ⟨_, rfl, by omega, by omega⟩
    · exact ⟨_, rfl, by omega, by omega⟩
    · exact ⟨_, rfl, by omega, by omega⟩
    · exact ⟨_, rfl, by omega, by omega⟩
    · exact ⟨_, rfl, by omega, by omega⟩
    · exact ⟨_, rfl, by omega, by omega⟩
  refine (draw_ok h3 (by decide) (by decide)).bind fun ⟨r4, st4⟩ ⟨⟨a7, a8⟩, h4⟩ => ?_
  have a7 : 0 ≤ r4 := a7
  have a8 : r4 < 3 := a8
  refine Ok.bind (P := fun x => 2 ≤ x ∧ x ≤ 16) ?_ fun x2 hx2 => ?_
  · rcases (show r4 = 0 ∨ r4 = 1 ∨ r4 = 2 by omega) with rfl | rfl | rfl
    · exact ⟨_, rfl, by omega, by omega⟩
    · exact ⟨_, rfl, by omega, by omega⟩
    · exact ⟨_, rfl, by omega, by omega⟩
  obtain ⟨m, hm⟩ : ∃ m, m = (if x2 < x1 then x2 else x1) := ⟨_, rfl⟩
  have hm2 : 2 ≤ m ∧ m ≤ x1 := by
    rw [hm]
    split <;> omega
  refine (draw_ok h4 (by rw [← hm]; omega) (by rw [← hm]; omega)).bind fun ⟨r5, st5⟩ ⟨⟨a9, a10⟩, h5⟩ => ?_
  have a9 : 0 ≤ r5 := a9
  have a10 : r5 < x1 - (if x2 < x1 then x2 else x1) + 1 := a10
  rw [← hm] at a10
  refine (draw_ok h5 (by decide) (by decide)).bind fun ⟨r6, st6⟩ ⟨⟨b1, b2⟩, h6⟩ => ?_
  refine (draw_ok h6 (by decide) (by decide)).bind fun ⟨r7, st7⟩ ⟨⟨b3, b4⟩, h7⟩ => ?_
  have b1 : 0 ≤ r6 := b1
  have b2 : r6 < 4 := b2
  have b3 : 0 ≤ r7 := b3
  have b4 : r7 < 4 := b4
  refine Ok.bind (P := fun x => 1 ≤ x ∧ x ≤ 4) ?_ fun x3 hx3 => ?_
  · rcases (show r7 = 0 ∨ r7 = 1 ∨ r7 = 2 ∨ r7 = 3 by omega) with rfl | rfl | rfl | rfl
    · exact ⟨_, rfl, by omega, by omega⟩
    · exact ⟨_, rfl, by omega, by omega⟩
    · exact ⟨_, rfl, by omega, by omega⟩
    · exact ⟨_, rfl, by omega, by omega⟩
  refine (draw_ok h7 (by decide) (by decide)).bind fun ⟨r8, st8⟩ ⟨⟨b5, b6⟩, h8⟩ => ?_
  refine (draw_ok h8 (by decide) (by decide)).bind fun ⟨r9, st9⟩ ⟨⟨b7, b8⟩, h9⟩ => ?_
  have b5 : 0 ≤ r8 := b5
  have b6 : r8 < 5 := b6
  have b7 : 0 ≤ r9 := b7
  have b8 : r9 < 4 := b8
  refine Ok.bind (P := fun x => 0 ≤ x ∧ x ≤ 4) ?_ fun x4 hx4 => ?_
  · rcases (show r9 = 0 ∨ r9 = 1 ∨ r9 = 2 ∨ r9 = 3 by omega) with rfl | rfl | rfl | rfl
    · exact ⟨_, rfl, by omega, by omega⟩
    · exact ⟨_, rfl, by omega, by omega⟩
    · exact ⟨_, rfl, by omega, by omega⟩
    · exact ⟨_, rfl, by omega, by omega⟩
  refine Ok.guard ⟨by omega, by omega⟩ ?_
  refine forK_okI (P := fun pre s => s.1.length ≤ pre.length ∧ s.1.Nodup ∧ (∀ z ∈ s.1, Figs x1 z ∧ 1 ≤ z.length ∧ z.length ≤ 4) ∧ DkOk s.2) ⟨Nat.le_refl _, List.nodup_nil, (fun z hz => nomatch hz), h9⟩ (fun pre x post s next e hP hN => ?_) (fun s hP => ?_)
  · obtain ⟨x5, st10⟩ := s
    obtain ⟨q1, q2, q3, q4⟩ := hP
    have q1 : x5.length ≤ pre.length := q1
    have hl : pre.length < 4 := by
      have := congrArg List.length e
      rw [irange_len, List.length_append, List.length_cons] at this
      omega
    rw [_law_some_rule_b1]
    refine (draw_ok q4 (by omega) (by omega)).bind fun ⟨r10, st11⟩ ⟨⟨c1, c2⟩, h10⟩ => ?_
    have c1 : 0 ≤ r10 := c1
    have c2 : r10 < x3 := c2
    refine Ok.guard ⟨by omega, by omega⟩ ?_
    refine forK_okI (P := fun pre s => s.1.length = pre.length ∧ Figs x1 s.1 ∧ DkOk s.2) ⟨rfl, Figs.nil, h10⟩ (fun pre2 x6 post2 s next2 e2 hP2 hN2 => ?_) (fun s hP2 => ?_)
    · obtain ⟨x7, st12⟩ := s
      obtain ⟨p1, p2, p3⟩ := hP2
      have p1 : x7.length = pre2.length := p1
      have hl2 : pre2.length < 4 := by
        have := congrArg List.length e2
        rw [irange_len, List.length_append, List.length_cons] at this
        omega
      rw [_law_some_rule_c3]
      refine (draw_ok p3 (by rw [← hm]; omega) (by rw [← hm]; omega)).bind fun ⟨r11, st13⟩ ⟨⟨d1, d2⟩, h11⟩ => ?_
      have d1 : 0 ≤ r11 := d1
      have d2 : r11 < (if x2 < x1 then x2 else x1) := d2
      rw [← hm] at d2
      refine Ok.guard (by omega) (hN2 _ ⟨?_, Figs.app p2 (Figs.one (by omega)), h11⟩)
      show (x7 ++ [r5 + r11]).length = (pre2 ++ [x6]).length
      rw [List.length_append, List.length_append, p1]; rfl
    · obtain ⟨x7, st12⟩ := s
      obtain ⟨p1, p2, p3⟩ := hP2
      have p1 : x7.length = (irange 0 (1 + r10)).length := p1
      have p2 : Figs x1 x7 := p2
      rw [irange_len] at p1
      rw [_law_some_rule_k4]
      refine Ok.ite (fun hc => ?_) (fun hc => ?_)
      · rw [Bool.not_eq_true', memT_no] at hc
        refine Ok.guard (by omega) (hN _ ⟨?_, ?_, ?_, p3⟩)
        · show (x5 ++ [x7]).length ≤ (pre ++ [x]).length
          rw [List.length_append, List.length_append, List.length_singleton, List.length_singleton]; omega
        · show (x5 ++ [x7]).Nodup
          refine List.nodup_append.mpr ⟨q2, List.nodup_cons.mpr ⟨(fun h => nomatch h), List.nodup_nil⟩, fun a ha b hb e => ?_⟩
          rw [List.mem_singleton] at hb
          subst e hb
          exact hc ha
        · intro z hz
          rcases List.mem_append.mp (show z ∈ x5 ++ [x7] from hz) with hz | hz
          · exact q3 z hz
          · rw [List.mem_singleton.mp hz]
            exact ⟨p2, by omega, by omega⟩
      · refine hN _ ⟨?_, q2, q3, p3⟩
        show x5.length ≤ (pre ++ [x]).length
        rw [List.length_append]; omega
  · obtain ⟨x5, st10⟩ := s
    obtain ⟨q1, q2, q3, q4⟩ := hP
    have q1 : x5.length ≤ (irange 0 x4).length := q1
    rw [irange_len] at q1
    rw [_law_some_rule_e2]
    refine Ok.guard (by omega) (Ok.mk ⟨⟨hx1.1, hx1.2, ?_, fun s hs => q3 s (sortT_mem.mp hs), sortT_lt q2⟩, q4⟩)
    show (sortT x5).length ≤ 4
    rw [sortT_len]; omega
theorem cut_take {α : Type} {xs : List α} {i : Int} (h0 : 0 ≤ i) : cutT xs none (some i) = xs.take i.toNat := by
  unfold cutT HT.sIx
  dsimp only
  rw [if_neg (by omega), List.drop_zero, Nat.sub_zero]
  by_cases h : i.toNat ≤ xs.length
  · rw [Nat.min_eq_left h]
  · rw [Nat.min_eq_right (by omega), List.take_length, List.take_of_length_le (by omega)]
theorem cut_drop {α : Type} {xs : List α} {i : Int} (h0 : 0 ≤ i) (h : i ≤ xs.length) : cutT xs (some i) none = xs.drop i.toNat := by
  unfold cutT HT.sIx
  dsimp only
  rw [if_neg (by omega), Nat.min_eq_left (by omega), ← List.length_drop, List.take_length]
theorem irange_cons {lo hi : Int} (h : lo < hi) : irange lo hi = lo :: irange (lo + 1) hi := by
  unfold irange
  obtain ⟨n, hn⟩ : ∃ n, (hi - lo).toNat = n + 1 := ⟨(hi - lo).toNat - 1, by omega⟩
  rw [hn, show (hi - (lo + 1)).toNat = n from by omega, List.range_succ_eq_map, List.map_cons, List.map_map]
  refine congr (congrArg List.cons (by omega)) (List.map_congr_left fun i _ => ?_)
  show lo + ((i + 1 : Nat) : Int) = lo + 1 + (i : Int)
  omega
theorem irange_nil {lo hi : Int} (h : hi ≤ lo) : irange lo hi = [] := by
  unfold irange
  rw [show (hi - lo).toNat = 0 from by omega]; rfl
theorem cut_from {α : Type} {xs : List α} {k n : Nat} (h : k ≤ xs.length) : cutT xs (some (k : Int)) (some ((k : Int) + n)) = (xs.drop k).take n := by
  unfold cutT HT.sIx
  dsimp only
  rw [if_neg (by omega), if_neg (by omega), Int.toNat_natCast, show ((k : Int) + n).toNat = k + n from by omega, Nat.min_eq_left h]
  by_cases h2 : k + n ≤ xs.length
  · rw [Nat.min_eq_left h2, Nat.add_sub_cancel_left]
  · rw [Nat.min_eq_right (by omega), List.take_of_length_le (by rw [List.length_drop]; omega), List.take_of_length_le (by rw [List.length_drop]; omega)]
theorem goodB_false {bad : List (List Int)} {x ds : List Int} (hx : x ∈ bad) (h : x <:+: ds) : goodB bad ds = false := by
  cases e : goodB bad ds with
  | false => rfl
  | true => exact absurd h (goodB_iff.mp e x hx)
theorem law_lacks_eq {bad : List (List Int)} {ds : List Int} (h1 : ∀ s ∈ bad, 1 ≤ s.length) (hl : ds.length < 1000000) : _law_lacks bad ds = some (goodB bad ds) := by
  unfold _law_lacks
  rw [if_pos ⟨by omega, by omega⟩]
  rw [forK_stop (p := fun t1 => bad.any fun one => eqT (cutT ds (some t1) (some (t1 + (one.length : Int)))) one) (c := some false) (fun t1 next => by
    rw [_law_lacks_b1, forK_stop (p := fun one => eqT (cutT ds (some t1) (some (t1 + (one.length : Int)))) one) (c := some false) (fun one next => by rw [_law_lacks_b3])]
    rfl)]
  cases G : goodB bad ds with
  | true =>
    rw [if_neg]
    · rfl
    · intro h
      obtain ⟨t, ht, h⟩ := List.any_eq_true.mp h
      obtain ⟨one, ho, h⟩ := List.any_eq_true.mp h
      have ht := irange_mem.mp ht
      obtain ⟨k, rfl⟩ : ∃ k : Nat, t = k := ⟨t.toNat, by omega⟩
      rw [eqT_iff, cut_from (by omega)] at h
      refine goodB_iff.mp G one ho ?_
      rw [← h]
      exact (List.take_prefix _ _).isInfix.trans (List.drop_suffix _ _).isInfix
  | false =>
    rw [if_pos]
    rw [← Bool.not_eq_true, goodB_iff] at G
    obtain ⟨s, hs, hi⟩ : ∃ s ∈ bad, s <:+: ds := by
      apply Classical.byContradiction
      intro hn
      exact G fun s hs hi => hn ⟨s, hs, hi⟩
    obtain ⟨k, hk, he⟩ := infix_at.mp hi
    have := h1 s hs
    refine List.any_eq_true.mpr ⟨(k : Int), irange_mem.mpr ⟨by omega, by omega⟩, List.any_eq_true.mpr ⟨s, hs, ?_⟩⟩
    rw [eqT_iff, cut_from (by omega)]
    exact he
/-! #### the longest end that begins a stretch -/
open Classical in
noncomputable def endsL (bad : List (List Int)) : List Int → List Int
  | [] => []
  | d :: t => if ∃ s ∈ bad, (d :: t) <+: s then d :: t else endsL bad t
theorem ends_suf (bad : List (List Int)) : ∀ ds, endsL bad ds <:+ ds
  | [] => List.suffix_refl _
  | d :: t => by
    unfold endsL
    split
    · exact List.suffix_refl _
    · exact (ends_suf bad t).trans (List.suffix_cons _ _)
theorem ends_beg (bad : List (List Int)) : ∀ ds, endsL bad ds = [] ∨ ∃ s ∈ bad, endsL bad ds <+: s
  | [] => .inl rfl
  | d :: t => by
    unfold endsL
    split
    · exact .inr (by assumption)
    · exact ends_beg bad t
theorem ends_max {bad : List (List Int)} {e : List Int} : ∀ {ds : List Int}, e <:+ ds → (e = [] ∨ ∃ s ∈ bad, e <+: s) → e <:+ endsL bad ds
  | [], h, _ => h
  | d :: t, h, hb => by
    unfold endsL
    split
    · exact h
    · next hn =>
      rcases List.suffix_cons_iff.mp h with rfl | h
      · exact absurd (hb.resolve_left (fun z => nomatch z)) hn
      · exact ends_max h hb
theorem suf_antisymm {a b : List Int} (h : a <:+ b) (k : b <:+ a) : a = b := h.eq_of_length_le k.length_le
theorem ends_step (bad : List (List Int)) (ds : List Int) (f : Int) : endsL bad (ds ++ [f]) = endsL bad (endsL bad ds ++ [f]) := by
  have up : endsL bad ds ++ [f] <:+ ds ++ [f] := List.suffix_concat_iff.mpr (.inr ⟨_, rfl, ends_suf bad ds⟩)
  refine suf_antisymm (ends_max ?_ (ends_beg _ _)) (ends_max ((ends_suf _ _).trans up) (ends_beg _ _))
  rcases List.suffix_concat_iff.mp (ends_suf bad (ds ++ [f])) with h | ⟨t, e, h⟩
  · rw [h]; exact List.nil_suffix
  · rw [e]
    refine List.suffix_concat_iff.mpr (.inr ⟨t, rfl, ends_max h (.inr ?_)⟩)
    rcases ends_beg bad (ds ++ [f]) with h2 | ⟨s, hs, h2⟩
    · rw [e] at h2; exact nomatch (List.append_eq_nil_iff.mp h2).2
    · rw [e] at h2
      exact ⟨s, hs, (List.prefix_append t [f]).trans h2⟩
theorem goodB_mono {bad : List (List Int)} {x y : List Int} (h : x <:+: y) (g : goodB bad y = true) : goodB bad x = true := by
  rw [goodB_iff] at g ⊢
  exact fun s hs hi => g s hs (hi.trans h)
theorem good_step {bad : List (List Int)} {ds : List Int} {f : Int} (g : goodB bad ds = true) : goodB bad (ds ++ [f]) = goodB bad (endsL bad ds ++ [f]) := by
  have up : endsL bad ds ++ [f] <:+ ds ++ [f] := List.suffix_concat_iff.mpr (.inr ⟨_, rfl, ends_suf bad ds⟩)
  apply Bool.eq_iff_iff.mpr
  constructor
  · exact goodB_mono up.isInfix
  · intro h
    rw [goodB_iff] at h g ⊢
    intro s hs hi
    rcases (List.infix_concat_iff.mp hi).symm with h1 | h1
    · exact g s hs h1
    · refine h s hs (List.IsSuffix.isInfix ?_)
      rcases List.suffix_concat_iff.mp h1 with h2 | ⟨t, e, h2⟩
      · rw [h2]; exact List.nil_suffix
      · rw [e]
        exact List.suffix_concat_iff.mpr (.inr ⟨t, rfl, ends_max h2 (.inr ⟨s, hs, by rw [e]; exact List.prefix_append _ _⟩)⟩)
/-- the stand behind figures -/
noncomputable def standL (bad : List (List Int)) (ds : List Int) : Option (List Int) := if goodB bad ds = true then some (endsL bad ds) else none
theorem stand_step {bad : List (List Int)} {ds : List Int} {f : Int} (g : goodB bad ds = true) : standL bad (endsL bad ds ++ [f]) = standL bad (ds ++ [f]) := by
  unfold standL
  rw [← good_step g, ← ends_step]
/-- what is told as a stand -/
def StB (bad : List (List Int)) (x : List Int) : Prop := x = [] ∨ ∃ s ∈ bad, x <+: s ∧ 1 ≤ x.length ∧ x.length < s.length ∧ goodB bad x = true
theorem ends_StB {bad : List (List Int)} {ds : List Int} (g : goodB bad ds = true) : StB bad (endsL bad ds) := by
  rcases ends_beg bad ds with h | ⟨s, hs, h⟩
  · exact .inl h
  · by_cases hn : endsL bad ds = []
    · exact .inl hn
    · refine .inr ⟨s, hs, h, List.length_pos_iff.mpr hn, ?_, goodB_mono (ends_suf bad ds).isInfix g⟩
      rcases Nat.lt_or_ge (endsL bad ds).length s.length with h1 | h1
      · exact h1
      · have : endsL bad ds = s := h.eq_of_length_le h1
        exact absurd (by rw [← this]; exact (ends_suf bad ds).isInfix) (goodB_iff.mp g s hs)
theorem goodB_nil {bad : List (List Int)} (h : ∀ s ∈ bad, 1 ≤ s.length) : goodB bad [] = true := by
  rw [goodB_iff]
  intro s hs hi
  have := h s hs
  rw [List.infix_nil.mp hi] at this
  exact absurd this (by decide)
theorem StB_good {bad : List (List Int)} (h : ∀ s ∈ bad, 1 ≤ s.length) {x : List Int} (hx : StB bad x) : goodB bad x = true := by
  rcases hx with rfl | ⟨s, _, _, _, _, g⟩
  · exact goodB_nil h
  · exact g
/-! #### the program's stands -/
theorem ends_of_eq {rule : Int × List (List Int)} {ds : List Int} (hl : ds.length < 1000000) (h : rule.2.length ≤ 1000) : ends_of rule ds = some (endsL rule.2 ds) := by
  unfold ends_of
  refine Ok.eq (Ok.guard ⟨by omega, by omega⟩ ?_)
  have all : ∀ (m k : Nat), k + m = ds.length → forK (ends_of_b1 ds rule) (irange (k : Int) ((ds.length : Int) + 1)) () ends_of_e2 = some (endsL rule.2 (ds.drop k)) := by
    intro m
    induction m with
    | zero =>
      intro k e
      rw [irange_cons (by omega)]
      show ends_of_b1 ds rule () (k : Int) _ = _
      rw [ends_of_b1, cut_drop (by omega) (by omega), Int.toNat_natCast, List.drop_of_length_le (by omega), eqT_iff.mpr rfl, if_pos rfl]
      rfl
    | succ m ih =>
      intro k e
      rw [irange_cons (by omega)]
      show ends_of_b1 ds rule () (k : Int) _ = _
      have hk : k < ds.length := by omega
      have hd := List.drop_eq_getElem_cons hk
      rw [ends_of_b1, cut_drop (by omega) (by omega), Int.toNat_natCast, if_neg (by rw [eqT_iff, hd]; exact (fun z => nomatch z))]
      have hr : ∀ next, forK (ends_of_c3 ds (k : Int)) rule.2 [] (ends_of_k4 ds (k : Int) next) = if ∃ s ∈ rule.2, ds.drop k <+: s then some (ds.drop k) else next () := by
        intro next
        rw [forK_fm (p := fun s => eqT (s.take (ds.drop k).length) (ds.drop k)) (g := fun x => x) (B := 16777216) (fun acc x next hl2 => by
          rw [ends_of_c3, cut_drop (by omega) (by omega), Int.toNat_natCast, cut_take (by omega), Int.toNat_natCast, if_pos hl2]) _ _ (by rw [List.length_nil]; omega)]
        rw [ends_of_k4, List.map_id', List.nil_append, cut_drop (by omega) (by omega), Int.toNat_natCast]
        by_cases hb : ∃ s ∈ rule.2, ds.drop k <+: s
        · rw [if_pos hb, if_pos]
          rw [Bool.not_eq_true', ← Bool.not_eq_true, filter_nil_iff]
          obtain ⟨s, hs, hp⟩ := hb
          exact fun h => h s hs (eqT_iff.mpr (List.prefix_iff_eq_take.mp hp).symm)
        · rw [if_neg hb, if_neg]
          rw [Bool.not_eq_true', ← Bool.not_eq_true, Classical.not_not, filter_nil_iff]
          exact fun s hs h => hb ⟨s, hs, List.prefix_iff_eq_take.mpr (eqT_iff.mp h).symm⟩
      rw [hr]
      have ih' := ih (k + 1) (by omega)
      show (if ∃ s ∈ rule.2, ds.drop k <+: s then some (ds.drop k) else forK (ends_of_b1 ds rule) (irange ((k : Int) + 1) ((ds.length : Int) + 1)) () ends_of_e2) = _
      rw [show (k : Int) + 1 = ((k + 1 : Nat) : Int) from by omega, ih', hd, endsL]
      split
      · rfl
      · rfl
  have := all ds.length 0 (by omega)
  rw [List.drop_zero] at this
  exact Ok.of this rfl
theorem stand_of_eq {rule : Int × List (List Int)} (g : GoodRule rule) {ds : List Int} (hl : ds.length < 1000000) : stand_of rule ds = some (standL rule.2 ds) := by
  have := g.few
  unfold stand_of standL
  rw [lacks_all_eq (fun s hs => by have := (g.figs s hs).2.2; omega) (by omega) hl, Option.bind_some, ends_of_eq hl (by omega)]
  cases goodB rule.2 ds <;> rfl
/-! #### the stands in order -/
def lt2 (x y : List Int) : Prop := x.length < y.length ∨ (x.length = y.length ∧ ltT x y = true)
theorem lt2_pair {x y : List Int} (h : lt2 x y) : ltT ((x.length : Int), x) ((y.length : Int), y) = true := by
  have k : ∀ z : List Int, PySem.W.keyToks (TD.d ((z.length : Int), z)) = .inl 1 :: .inl (z.length : Int) :: .inl 1 :: (PySem.W.keyToks (TD.d z) ++ [.inl 0]) := fun z => by
    show PySem.W.keyToks (.tuple [.int (z.length : Int), TD.d z]) = _
    rw [PySem.W.keyToks, PySem.W.keyToksAll, PySem.W.keyToks, PySem.W.keyToksAll, PySem.W.keyToksAll]
    rfl
  show PyProof.Rows.lexLt PyProof.Rows.itemOrd (PySem.W.keyToks (TD.d ((x.length : Int), x))) (PySem.W.keyToks (TD.d ((y.length : Int), y))) = true
  rw [k, k, PyProof.Rows.lex_self]
  rcases h with h | ⟨h, h2⟩
  · rw [PyProof.Rows.lex_diff (fun e => by have := Sum.inl.inj e; omega)]
    show decide ((x.length : Int) < (y.length : Int)) = true
    exact decide_eq_true (by omega)
  · have hne : x ≠ y := fun e => by rw [e, ltT_irr] at h2; exact nomatch h2
    rw [h, PyProof.Rows.lex_self, PyProof.Rows.lex_self, (PySem.W.toks_eqv _ _ (SO.alike x y)).2 (eqT_no.mpr hne)]
    exact h2
theorem lt2_irr (x : List Int) : ¬ lt2 x x := by
  rintro (h | ⟨_, h⟩)
  · omega
  · rw [ltT_irr] at h; exact nomatch h
theorem lt2_asym {x y : List Int} (h : lt2 x y) (k : lt2 y x) : False := by
  rcases h with h | ⟨h, h2⟩
  · rcases k with k | ⟨k, _⟩ <;> omega
  · rcases k with k | ⟨_, k2⟩
    · omega
    · have := ltT_trans h2 k2
      rw [ltT_irr] at this; exact nomatch this
theorem lt2_tot (x y : List Int) : x = y ∨ lt2 x y ∨ lt2 y x := by
  rcases Nat.lt_trichotomy x.length y.length with h | h | h
  · exact .inr (.inl (.inl h))
  · cases h1 : ltT x y with
    | true => exact .inr (.inl (.inr ⟨h, h1⟩))
    | false =>
      cases h2 : ltT y x with
      | true => exact .inr (.inr (.inr ⟨h.symm, h2⟩))
      | false => exact .inl (ltT_tot h1 h2)
  · exact .inr (.inr (.inl h))
theorem sorted_ext : ∀ {l m : List (List Int)}, l.Pairwise lt2 → m.Pairwise lt2 → (∀ x, x ∈ l ↔ x ∈ m) → l = m
  | [], [], _, _, _ => rfl
  | [], b :: m, _, _, h => absurd ((h b).mpr List.mem_cons_self) List.not_mem_nil
  | a :: l, [], _, _, h => absurd ((h a).mp List.mem_cons_self) List.not_mem_nil
  | a :: l, b :: m, h1, h2, h => by
    obtain ⟨a1, a2⟩ := List.pairwise_cons.mp h1
    obtain ⟨b1, b2⟩ := List.pairwise_cons.mp h2
    have e : a = b := by
      rcases List.mem_cons.mp ((h a).mp List.mem_cons_self) with e | ha
      · exact e
      · rcases List.mem_cons.mp ((h b).mpr List.mem_cons_self) with e | hb
        · exact e.symm
        · exact absurd (a1 b hb) (fun z => lt2_asym z (b1 a ha))
    subst e
    refine congrArg (a :: ·) (sorted_ext a2 b2 fun x => ⟨fun hx => ?_, fun hx => ?_⟩)
    · rcases List.mem_cons.mp ((h x).mp (List.mem_cons_of_mem _ hx)) with e | h
      · subst e; exact absurd (a1 x hx) (lt2_irr x)
      · exact h
    · rcases List.mem_cons.mp ((h x).mpr (List.mem_cons_of_mem _ hx)) with e | h
      · subst e; exact absurd (b1 x hx) (lt2_irr x)
      · exact h
theorem stands_of_ord {rule : Int × List (List Int)} (g : GoodRule rule) : Ok (stands_of rule) fun L => (∀ x, x ∈ L ↔ StB rule.2 x) ∧ L.Pairwise lt2 := by
  have hlen := g.few
  unfold stands_of
  refine forK_okI (P := fun pre s => s.Nodup ∧ ((0 : Int), ([] : List Int)) ∈ s ∧ (∀ p ∈ s, p.1 = p.2.length ∧ StB rule.2 p.2) ∧ (∀ t ∈ pre, ∀ k : Nat, 1 ≤ k → k < t.length → goodB rule.2 (t.take k) = true → ((k : Int), t.take k) ∈ s) ∧ s.length ≤ 1 + 4 * pre.length)
    ⟨List.nodup_cons.mpr ⟨List.not_mem_nil, List.nodup_nil⟩, List.mem_cons_self, (fun p hp => by rw [List.mem_singleton.mp hp]; exact ⟨rfl, .inl rfl⟩), (fun t ht => nomatch ht), Nat.le_refl _⟩ (fun pre t post s next e hP hN => ?_) (fun s hP => ?_)
  · obtain ⟨p1, p2, p3, p4, p5⟩ := hP
    have ht : t ∈ rule.2 := by rw [e]; exact List.mem_append_right _ List.mem_cons_self
    obtain ⟨f1, f2, f3⟩ := g.figs t ht
    have hpl : pre.length ≤ 3 := by
      have := congrArg List.length e
      rw [List.length_append, List.length_cons] at this
      omega
    rw [stands_of_b1]
    refine Ok.guard ⟨by decide, by decide, by omega, by omega⟩ ?_
    refine forK_okI (P := fun pre2 s => s.Nodup ∧ ((0 : Int), ([] : List Int)) ∈ s ∧ (∀ p ∈ s, p.1 = p.2.length ∧ StB rule.2 p.2) ∧ (∀ t ∈ pre, ∀ k : Nat, 1 ≤ k → k < t.length → goodB rule.2 (t.take k) = true → ((k : Int), t.take k) ∈ s) ∧ (∀ k : Nat, (k : Int) ∈ pre2 → goodB rule.2 (t.take k) = true → ((k : Int), t.take k) ∈ s) ∧ s.length ≤ 1 + 4 * pre.length + pre2.length)
      ⟨p1, p2, p3, p4, (fun k hk => absurd hk List.not_mem_nil), by show s.length ≤ 1 + 4 * pre.length + 0; omega⟩ (fun pre2 t2 post2 s next2 e2 hP2 hN2 => ?_) (fun s hP2 => ?_)
    · obtain ⟨q1, q2, q3, q4, q5, q6⟩ := hP2
      have ht2 : t2 ∈ irange 1 (t.length : Int) := by rw [e2]; exact List.mem_append_right _ List.mem_cons_self
      have ht2 := irange_mem.mp ht2
      obtain ⟨k, rfl⟩ : ∃ k : Nat, t2 = k := ⟨t2.toNat, by omega⟩
      have hl2 : pre2.length ≤ 3 := by
        have := congrArg List.length e2
        rw [irange_len, List.length_append, List.length_cons] at this
        omega
      rw [stands_of_b3, cut_take (by omega), Int.toNat_natCast, lacks_all_eq (fun s hs => by have := (g.figs s hs).2.2; omega) (by omega) (by rw [List.length_take]; omega), Option.bind_some]
      have old : ∀ s' : List (Int × List Int), (∀ p ∈ s, p ∈ s') → (goodB rule.2 (t.take k) = true → ((k : Int), t.take k) ∈ s') → (∀ k2 : Nat, (k2 : Int) ∈ pre2 ++ [(k : Int)] → goodB rule.2 (t.take k2) = true → ((k2 : Int), t.take k2) ∈ s') := by
        intro s' h1 h2 k2 hk2 hg
        rcases List.mem_append.mp hk2 with h | h
        · exact h1 _ (q5 k2 h hg)
        · have := List.mem_singleton.mp h
          have : k2 = k := by omega
          subst this
          exact h2 hg
      refine Ok.ite (fun hc => ?_) (fun hc => ?_)
      · refine Ok.ite (fun hm => ?_) (fun hm => ?_)
        · rw [Bool.not_eq_true', memT_no] at hm
          refine Ok.guard (by omega) (hN2 _ ⟨?_, List.mem_append_left _ q2, ?_, fun t' ht' k' a b c => List.mem_append_left _ (q4 t' ht' k' a b c), old _ (fun p hp => List.mem_append_left _ hp) fun _ => List.mem_append_right _ List.mem_cons_self, ?_⟩)
          · refine List.nodup_append.mpr ⟨q1, List.nodup_cons.mpr ⟨(fun h => nomatch h), List.nodup_nil⟩, fun a ha b hb e => ?_⟩
            rw [List.mem_singleton] at hb
            subst e hb
            exact hm ha
          · intro p hp
            rcases List.mem_append.mp hp with hp | hp
            · exact q3 p hp
            · rw [List.mem_singleton.mp hp]
              have hlk : (t.take k).length = k := by rw [List.length_take]; omega
              exact ⟨by show (k : Int) = ((t.take k).length : Int); rw [hlk], .inr ⟨t, ht, List.take_prefix _ _, by show 1 ≤ (t.take k).length; omega, by show (t.take k).length < _; omega, hc⟩⟩
          · rw [List.length_append, List.length_append, List.length_singleton, List.length_singleton]; omega
        · have hm : ((k : Int), t.take k) ∈ s := memT_iff.mp (by cases h : memT ((k : Int), t.take k) s with | true => rfl | false => rw [h] at hm; exact absurd rfl hm)
          refine hN2 _ ⟨q1, q2, q3, q4, old _ (fun p hp => hp) fun _ => hm, ?_⟩
          rw [List.length_append]; omega
      · refine hN2 _ ⟨q1, q2, q3, q4, old _ (fun p hp => hp) fun h => absurd h hc, ?_⟩
        rw [List.length_append]; omega
    · obtain ⟨q1, q2, q3, q4, q5, q6⟩ := hP2
      rw [irange_len] at q6
      rw [stands_of_e4]
      refine hN _ ⟨q1, q2, q3, fun t' ht' k a b c => ?_, ?_⟩
      · rcases List.mem_append.mp ht' with h | h
        · exact q4 t' h k a b c
        · have := List.mem_singleton.mp h
          subst this
          exact q5 k (irange_mem.mpr ⟨by omega, by omega⟩) c
      · rw [List.length_append, List.length_singleton]; omega
  · obtain ⟨p1, p2, p3, p4, p5⟩ := hP
    rw [stands_of_e2]
    refine Ok.guard (by omega) ?_
    rw [forK_fm (p := fun _ => true) (g := fun p : Int × List Int => p.2) (B := 16777216) (fun acc x next hl => by rw [stands_of_c5, if_pos hl, if_pos rfl]) _ _ (by rw [List.length_nil, sortT_len]; omega)]
    rw [stands_of_k6, List.nil_append, List.filter_eq_self.mpr fun _ _ => rfl]
    refine Ok.mk ⟨fun x => ⟨fun hx => ?_, fun hx => ?_⟩, ?_⟩
    · obtain ⟨p, hp, rfl⟩ := List.mem_map.mp hx
      exact (p3 p (sortT_mem.mp hp)).2
    · rcases hx with rfl | ⟨t, ht, hp, h1, h2, hg⟩
      · exact List.mem_map.mpr ⟨_, sortT_mem.mpr p2, rfl⟩
      · have e := List.prefix_iff_eq_take.mp hp
        refine List.mem_map.mpr ⟨((x.length : Int), t.take x.length), sortT_mem.mpr (p4 t ht x.length h1 h2 (by rw [← e]; exact hg)), e.symm⟩
    · have le := PySem.W.sort_pairwise (le := PySem.W.dataLe false (TD.d (α := Int × List Int))) (PySem.W.sortLe_total _ _ _) s
      have nd : (sortT s).Pairwise fun a b => a ≠ b := (sortT_perm s).nodup_iff.mpr p1
      refine List.pairwise_map.mpr (List.Pairwise.imp_of_mem (fun {a b} ha hb h => ?_) (List.pairwise_and_iff.mpr ⟨le, nd⟩))
      have h1 := (p3 a (sortT_mem.mp ha)).1
      have h2 := (p3 b (sortT_mem.mp hb)).1
      rcases lt2_tot a.2 b.2 with e | e | e
      · exact absurd (Prod.ext (by rw [h1, h2, e]) e) h.2
      · exact e
      · have k := lt2_pair e
        have ea : ((a.2.length : Int), a.2) = a := Prod.ext h1.symm rfl
        have eb : ((b.2.length : Int), b.2) = b := Prod.ext h2.symm rfl
        rw [ea, eb] at k
        have h3 : (!ltT b a) = true := h.1
        rw [k] at h3
        exact nomatch h3
theorem stands_of_ok {rule : Int × List (List Int)} (g : GoodRule rule) : Ok (stands_of rule) fun L => (∀ x, x ∈ L ↔ StB rule.2 x) ∧ L.Nodup :=
  (stands_of_ord g).mono fun L h => ⟨h.1, h.2.imp fun {a b} h e => by subst e; exact lt2_irr _ h⟩
/-! #### data of bounded depth and width -/
inductive Lv : Nat → PyData → Prop
  | int {k : Nat} {i : Int} (h : i.natAbs < 10 ^ 30) : Lv k (.int i)
  | bool {k : Nat} {b : Bool} : Lv k (.bool b)
  | none {k : Nat} : Lv k .none
  | str {k : Nat} {x : Str} (h : (reprText x).length ≤ 40) : Lv k (.str x)
  | dict {k : Nat} : Lv k (.dict [])
  | list {k : Nat} {xs : List PyData} (hl : xs.length ≤ 12) (h : ∀ x ∈ xs, Lv k x) : Lv (k + 1) (.list xs)
  | tuple {k : Nat} {xs : List PyData} (hl : xs.length ≤ 12) (h : ∀ x ∈ xs, Lv k x) : Lv (k + 1) (.tuple xs)
theorem Lv.up {k : Nat} {d : PyData} (h : Lv k d) : Lv (k + 1) d := by
  induction h with
  | int h => exact .int h
  | bool => exact .bool
  | none => exact .none
  | str h => exact .str h
  | dict => exact .dict
  | list hl _ ih => exact .list hl ih
  | tuple hl _ ih => exact .tuple hl ih
def nLv : Nat → Nat | 0 => 40 | k + 1 => 12 * (nLv k + 2) + 5
theorem piled_le {n : Nat} : ∀ ts : List Str, (∀ t ∈ ts, t.length ≤ n) → piled ts ≤ ts.length * (n + 2)
  | [], _ => by rw [piled_nil]; exact Nat.zero_le _
  | t :: ts, h => by
    have := piled_le ts fun t ht => h t (List.mem_cons_of_mem _ ht)
    have := h t List.mem_cons_self
    rw [piled_cons, List.length_cons, Nat.succ_mul]; omega
theorem listText_le : ∀ ts : List Str, (listText ts).length ≤ piled ts + 2
  | [] => by rw [piled_nil]; decide
  | t :: ts => by
    show (textFrom 1 ("[" ++ (if 0 > 0 then ", " else "" : String) ++ t) ts ++ "]").length ≤ _
    rw [strLen_append, textFrom_length_pos ts 1 _ (by decide), strLen_append, strLen_append, piled_cons]
    have e1 : (("[" : String) : Str).length = 1 := rfl
    have e2 : (("]" : String) : Str).length = 1 := rfl
    have e3 : ((if 0 > 0 then ", " else "" : String) : Str).length = 0 := rfl
    rw [e1, e2, e3]; omega
theorem tupleText_le (ts : List Str) : (tupleText ts).length ≤ piled ts + 3 := by
  unfold tupleText
  rw [strLen_append, strLen_append]
  have e1 : (("(" : String) : Str).length = 1 := rfl
  have e3 : ((if ts.length == 1 then ",)" else ")" : String) : Str).length ≤ 2 := by split <;> decide
  have e2 : (Str.join ", " ts).length ≤ piled ts := by
    cases ts with
    | nil => decide
    | cons t ts => have := join_length_add (t :: ts) (List.cons_ne_nil _ _); omega
  rw [e1]; omega
theorem shownAll_map : ∀ xs : List PyData, PyData.shownAll xs = xs.map PyData.shown
  | [] => by rw [PyData.shownAll]; rfl
  | x :: xs => by rw [PyData.shownAll, shownAll_map xs]; rfl
theorem showableAll_of : ∀ xs : List PyData, (∀ x ∈ xs, x.showable = true) → PyData.showableAll xs = true
  | [], _ => by rw [PyData.showableAll]
  | x :: xs, h => by rw [PyData.showableAll, h x List.mem_cons_self, showableAll_of xs fun x hx => h x (List.mem_cons_of_mem _ hx)]; rfl
theorem depthAll_of {k : Nat} : ∀ xs : List PyData, (∀ x ∈ xs, x.depth ≤ k) → PyData.depthAll xs ≤ k
  | [], _ => by rw [PyData.depthAll]; exact Nat.zero_le _
  | x :: xs, h => by
    rw [PyData.depthAll]
    exact Nat.max_le.mpr ⟨h x List.mem_cons_self, depthAll_of xs fun x hx => h x (List.mem_cons_of_mem _ hx)⟩
theorem piled_shown {n : Nat} {xs : List PyData} (hl : xs.length ≤ 12) (h : ∀ x ∈ xs, x.shown.length ≤ n) : piled (PyData.shownAll xs) ≤ 12 * (n + 2) := by
  rw [shownAll_map]
  refine Nat.le_trans (piled_le (n := n) _ fun t ht => ?_) (by rw [List.length_map]; exact Nat.mul_le_mul_right _ hl)
  obtain ⟨x, hx, rfl⟩ := List.mem_map.mp ht
  exact h x hx
theorem nLv_ge : ∀ k, 40 ≤ nLv k
  | 0 => Nat.le_refl _
  | k + 1 => by have := nLv_ge k; rw [nLv]; omega
theorem Lv.shows {k : Nat} {d : PyData} (h : Lv k d) : d.showable = true ∧ d.depth ≤ k + 1 ∧ d.shown.length ≤ nLv k := by
  induction h with
  | @int k i h =>
    refine ⟨?_, by rw [PyData.depth]; exact Nat.zero_le _, ?_⟩
    · rw [PyData.showable, decide_eq_true_eq]
      by_cases h0 : i.natAbs = 0
      · rw [h0]; decide
      · exact Nat.lt_trans ((Nat.log2_lt h0).mpr (Nat.lt_trans h (by decide)) : i.natAbs.log2 < 100) (by decide)
    · have := int_text_length_le10 (a := i) (k := 30) (by decide) h
      rw [PyData.shown, PySem.ofString_length]
      have := nLv_ge k
      omega
  | @bool k b =>
    refine ⟨by rw [PyData.showable], by rw [PyData.depth]; exact Nat.zero_le _, Nat.le_trans ?_ (nLv_ge k)⟩
    rw [PyData.shown]
    cases b <;> decide
  | @none k => exact ⟨by rw [PyData.showable], by rw [PyData.depth]; exact Nat.zero_le _, Nat.le_trans (by rw [PyData.shown]; decide) (nLv_ge k)⟩
  | @str k x h => exact ⟨by rw [PyData.showable], by rw [PyData.depth]; exact Nat.zero_le _, Nat.le_trans (by rw [PyData.shown]; exact h) (nLv_ge k)⟩
  | @dict k => exact ⟨by rw [PyData.showable, PyData.showableKv], by rw [PyData.depth, PyData.depthKv]; omega, Nat.le_trans (by rw [PyData.shown, PyData.shownKv]; decide) (nLv_ge k)⟩
  | @list k xs hl _ ih =>
    refine ⟨by rw [PyData.showable]; exact showableAll_of xs fun x hx => (ih x hx).1, by rw [PyData.depth]; exact Nat.succ_le_succ (depthAll_of xs fun x hx => (ih x hx).2.1), ?_⟩
    have := piled_shown hl fun x hx => (ih x hx).2.2
    have := listText_le (PyData.shownAll xs)
    rw [PyData.shown, nLv]; omega
  | @tuple k xs hl _ ih =>
    refine ⟨by rw [PyData.showable]; exact showableAll_of xs fun x hx => (ih x hx).1, by rw [PyData.depth]; exact Nat.succ_le_succ (depthAll_of xs fun x hx => (ih x hx).2.1), ?_⟩
    have := piled_shown hl fun x hx => (ih x hx).2.2
    have := tupleText_le (PyData.shownAll xs)
    rw [PyData.shown, nLv]; omega
theorem Lv.ok {d : PyData} (h : Lv 4 d) : ShowOk d := by
  obtain ⟨a, b, c⟩ := h.shows
  unfold ShowOk
  have : nLv 4 ≤ 16777216 := by decide
  rw [a, decide_eq_true (show d.depth ≤ 60 by omega), decide_eq_true (show d.shown.length ≤ 16777216 by omega)]; rfl
theorem Lv.l {k : Nat} {xs : List PyData} (h : Lv k (.list xs)) : xs.length ≤ 12 ∧ ∀ x ∈ xs, Lv k x := by
  cases h with
  | list hl h => exact ⟨hl, fun x hx => (h x hx).up⟩
theorem Lv.t {k : Nat} {xs : List PyData} (h : Lv k (.tuple xs)) : xs.length ≤ 12 ∧ ∀ x ∈ xs, Lv k x := by
  cases h with
  | tuple hl h => exact ⟨hl, fun x hx => (h x hx).up⟩
theorem Lv.strs {k : Nat} : Lv k (.str ("" : Str)) ∧ Lv k (.str ("0" : Str)) ∧ Lv k (.str ("a" : Str)) ∧ Lv k (.str ("01" : Str)) ∧ Lv k (.str ("10" : Str)) ∧ Lv k (.str ("10 13" : Str)) :=
  ⟨.str (by decide +kernel), .str (by decide +kernel), .str (by decide +kernel), .str (by decide +kernel), .str (by decide +kernel), .str (by decide +kernel)⟩
/-! #### what a rule is, over data of any kind -/
def figB (b : Int) : PyData → Bool | .int i => decide (0 ≤ i) && decide (i < b) | _ => false
def strB (b : Int) : PyData → Bool | .list xs => xs.all (figB b) && (decide (1 ≤ xs.length) && decide (xs.length ≤ 4)) | _ => false
/-- strictly rising, by places -/
def RuleD (d : PyData) : Prop := ∃ (b : Int) (ys : List PyData), d = .tuple [.int b, .list ys] ∧ 2 ≤ b ∧ b ≤ 16 ∧ ys.length ≤ 4 ∧
  (∀ y ∈ ys, strB b y = true) ∧ ∀ k (h : k + 1 < ys.length), PySem.W.dataLt ys[k] ys[k + 1] = true
theorem strB_ints {b : Int} {d : PyData} (h : strB b d = true) : ∃ ns : List Int, d = TD.d ns := by
  cases d with
  | list xs =>
    rw [strB, Bool.and_eq_true] at h
    have h := List.all_eq_true.mp h.1
    refine ⟨xs.map fun x => (asInt x).getD 0, ?_⟩
    show _ = PyData.list _
    rw [List.map_map]
    refine congrArg PyData.list ((List.map_id xs).symm.trans (List.map_congr_left fun x hx => ?_))
    have := h x hx
    cases x with
    | int i => rfl
    | none => exact absurd this Bool.false_ne_true
    | bool _ => exact absurd this Bool.false_ne_true
    | str _ => exact absurd this Bool.false_ne_true
    | list _ => exact absurd this Bool.false_ne_true
    | tuple _ => exact absurd this Bool.false_ne_true
    | dict _ => exact absurd this Bool.false_ne_true
  | none => exact absurd h Bool.false_ne_true
  | int _ => exact absurd h Bool.false_ne_true
  | bool _ => exact absurd h Bool.false_ne_true
  | str _ => exact absurd h Bool.false_ne_true
  | tuple _ => exact absurd h Bool.false_ne_true
  | dict _ => exact absurd h Bool.false_ne_true
theorem LtOk_ints (xs ys : List Int) : LtOk (TD.d xs) (TD.d ys) := by
  unfold LtOk
  have h1 := SO.alike xs ys
  have h2 := TB.lay xs
  have h3 := TB.lay ys
  have h4 : (TD.d xs).depth ≤ 64 := Nat.le_trans (TB.dle xs) (by decide)
  rw [h1, h2, h3, decide_eq_true h4]; rfl
theorem strB_lt {b : Int} {x y : PyData} (h : strB b x = true) (k : strB b y = true) : LtOk x y := by
  obtain ⟨xs, rfl⟩ := strB_ints h
  obtain ⟨ys, rfl⟩ := strB_ints k
  exact LtOk_ints xs ys
theorem nt : ¬ (!true) = true := by decide
theorem getD_at {xs : List PyData} {k : Nat} (h : k < xs.length) : xs.getD k .none = xs[k] := by
  rw [List.getD_eq_getElem?_getD, List.getElem?_eq_getElem h]; rfl
/-! #### is_rule -/
theorem is_figure_D (b : Int) (d : PyData) : is_figure b d = some (figB b d) := by
  unfold is_figure is_whole
  cases d with
  | int i =>
    show (if decide ((0 : Int) ≤ i) = true then some (decide (i < b)) else some false) = some (decide (0 ≤ i) && decide (i < b))
    cases decide ((0 : Int) ≤ i) <;> rfl
  | bool _ => rfl
  | none => rfl
  | str _ => rfl
  | list _ => rfl
  | tuple _ => rfl
  | dict _ => rfl
theorem are_figures_D (b : Int) {xs : List PyData} (hl : xs.length ≤ 12) : are_figures b (.list xs) = some (xs.all (figB b)) := by
  unfold are_figures
  rw [if_pos (by exact rfl), asLst, Option.bind_some, forK_fm (p := fun x => !figB b x) (g := fun x => x) (B := 16777216) (fun acc x next hl => by rw [are_figures_c1, is_figure_D, Option.bind_some, if_pos hl]) _ _ (by rw [List.length_nil]; omega)]
  rw [are_figures_k2, List.nil_append, List.map_id']
  refine congrArg some (Bool.eq_iff_iff.mpr ?_)
  rw [List.isEmpty_iff, List.filter_eq_nil_iff, List.all_eq_true]
  exact forall_congr' fun x => forall_congr' fun _ => by cases figB b x <;> simp
theorem is_stretch_D (b : Int) {d : PyData} (h : Lv 5 d) : is_stretch b d = some (strB b d) := by
  unfold is_stretch
  cases d with
  | list xs =>
    rw [are_figures_D b h.l.1, Option.bind_some, strB]
    cases xs.all (figB b) with
    | false => rfl
    | true =>
      show (if decide ((1 : Int) ≤ (xs.length : Int)) = true then some (decide ((xs.length : Int) ≤ 4)) else some false) = some (true && _)
      by_cases h1 : 1 ≤ xs.length
      · rw [if_pos (by rw [decide_eq_true_eq]; omega), decide_eq_true h1]
        refine congrArg some ?_
        show _ = decide (xs.length ≤ 4)
        exact decide_eq_decide.mpr (by omega)
      · rw [if_neg (by rw [decide_eq_true_eq]; omega), decide_eq_false h1]; rfl
  | bool _ => rfl
  | none => rfl
  | str _ => rfl
  | int _ => rfl
  | tuple _ => rfl
  | dict _ => rfl
/-- the answer is what `p` says -/
def Says (p : Prop) (o : Option Bool) : Prop := Ok o fun r => r = true ↔ p
theorem Says.f {p : Prop} (h : ¬ p) : Says p (some false) := ⟨_, rfl, fun e => absurd e Bool.false_ne_true, fun e => absurd e h⟩
theorem Says.t {p : Prop} (h : p) : Says p (some true) := ⟨_, rfl, fun _ => h, fun _ => rfl⟩
theorem RuleD.no {d : PyData} (h : ∀ b ys, d ≠ .tuple [.int b, .list ys]) : ¬ RuleD d := fun ⟨b, ys, e, _⟩ => h b ys e
theorem is_rule_pair {a c : PyData} (h : Lv 5 (.tuple [a, c])) : Says (RuleD (.tuple [a, c])) (is_rule (.tuple [a, c])) := by
  unfold is_rule
  rw [if_neg (by exact nt), asSeq, Option.bind_some, if_neg (by exact nt)]
  show Says _ ((is_base a).bind _)
  cases a with
  | int b =>
    show Says _ ((if decide ((2 : Int) ≤ b) = true then some (decide (b ≤ 16)) else some false).bind _)
    by_cases h2 : 2 ≤ b
    case neg =>
      rw [if_neg (by rw [decide_eq_true_eq]; exact h2), Option.bind_some, if_pos (by exact rfl)]
      refine .f ?_
      rintro ⟨b', ys, e, h2', _⟩
      injection e with e; injection e with e1 e2; injection e1 with e1
      omega
    rw [if_pos (decide_eq_true h2), Option.bind_some]
    by_cases h16 : b ≤ 16
    case neg =>
      rw [decide_eq_false h16, if_pos (by exact rfl)]
      refine .f ?_
      rintro ⟨b', ys, e, _, h2', _⟩
      injection e with e; injection e with e1 e2; injection e1 with e1
      omega
    rw [decide_eq_true h16, if_neg (by decide)]
    show Says _ (if (!isLstD c) = true then _ else _)
    cases c with
    | list ys =>
      have hc : Lv 5 (.list ys) := h.t.2 _ (List.mem_cons_of_mem _ List.mem_cons_self)
      rw [if_neg (by exact nt)]
      show Says _ (if decide ((4 : Int) < (ys.length : Int)) = true then _ else _)
      by_cases h4 : ys.length ≤ 4
      case neg =>
        rw [if_pos (by rw [decide_eq_true_eq]; omega)]
        refine .f ?_
        rintro ⟨b', ys', e, _, _, h4', _⟩
        injection e with e; injection e with e1 e2; injection e2 with e2 _; injection e2 with e2; subst e2
        exact h4 h4'
      rw [if_neg (by rw [decide_eq_true_eq]; omega)]
      show Says _ (forK (is_rule_c1 (PyData.int b, PyData.list ys)) ys [] (is_rule_k2 ys (PyData.int b, PyData.list ys)))
      rw [forK_fmM (p := fun y => !strB b y) (g := fun x => x) (B := 16777216) _ _ (fun acc x next hx hl => by
        rw [is_rule_c1]
        show ((is_stretch b x).bind _) = _
        rw [is_stretch_D b (hc.l.2 x hx), Option.bind_some, if_pos hl]) (by rw [List.length_nil]; omega)]
      rw [List.nil_append, List.map_id', is_rule_k2]
      by_cases hs : ∀ y ∈ ys, strB b y = true
      case neg =>
        rw [if_pos]
        · refine .f ?_
          rintro ⟨b', ys', e, _, _, _, hs', _⟩
          injection e with e; injection e with e1 e2; injection e2 with e2 _; injection e2 with e2; injection e1 with e1; subst e2; subst e1
          exact hs hs'
        · rw [Bool.not_eq_true', ← Bool.not_eq_true, List.isEmpty_iff, List.filter_eq_nil_iff]
          exact fun h => hs fun y hy => by have := h y hy; simpa using this
      rw [if_neg]
      case hnc =>
        rw [Bool.not_eq_true', Bool.not_eq_false, List.isEmpty_iff, List.filter_eq_nil_iff]
        exact fun y hy => by rw [hs y hy]; decide
      rw [if_pos ⟨by decide, by decide, by omega, by omega⟩]
      have hp : ∀ k (h : k + 1 < ys.length), LtOk ys[k] ys[k + 1] := fun k h => strB_lt (hs _ (List.getElem_mem _)) (hs _ (List.getElem_mem _))
      rw [forK_fmM (p := fun t : Int => !PySem.W.dataLt (ys.getD (t - 1).toNat .none) (ys.getD t.toNat .none)) (g := fun x => x) (B := 16777216) _ _ (fun acc x next hx hl => by
        have hx := irange_mem.mp hx
        obtain ⟨k, hk⟩ : ∃ k : Nat, x = k + 1 := ⟨(x - 1).toNat, by omega⟩
        have l1 : k < ys.length := by omega
        have l2 : k + 1 < ys.length := by omega
        rw [is_rule_c3]
        show ((atI ys (x - 1)).bind fun x13 => ((atI ys x).bind fun x15 => _)) = _
        rw [atI_get (k := k) (by omega) l1, Option.bind_some, atI_get (k := k + 1) (by omega) l2, Option.bind_some, if_pos (hp k l2), if_pos hl, show (x - 1).toNat = k by omega, show x.toNat = k + 1 by omega, getD_at l1, getD_at l2]) (by rw [List.length_nil]; rw [irange_len]; omega)]
      rw [List.nil_append, List.map_id', is_rule_k4]
      refine ⟨_, rfl, ?_⟩
      dsimp only
      rw [eqT_iff, List.filter_eq_nil_iff]
      constructor
      · intro hh
        refine ⟨b, ys, rfl, h2, h16, h4, hs, fun k hk => ?_⟩
        have := hh (k + 1 : Nat) (irange_mem.mpr (by omega))
        rw [show ((k + 1 : Nat) - 1 : Int).toNat = k by omega, show ((k + 1 : Nat) : Int).toNat = k + 1 by omega, getD_at (by omega), getD_at hk] at this
        simpa using this
      · rintro ⟨b', ys', e, _, _, _, _, hh⟩
        injection e with e; injection e with e1 e2; injection e2 with e2 _; injection e2 with e2; injection e1 with e1; subst e2; subst e1
        intro x hx
        have hx := irange_mem.mp hx
        obtain ⟨k, hk⟩ : ∃ k : Nat, x = k + 1 := ⟨(x - 1).toNat, by omega⟩
        have l2 : k + 1 < ys.length := by omega
        rw [show (x - 1).toNat = k by omega, show x.toNat = k + 1 by omega, getD_at (by omega), getD_at l2, hh k l2]
        decide
    | bool _ => exact .f (RuleD.no fun _ _ h => nomatch h)
    | none => exact .f (RuleD.no fun _ _ h => nomatch h)
    | str _ => exact .f (RuleD.no fun _ _ h => nomatch h)
    | int _ => exact .f (RuleD.no fun _ _ h => nomatch h)
    | tuple _ => exact .f (RuleD.no fun _ _ h => nomatch h)
    | dict _ => exact .f (RuleD.no fun _ _ h => nomatch h)
  | bool _ => exact .f (RuleD.no fun _ _ h => nomatch h)
  | none => exact .f (RuleD.no fun _ _ h => nomatch h)
  | str _ => exact .f (RuleD.no fun _ _ h => nomatch h)
  | list _ => exact .f (RuleD.no fun _ _ h => nomatch h)
  | tuple _ => exact .f (RuleD.no fun _ _ h => nomatch h)
  | dict _ => exact .f (RuleD.no fun _ _ h => nomatch h)
theorem is_rule_D {d : PyData} (h : Lv 5 d) : Says (RuleD d) (is_rule d) := by
  cases d with
  | tuple xs =>
    match xs, h with
    | [a, c], h => exact is_rule_pair h
    | [], _ => exact .f (RuleD.no fun _ _ h => nomatch h)
    | [a], _ => exact .f (RuleD.no fun _ _ h => nomatch h)
    | a :: c :: e :: r, _ =>
      unfold is_rule
      rw [if_neg (by exact nt), asSeq, Option.bind_some, if_pos (by rw [Bool.not_eq_true', decide_eq_false_iff_not, List.length_cons, List.length_cons, List.length_cons]; omega)]
      exact .f (RuleD.no fun _ _ h => nomatch h)
  | bool _ => exact .f (RuleD.no fun _ _ h => nomatch h)
  | none => exact .f (RuleD.no fun _ _ h => nomatch h)
  | str _ => exact .f (RuleD.no fun _ _ h => nomatch h)
  | int _ => exact .f (RuleD.no fun _ _ h => nomatch h)
  | list _ => exact .f (RuleD.no fun _ _ h => nomatch h)
  | dict _ => exact .f (RuleD.no fun _ _ h => nomatch h)
/-! #### _law_is_rule -/
theorem law_b3_D (b : Int) (d : PyData) (next : Unit → Option Bool) : _law_is_rule_b3 b () d next = if (!figB b d) = true then some false else next () := by
  cases d with
  | int i =>
    show (if decide ((0 : Int) ≤ i) = true then (if (!(decide (i < b))) = true then (some false) else (next ())) else (some false)) = if (!(decide (0 ≤ i) && decide (i < b))) = true then some false else next ()
    cases decide ((0 : Int) ≤ i) <;> rfl
  | bool _ => rfl
  | none => rfl
  | str _ => rfl
  | list _ => rfl
  | tuple _ => rfl
  | dict _ => rfl
theorem law_b1_D (b : Int) (x : PyData) (k : Nat) (thing : PyData) (next : Unit → Option Bool) : _law_is_rule_b1 b thing () (x, k) next = if strB b x = true then _law_is_rule_e4 (x, k) thing next () else some false := by
  cases x with
  | list xs =>
    rw [_law_is_rule_b1, if_neg (by exact nt)]
    show (if decide ((1 : Int) ≤ (xs.length : Int)) = true then (if (!(decide ((xs.length : Int) ≤ (4 : Int)))) = true then (some false) else forK (_law_is_rule_b3 b) xs () (_law_is_rule_e4 (.list xs, k) thing next)) else some false) = _
    by_cases h1 : 1 ≤ xs.length
    case neg =>
      rw [if_neg (by rw [decide_eq_true_eq]; omega), if_neg]
      rw [strB, decide_eq_false h1, Bool.false_and, Bool.and_false]; decide
    rw [if_pos (by rw [decide_eq_true_eq]; omega)]
    by_cases h4 : xs.length ≤ 4
    case neg =>
      rw [if_pos (by rw [Bool.not_eq_true', decide_eq_false_iff_not]; omega), if_neg]
      rw [strB, decide_eq_false h4, Bool.and_false, Bool.and_false]; decide
    rw [if_neg (by rw [Bool.not_eq_true', Bool.not_eq_false, decide_eq_true_eq]; omega), forK_stop (fun x next => law_b3_D b x next)]
    rw [strB, decide_eq_true h1, decide_eq_true h4, Bool.and_self, Bool.and_true]
    rw [List.any_eq_not_all_not]
    simp only [Bool.not_not]
    cases xs.all (figB b) <;> rfl
  | bool _ => rfl
  | none => rfl
  | str _ => rfl
  | int _ => rfl
  | tuple _ => rfl
  | dict _ => rfl
def GoodL (b : Int) (ys : List PyData) : Prop := (∀ y ∈ ys, strB b y = true) ∧ ∀ k (h : k + 1 < ys.length), PySem.W.dataLt ys[k] ys[k + 1] = true
theorem lir_loop {b : Int} {ys : List PyData} {K : Unit → Option Bool} (hK : K () = some true) : ∀ (rest pre : List PyData), ys = pre ++ rest → GoodL b pre →
    Says (GoodL b ys) (forK (_law_is_rule_b1 b (.tuple [.int b, .list ys])) (List.zipIdx rest pre.length) () K)
  | [], pre, e, g => by
    rw [List.append_nil] at e
    subst e
    show Says _ (K ())
    rw [hK]
    exact .t g
  | x :: rest, pre, e, g => by
    have hx : x ∈ ys := by rw [e]; exact List.mem_append_right _ List.mem_cons_self
    have e' : ys = (pre ++ [x]) ++ rest := by rw [e, List.append_assoc]; rfl
    rw [List.zipIdx_cons]
    show Says _ (_law_is_rule_b1 b _ () (x, pre.length) fun s => forK _ (List.zipIdx rest (pre.length + 1)) s K)
    rw [law_b1_D]
    cases hs : strB b x with
    | false => exact .f fun h => by rw [h.1 x hx] at hs; exact absurd hs (by decide)
    | true =>
      rw [if_pos rfl]
      have ih := fun (g' : GoodL b (pre ++ [x])) => lir_loop (K := K) hK rest (pre ++ [x]) e' g'
      rw [List.length_append, List.length_singleton] at ih
      have hall : ∀ y ∈ pre ++ [x], strB b y = true := fun y hy => (List.mem_append.mp hy).elim (g.1 y) fun h => by rw [List.mem_singleton.mp h]; exact hs
      rw [_law_is_rule_e4]
      by_cases h0 : 0 < pre.length
      · obtain ⟨k, hk⟩ : ∃ k, pre.length = k + 1 := ⟨pre.length - 1, by omega⟩
        have lk : k < ys.length := by rw [e, List.length_append]; omega
        have yk : ys[k] = pre[k] := by simp only [e]; rw [List.getElem_append_left (by omega)]
        rw [if_pos (by rw [decide_eq_true_eq]; show (0 : Int) < ((pre.length : Nat) : Int); omega)]
        show Says _ ((atI ys ((pre.length : Int) - 1)).bind _)
        rw [atI_get (k := k) (by omega) lk, Option.bind_some, yk, if_pos (strB_lt (g.1 _ (List.getElem_mem _)) hs)]
        dsimp only
        cases hd : PySem.W.dataLt pre[k] x with
        | false =>
          rw [if_pos (by exact rfl)]
          refine .f fun h => ?_
          have l2 : k + 1 < ys.length := by rw [e, List.length_append, List.length_cons]; omega
          have := h.2 k l2
          have y2 : ys[k + 1] = x := by
            simp only [e]
            rw [List.getElem_append_right (by omega)]
            simp only [hk, Nat.sub_self, List.getElem_cons_zero]
          rw [yk, y2, hd] at this
          exact absurd this (by decide)
        | true =>
          rw [if_neg (by exact nt)]
          refine ih ⟨hall, fun j hj => ?_⟩
          rw [List.length_append, List.length_singleton] at hj
          by_cases hjk : j + 1 < pre.length
          · rw [List.getElem_append_left hjk, List.getElem_append_left (by omega)]
            exact g.2 j hjk
          · have : j = k := by omega
            subst this
            rw [List.getElem_append_left (by omega), List.getElem_append_right (by omega)]
            simp only [hk, Nat.sub_self, List.getElem_cons_zero]
            exact hd
      · rw [if_neg (by rw [decide_eq_true_eq]; show ¬ (0 : Int) < ((pre.length : Nat) : Int); omega)]
        refine ih ⟨hall, fun j hj => ?_⟩
        rw [List.length_append, List.length_singleton] at hj
        omega
theorem law_is_rule_pair (a c : PyData) : Says (RuleD (.tuple [a, c])) (_law_is_rule (.tuple [a, c])) := by
  unfold _law_is_rule
  rw [if_neg (by exact nt), asSeq, Option.bind_some, if_neg (by exact nt)]
  show Says _ (if (!(isLstD c)) = true then (some false) else _)
  cases c with
  | list ys =>
    rw [if_neg (by exact nt)]
    show Says _ (if decide ((4 : Int) < (ys.length : Int)) = true then _ else _)
    by_cases h4 : ys.length ≤ 4
    case neg =>
      rw [if_pos (by rw [decide_eq_true_eq]; omega)]
      refine .f ?_
      rintro ⟨b', ys', e, _, _, h4', _⟩
      injection e with e; injection e with e1 e2; injection e2 with e2 _; injection e2 with e2; subst e2
      exact h4 h4'
    rw [if_neg (by rw [decide_eq_true_eq]; omega)]
    cases a with
    | int b =>
      show Says _ (if decide ((2 : Int) ≤ b) = true then (if (!(decide (b ≤ (16 : Int)))) = true then (some false) else forK (_law_is_rule_b1 b (.tuple [.int b, .list ys])) (List.zipIdx ys 0) () _law_is_rule_e2) else some false)
      by_cases h2 : 2 ≤ b
      case neg =>
        rw [if_neg (by rw [decide_eq_true_eq]; exact h2)]
        refine .f ?_
        rintro ⟨b', ys, e, h2', _⟩
        injection e with e; injection e with e1 e2; injection e1 with e1
        omega
      rw [if_pos (decide_eq_true h2)]
      by_cases h16 : b ≤ 16
      case neg =>
        rw [decide_eq_false h16, if_pos (by exact rfl)]
        refine .f ?_
        rintro ⟨b', ys, e, _, h2', _⟩
        injection e with e; injection e with e1 e2; injection e1 with e1
        omega
      rw [decide_eq_true h16, if_neg (by exact nt)]
      obtain ⟨r, e1, e2⟩ := lir_loop (K := _law_is_rule_e2) (b := b) (ys := ys) rfl ys [] rfl ⟨fun _ h => absurd h List.not_mem_nil, fun k h => absurd h (Nat.not_lt_zero _)⟩
      refine ⟨r, e1, e2.trans ?_⟩
      constructor
      · exact fun g => ⟨b, ys, rfl, h2, h16, h4, g.1, g.2⟩
      · rintro ⟨b', ys', e, _, _, _, g⟩
        injection e with e; injection e with e1 e2; injection e2 with e2 _; injection e2 with e2; injection e1 with e1; subst e2; subst e1
        exact g
    | bool _ => exact .f (RuleD.no fun _ _ h => nomatch h)
    | none => exact .f (RuleD.no fun _ _ h => nomatch h)
    | str _ => exact .f (RuleD.no fun _ _ h => nomatch h)
    | list _ => exact .f (RuleD.no fun _ _ h => nomatch h)
    | tuple _ => exact .f (RuleD.no fun _ _ h => nomatch h)
    | dict _ => exact .f (RuleD.no fun _ _ h => nomatch h)
  | bool _ => exact .f (RuleD.no fun _ _ h => nomatch h)
  | none => exact .f (RuleD.no fun _ _ h => nomatch h)
  | str _ => exact .f (RuleD.no fun _ _ h => nomatch h)
  | int _ => exact .f (RuleD.no fun _ _ h => nomatch h)
  | tuple _ => exact .f (RuleD.no fun _ _ h => nomatch h)
  | dict _ => exact .f (RuleD.no fun _ _ h => nomatch h)
theorem law_is_rule_D (d : PyData) : Says (RuleD d) (_law_is_rule d) := by
  cases d with
  | tuple xs =>
    match xs with
    | [a, c] => exact law_is_rule_pair a c
    | [] => exact .f (RuleD.no fun _ _ h => nomatch h)
    | [a] => exact .f (RuleD.no fun _ _ h => nomatch h)
    | a :: c :: e :: r =>
      unfold _law_is_rule
      rw [if_neg (by exact nt), asSeq, Option.bind_some, if_pos (by rw [Bool.not_eq_true', decide_eq_false_iff_not, List.length_cons, List.length_cons, List.length_cons]; omega)]
      exact .f (RuleD.no fun _ _ h => nomatch h)
  | bool _ => exact .f (RuleD.no fun _ _ h => nomatch h)
  | none => exact .f (RuleD.no fun _ _ h => nomatch h)
  | str _ => exact .f (RuleD.no fun _ _ h => nomatch h)
  | int _ => exact .f (RuleD.no fun _ _ h => nomatch h)
  | list _ => exact .f (RuleD.no fun _ _ h => nomatch h)
  | dict _ => exact .f (RuleD.no fun _ _ h => nomatch h)
/-! #### the draws -/
theorem all_n {α : Type} {P : α → Prop} : ∀ x ∈ ([] : List α), P x := fun _ h => absurd h List.not_mem_nil
theorem all_c {α : Type} {P : α → Prop} {a : α} {l : List α} (h : P a) (t : ∀ x ∈ l, P x) : ∀ x ∈ a :: l, P x := fun x hx => (List.mem_cons.mp hx).elim (fun e => by rw [e]; exact h) (t x)
theorem all_a {α : Type} {P : α → Prop} {k l : List α} (h : ∀ x ∈ k, P x) (t : ∀ x ∈ l, P x) : ∀ x ∈ k ++ l, P x := fun x hx => (List.mem_append.mp hx).elim (h x) (t x)
theorem all_m {α β : Type} {P : β → Prop} {f : α → β} {l : List α} (h : ∀ x ∈ l, P (f x)) : ∀ x ∈ l.map f, P x := fun x hx => by
  obtain ⟨y, hy, rfl⟩ := List.mem_map.mp hx
  exact h y hy
theorem atI_ok {α : Type} {P : α → Prop} {xs : List α} {i : Int} (h : ∀ x ∈ xs, P x) (h0 : 0 ≤ i) (h1 : i < xs.length) : Ok (atI xs i) P := by
  obtain ⟨x, e, _, m⟩ := atI_lt h0 h1
  exact ⟨x, e, h x m⟩
theorem cutT_le {α : Type} (xs : List α) (a b : Option Int) : (cutT xs a b).length ≤ xs.length := by
  unfold cutT
  rw [List.length_take, List.length_drop]
  omega
theorem cutT_all {α : Type} {P : α → Prop} {xs : List α} {a b : Option Int} (h : ∀ x ∈ xs, P x) : ∀ x ∈ cutT xs a b, P x := fun x hx => by
  unfold cutT at hx
  exact h x (List.mem_of_mem_drop (List.mem_of_mem_take hx))
def Sm (i : Int) : Prop := 0 ≤ i ∧ i < 17
instance (i : Int) : Decidable (Sm i) := inferInstanceAs (Decidable (_ ∧ _))
theorem Sm.lv {k : Nat} {i : Int} (h : Sm i) : Lv k (.int i) := .int (by obtain ⟨a, b⟩ := h; omega)
theorem Lv.ints {k : Nat} {xs : List Int} (hl : xs.length ≤ 12) (h : ∀ x ∈ xs, Sm x) : Lv (k + 1) (.list (xs.map fun z => .int z)) :=
  .list (by rw [List.length_map]; exact hl) (all_m fun x hx => (h x hx).lv)
theorem Lv.intsT {k : Nat} {xs : List Int} (hl : xs.length ≤ 12) (h : ∀ x ∈ xs, Sm x) : Lv (k + 1) (.tuple (xs.map fun z => .int z)) :=
  .tuple (by rw [List.length_map]; exact hl) (all_m fun x hx => (h x hx).lv)
/-- a row of figures -/
def Rw (xs : List Int) : Prop := xs.length ≤ 4 ∧ ∀ x ∈ xs, Sm x
theorem Lv.rows {k : Nat} {xs : List (List Int)} (hl : xs.length ≤ 12) (h : ∀ x ∈ xs, Rw x) : Lv (k + 2) (.list (xs.map fun z => .list (z.map fun z => .int z))) :=
  .list (by rw [List.length_map]; exact hl) (all_m fun x hx => .ints (Nat.le_trans (h x hx).1 (by decide)) (h x hx).2)
theorem Lv.rowsT {k : Nat} {xs : List (List Int)} (hl : xs.length ≤ 12) (h : ∀ x ∈ xs, Rw x) : Lv (k + 2) (.tuple (xs.map fun z => .list (z.map fun z => .int z))) :=
  .tuple (by rw [List.length_map]; exact hl) (all_m fun x hx => .ints (Nat.le_trans (h x hx).1 (by decide)) (h x hx).2)
theorem no_base_ok {st : DkS} (h : DkOk st) : Ok (_law_no_base st) fun p => Lv 1 p.1 ∧ DkOk p.2 := by
  unfold _law_no_base
  refine (draw_ok h (by decide) (by decide)).bind fun ⟨r1, st1⟩ ⟨⟨a1, a2⟩, h1⟩ => ?_
  refine (draw_ok h1 (by decide) (by decide)).bind fun ⟨r2, st2⟩ ⟨⟨a3, a4⟩, h2⟩ => ?_
  have a1 : 0 ≤ r1 := a1
  have a2 : r1 < 90 := a2
  have a3 : 0 ≤ r2 := a3
  have a4 : r2 < 90 := a4
  dsimp only
  rw [Option.bind_some]
  refine Ok.guard (by simp only [List.length_cons, List.length_nil]; omega) ?_
  refine (draw_ok h2 (by decide) (by decide)).bind fun ⟨r3, st3⟩ ⟨⟨a5, a6⟩, h3⟩ => ?_
  have a5 : 0 ≤ r3 := a5
  have a6 : r3 < 16 := a6
  dsimp only
  refine Ok.bind (P := Lv 1) (atI_ok ?_ a5 (by simp only [List.length_append, List.length_cons, List.length_nil]; omega)) fun x hx => Ok.mk ⟨hx, h3⟩
  refine all_a ?_ ?_
  · refine all_c (.int (by decide)) <| all_c (.int (by decide)) <| all_c (.int (by decide)) <| all_c (.int (by decide)) <| all_c (.int (by omega)) <| all_c (.int (by omega)) <| all_c (.int (by decide)) <| all_c .bool <| all_c .bool <| all_c .none <| all_c Lv.strs.2.2.2.2.1 <| all_c (.ints (by decide) (all_c ⟨by decide, by decide⟩ all_n)) all_n
  · exact all_c (.tuple (by decide) (all_c (.int (by decide)) all_n)) <| all_c .dict <| all_c Lv.strs.1 <| all_c (.list (by decide) all_n) all_n
theorem odd_figure_ok {st : DkS} {b : Int} (h : DkOk st) (hb : 2 ≤ b) (h16 : b ≤ 16) : Ok (_law_odd_figure st b) fun p => Lv 1 p.1 ∧ DkOk p.2 := by
  unfold _law_odd_figure
  refine (draw_ok h (by decide) (by decide)).bind fun ⟨r1, st1⟩ ⟨⟨a1, a2⟩, h1⟩ => ?_
  refine (draw_ok h1 (by decide) (by decide)).bind fun ⟨r2, st2⟩ ⟨⟨a3, a4⟩, h2⟩ => ?_
  have a1 : 0 ≤ r1 := a1
  have a2 : r1 < 30 := a2
  have a3 : 0 ≤ r2 := a3
  have a4 : r2 < 9 := a4
  dsimp only
  rw [Option.bind_some]
  refine Ok.guard (by simp only [List.length_cons, List.length_nil]; omega) ?_
  refine (draw_ok h2 (by decide) (by decide)).bind fun ⟨r3, st3⟩ ⟨⟨a5, a6⟩, h3⟩ => ?_
  have a5 : 0 ≤ r3 := a5
  have a6 : r3 < 16 := a6
  dsimp only
  refine Ok.bind (P := Lv 1) (atI_ok ?_ a5 (by simp only [List.length_append, List.length_cons, List.length_nil]; omega)) fun x hx => Ok.mk ⟨hx, h3⟩
  refine all_a ?_ ?_
  · exact all_c (.int (by omega)) <| all_c (.int (by omega)) <| all_c (.int (by decide)) <| all_c (.int (by omega)) <| all_c .bool <| all_c .bool <| all_c .none <| all_c Lv.strs.2.1 <| all_c Lv.strs.2.2.1 <| all_c (.ints (by decide) (all_c ⟨by decide, by decide⟩ all_n)) <| all_c (.tuple (by decide) (all_c (.int (by decide)) all_n)) <| all_c .dict all_n
  · exact all_c Lv.strs.1 <| all_c (.int (by decide)) <| all_c (.int (by decide)) <| all_c (.list (by decide) all_n) all_n
theorem GoodRule.rows {rule : Int × List (List Int)} (g : GoodRule rule) : ∀ s ∈ rule.2, Rw s := fun s hs => ⟨(g.figs s hs).2.2, fun x hx => by
  have := (g.figs s hs).1 x hx
  have := g.hi
  exact ⟨by omega, by omega⟩⟩
theorem no_rule_ok {st : DkS} {rule : Int × List (List Int)} (h : DkOk st) (g : GoodRule rule) : Ok (_law_no_rule st rule) fun p => Lv 4 p.1 ∧ DkOk p.2 := by
  have few := g.few
  have rows := g.rows
  have lo := g.lo
  have hi := g.hi
  have e4 : (List.replicate (4 : Int).toNat ([(0 : Int)] : (List Int))).flatten = [0, 0, 0, 0] := rfl
  unfold _law_no_rule
  refine (draw_ok h (by omega) (by omega)).bind fun ⟨r1, st1⟩ ⟨⟨a1, a2⟩, h1⟩ => ?_
  have a1 : 0 ≤ r1 := a1
  have a2 : r1 < rule.2.length + 1 := a2
  dsimp only
  refine Ok.guard (by first | omega | (simp only [List.length_append, List.length_map, List.length_cons, List.length_nil, List.length_reverse]; omega)) ?_
  refine Ok.bind (P := Rw) (atI_ok (all_a rows (all_c ⟨by decide, all_c ⟨by decide, by decide⟩ (all_c ⟨by decide, by decide⟩ all_n)⟩ all_n)) a1 (by rw [List.length_append, List.length_singleton]; omega)) fun x1 hx1 => ?_
  obtain ⟨l1, s1⟩ := hx1
  refine (draw_ok h1 (by omega) (by omega)).bind fun ⟨r2, st2⟩ ⟨⟨a3, a4⟩, h2⟩ => ?_
  have a3 : 0 ≤ r2 := a3
  have a4 : r2 < x1.length + 1 := a4
  dsimp only
  refine (odd_figure_ok h2 lo hi).bind fun ⟨r3, st3⟩ ⟨o3, h3⟩ => ?_
  have o3 : Lv 1 r3 := o3
  dsimp only
  rw [e4]
  have cA := cutT_le x1 none (some r2)
  have cB := cutT_le x1 (some r2) none
  have cC := cutT_le x1 (some (r2 + 1)) none
  have sA := cutT_all (a := none) (b := some r2) s1
  have sB := cutT_all (a := some r2) (b := none) s1
  have sC := cutT_all (a := some (r2 + 1)) (b := none) s1
  generalize cutT x1 none (some r2) = A at *
  generalize cutT x1 (some r2) none = B at *
  generalize cutT x1 (some (r2 + 1)) none = C at *
  have dA := cutT_le rule.2 none (some r1)
  have dB := cutT_le rule.2 (some r1) none
  have dC := cutT_le rule.2 (some (r1 + 1)) none
  have dD := cutT_le rule.2 (some r1) (some (r1 + 2))
  have dE := cutT_le rule.2 (some (r1 + 2)) none
  have dF := cutT_le rule.2 (some r1) (some (r1 + 1))
  have tA := cutT_all (a := none) (b := some r1) rows
  have tB := cutT_all (a := some r1) (b := none) rows
  have tC := cutT_all (a := some (r1 + 1)) (b := none) rows
  have tD := cutT_all (a := some r1) (b := some (r1 + 2)) rows
  have tE := cutT_all (a := some (r1 + 2)) (b := none) rows
  have tF := cutT_all (a := some r1) (b := some (r1 + 1)) rows
  refine Ok.guard (by first | omega | (simp only [List.length_append, List.length_map, List.length_cons, List.length_nil, List.length_reverse]; omega)) ?_
  refine Ok.guard (by first | omega | (simp only [List.length_append, List.length_map, List.length_cons, List.length_nil, List.length_reverse]; omega)) ?_
  refine Ok.guard (by first | omega | (simp only [List.length_append, List.length_map, List.length_cons, List.length_nil, List.length_reverse]; omega)) ?_
  refine Ok.guard (by first | omega | (simp only [List.length_append, List.length_map, List.length_cons, List.length_nil, List.length_reverse]; omega)) ?_
  refine Ok.guard (by decide) ?_
  refine Ok.guard (by first | omega | (simp only [List.length_append, List.length_map, List.length_cons, List.length_nil, List.length_reverse]; omega)) ?_
  rw [Option.bind_some]
  refine Ok.guard (by first | omega | (simp only [List.length_append, List.length_map, List.length_cons, List.length_nil, List.length_reverse]; omega)) ?_
  refine Ok.guard (by first | omega | (simp only [List.length_append, List.length_map, List.length_cons, List.length_nil, List.length_reverse]; omega)) ?_
  refine Ok.guard (by first | omega | (simp only [List.length_append, List.length_map, List.length_cons, List.length_nil, List.length_reverse]; omega)) ?_
  refine (draw_ok h3 (by decide) (by decide)).bind fun ⟨r4, st4⟩ ⟨⟨a5, a6⟩, h4⟩ => ?_
  have a5 : 0 ≤ r4 := a5
  have a6 : r4 < 12 := a6
  dsimp only
  have vA : ∀ x ∈ A.map fun z => PyData.int z, Lv 1 x := all_m fun x hx => (sA x hx).lv
  have vB : ∀ x ∈ B.map fun z => PyData.int z, Lv 1 x := all_m fun x hx => (sB x hx).lv
  have vC : ∀ x ∈ C.map fun z => PyData.int z, Lv 1 x := all_m fun x hx => (sC x hx).lv
  refine Ok.bind (P := Lv 2) (atI_ok ?_ a5 (by simp only [List.length_append, List.length_cons, List.length_nil]; omega)) fun x3 o3' => ?_
  · refine all_a ?_ ?_
    · refine all_c (.list (by simp only [List.length_append, List.length_map, List.length_cons, List.length_nil]; omega) (all_a (all_a vA (all_c o3 all_n)) vB)) <| all_c (.list (by simp only [List.length_append, List.length_map, List.length_cons, List.length_nil]; omega) (all_a (all_a vA (all_c o3 all_n)) vC)) <| all_c (.ints (by simp only [List.length_append, List.length_map, List.length_cons, List.length_nil]; omega) (all_a s1 (all_c ⟨by decide, by decide⟩ <| all_c ⟨by decide, by decide⟩ <| all_c ⟨by decide, by decide⟩ <| all_c ⟨by decide, by decide⟩ all_n))) <| all_c (.list (by decide) all_n) <| all_c (.intsT (by omega) s1) <| all_c (.rows (k := 0) (by rw [List.length_singleton]; decide) (all_c ⟨l1, s1⟩ all_n)) all_n
    · refine all_c .none <| all_c (.int (by decide)) <| all_c Lv.strs.2.2.2.1 <| all_c .dict <| all_c (.ints (by simp only [List.length_append, List.length_map, List.length_cons, List.length_nil]; omega) (all_a sA sC)) <| all_c (.ints (by simp only [List.length_append, List.length_map, List.length_cons, List.length_nil]; omega) (all_a s1 (all_c ⟨by decide, by decide⟩ all_n))) all_n
  refine Ok.guard (by first | omega | (simp only [List.length_append, List.length_map, List.length_cons, List.length_nil, List.length_reverse]; omega)) ?_
  refine Ok.guard (by first | omega | (simp only [List.length_append, List.length_map, List.length_cons, List.length_nil, List.length_reverse]; omega)) ?_
  rw [Option.bind_some]
  refine Ok.guard (by first | omega | (simp only [List.length_append, List.length_map, List.length_cons, List.length_nil, List.length_reverse]; omega)) ?_
  refine Ok.guard (by first | omega | (simp only [List.length_append, List.length_map, List.length_cons, List.length_nil, List.length_reverse]; omega)) ?_
  refine Ok.guard (by first | omega | (simp only [List.length_append, List.length_map, List.length_cons, List.length_nil, List.length_reverse]; omega)) ?_
  refine Ok.guard (by first | omega | (simp only [List.length_append, List.length_map, List.length_cons, List.length_nil, List.length_reverse]; omega)) ?_
  refine Ok.guard (by first | omega | (simp only [List.length_append, List.length_map, List.length_cons, List.length_nil, List.length_reverse]; omega)) ?_
  refine Ok.guard (by first | omega | (simp only [List.length_append, List.length_map, List.length_cons, List.length_nil, List.length_reverse]; omega)) ?_
  rw [Option.bind_some]
  refine Ok.guard (by first | omega | (simp only [List.length_append, List.length_map, List.length_cons, List.length_nil, List.length_reverse]; omega)) ?_
  have wA : ∀ x ∈ (cutT rule.2 none (some r1)).map fun z => PyData.list (z.map fun z => PyData.int z), Lv 2 x := all_m fun x hx => .ints (Nat.le_trans (tA x hx).1 (by decide)) (tA x hx).2
  have wB : ∀ x ∈ (cutT rule.2 (some r1) none).map fun z => PyData.list (z.map fun z => PyData.int z), Lv 2 x := all_m fun x hx => .ints (Nat.le_trans (tB x hx).1 (by decide)) (tB x hx).2
  have wC : ∀ x ∈ (cutT rule.2 (some (r1 + 1)) none).map fun z => PyData.list (z.map fun z => PyData.int z), Lv 2 x := all_m fun x hx => .ints (Nat.le_trans (tC x hx).1 (by decide)) (tC x hx).2
  have v4 : Lv 3 (.list ((List.map (fun z => PyData.list (z.map fun z => PyData.int z)) (cutT rule.2 none (some r1)) ++ [x3]) ++ List.map (fun z => PyData.list (z.map fun z => PyData.int z)) (cutT rule.2 (some (r1 + 1)) none))) := by
    refine .list ?_ (all_a (all_a wA (all_c o3' all_n)) wC)
    simp only [List.length_append, List.length_map, List.length_cons, List.length_nil]; omega
  have v7 : Lv 3 (.list ((List.map (fun z => PyData.list (z.map fun z => PyData.int z)) (cutT rule.2 none (some r1)) ++ [x3]) ++ List.map (fun z => PyData.list (z.map fun z => PyData.int z)) (cutT rule.2 (some r1) none))) := by
    refine .list ?_ (all_a (all_a wA (all_c o3' all_n)) wB)
    simp only [List.length_append, List.length_map, List.length_cons, List.length_nil]; omega
  have rev : ∀ {xs : List (List Int)}, (∀ x ∈ xs, Rw x) → ∀ x ∈ xs.reverse, Rw x := fun h x hx => h x (List.mem_reverse.mp hx)
  refine forK_okI (P := fun pre s => s.1 = pre.map (fun t => [t]) ∧ DkOk s.2) ⟨rfl, h4⟩ ?_ ?_
  · rintro pre t post ⟨x7, st5⟩ next e ⟨p1, p2⟩ hN
    have hp : pre.length ≤ 5 := by
      have := congrArg List.length e
      rw [irange_len, List.length_append, List.length_cons] at this
      omega
    have p1 : x7 = pre.map (fun t => [t]) := p1
    rw [_law_no_rule_c1]
    refine Ok.guard (by rw [p1, List.length_map]; omega) (hN _ ⟨?_, p2⟩)
    show x7 ++ [[t]] = (pre ++ [t]).map fun t => [t]
    rw [p1, List.map_append]; rfl
  rintro ⟨x7, st5⟩ ⟨p1, h5⟩
  have p1 : x7 = (irange 0 5).map (fun t => [t]) := p1
  have h5 : DkOk st5 := h5
  have l7 : x7.length = 5 := by rw [p1, List.length_map, irange_len]; rfl
  have s7 : ∀ x ∈ x7, Rw x := by
    rw [p1]
    refine all_m fun x hx => ?_
    have := irange_mem.mp hx
    exact ⟨by rw [List.length_singleton]; decide, all_c ⟨by omega, by omega⟩ all_n⟩
  rw [_law_no_rule_k2]
  refine Ok.guard (by simp only [List.length_cons, List.length_nil]; omega) ?_
  rw [Option.bind_some]
  refine (draw_ok h5 (by decide) (by decide)).bind fun ⟨r5, st6⟩ ⟨⟨a7, a8⟩, h6⟩ => ?_
  have a7 : 0 ≤ r5 := a7
  have a8 : r5 < 16 := a8
  dsimp only
  have rr : Lv 2 (.list (rule.2.map fun z => .list (z.map fun z => .int z))) := .rows (k := 0) (by omega) rows
  refine Ok.bind (P := Lv 3) (atI_ok ?_ a7 (by simp only [List.length_append, List.length_cons, List.length_nil]; omega)) fun x9 o9 => ?_
  · refine all_a ?_ ?_
    · refine all_c v4 <| all_c v4 <| all_c v4 <| all_c v7 <| all_c (.rows (k := 1) (by simp only [List.length_append, List.length_map, List.length_cons, List.length_nil, List.length_reverse]; omega) (all_a (all_a tA (rev tD)) tE)) <| all_c (.rows (k := 1) (by simp only [List.length_append, List.length_map, List.length_cons, List.length_nil, List.length_reverse]; omega) (rev rows)) <| all_c (.rows (k := 1) (by simp only [List.length_append, List.length_map, List.length_cons, List.length_nil, List.length_reverse]; omega) (all_a (all_a tA tF) tB)) all_n
    · refine all_c (.rows (k := 1) (by simp only [List.length_append, List.length_map, List.length_cons, List.length_nil, List.length_reverse]; omega) (all_a tA tC)) <| all_c (.rowsT (k := 1) (by omega) rows) <| all_c .none <| all_c .dict <| all_c Lv.strs.1 <| all_c (.int (by decide)) <| all_c (.rows (k := 1) (by omega) s7) <| all_c (.list (k := 2) (by rw [List.length_map, List.length_singleton]; decide) (all_m (all_c rr all_n))) <| all_c (.tuple (by simp only [List.length_cons, List.length_nil]; omega) (all_c rr <| all_c rr all_n)) all_n
  refine Ok.guard (by rw [List.length_singleton]; decide) ?_
  refine (no_base_ok h6).bind fun ⟨r6, st7⟩ ⟨o6, h7⟩ => ?_
  have o6 : Lv 1 r6 := o6
  have e6 : (List.replicate (6 : Int).toNat ([(rule.1, x9)] : List (Int × PyData))).flatten = [(rule.1, x9), (rule.1, x9), (rule.1, x9), (rule.1, x9), (rule.1, x9), (rule.1, x9)] := rfl
  dsimp only
  rw [e6]
  refine Ok.guard (by simp only [List.length_map, List.length_cons, List.length_nil]; omega) ?_
  rw [Option.bind_some]
  refine Ok.guard (by simp only [List.length_append, List.length_map, List.length_cons, List.length_nil]; omega) ?_
  rw [Option.bind_some]
  refine (draw_ok h7 (by decide) (by decide)).bind fun ⟨r7, st8⟩ ⟨⟨a9, a10⟩, h8⟩ => ?_
  have a9 : 0 ≤ r7 := a9
  have a10 : r7 < 20 := a10
  dsimp only
  have r3' : Lv 3 (.list (rule.2.map fun z => .list (z.map fun z => .int z))) := rr.up
  have b3 : Lv 3 (.int rule.1) := .int (by omega)
  have t9 : Lv 4 (.tuple [.int rule.1, x9]) := .tuple (by simp only [List.length_cons, List.length_nil]; omega) (all_c b3 <| all_c o9 all_n)
  refine Ok.bind (P := Lv 4) (atI_ok ?_ a9 (by simp only [List.length_append, List.length_map, List.length_cons, List.length_nil]; omega)) fun x12 o12 => Ok.mk ⟨o12, h8⟩
  refine all_a (all_a (all_m (all_c t9 <| all_c t9 <| all_c t9 <| all_c t9 <| all_c t9 <| all_c t9 all_n)) ?_) ?_
  · refine all_c (.tuple (by simp only [List.length_cons, List.length_nil]; omega) (all_c o6.up.up <| all_c r3' all_n)) <| all_c (.tuple (by simp only [List.length_cons, List.length_nil]; omega) (all_c (.int (by decide)) <| all_c r3' all_n)) <| all_c (.tuple (by simp only [List.length_cons, List.length_nil]; omega) (all_c (.int (by omega)) <| all_c r3' all_n)) <| all_c (.list (by simp only [List.length_cons, List.length_nil]; omega) (all_c b3 <| all_c r3' all_n)) all_n
  · refine all_c (.tuple (by simp only [List.length_cons, List.length_nil]; omega) (all_c b3 all_n)) <| all_c (.tuple (by simp only [List.length_cons, List.length_nil]; omega) (all_c b3 <| all_c r3' <| all_c (.list (k := 2) (by decide) all_n) all_n)) <| all_c (.tuple (by simp only [List.length_cons, List.length_nil]; omega) (all_c r3' <| all_c b3 all_n)) <| all_c r3'.up <| all_c b3.up <| all_c .none <| all_c (.tuple (k := 3) (by decide) all_n) <| all_c Lv.strs.1 <| all_c .dict <| all_c (.tuple (by simp only [List.length_cons, List.length_nil]; omega) (all_c (.list (k := 2) (by rw [List.length_map, List.length_singleton]; decide) (all_m (all_c (.int (by omega)) all_n))) <| all_c r3' all_n)) all_n
theorem GoodRule.lv {rule : Int × List (List Int)} (g : GoodRule rule) : Lv 4 (.tuple [.int rule.1, .list (rule.2.map fun z => .list (z.map fun z => .int z))]) :=
  .tuple (by simp only [List.length_cons, List.length_nil]; omega) (all_c (.int (by have := g.lo; have := g.hi; omega)) <| all_c (.rows (k := 1) (by have := g.few; omega) g.rows) all_n)
theorem GoodRule.isRule {rule : Int × List (List Int)} (g : GoodRule rule) : RuleD (.tuple [.int rule.1, .list (rule.2.map fun z => .list (z.map fun z => .int z))]) := by
  refine ⟨_, _, rfl, g.lo, g.hi, by rw [List.length_map]; exact g.few, all_m fun s hs => ?_, fun k hk => ?_⟩
  · obtain ⟨f1, f2, f3⟩ := g.figs s hs
    rw [strB, List.length_map, decide_eq_true f2, decide_eq_true f3, Bool.and_self, Bool.and_true, List.all_eq_true]
    refine all_m fun x hx => ?_
    rw [figB, decide_eq_true (f1 x hx).1, decide_eq_true (f1 x hx).2]; rfl
  · rw [List.length_map] at hk
    rw [List.getElem_map, List.getElem_map]
    exact List.pairwise_iff_getElem.mp g.sorted k (k + 1) (by omega) hk (Nat.lt_succ_self _)
/-! #### sizes of what is shown -/
structure Sz (k n : Nat) (d : PyData) : Prop where
  s : d.showable = true
  dp : d.depth ≤ k
  l : d.shown.length ≤ n
theorem Lv.sz {k : Nat} {d : PyData} (h : Lv k d) : Sz (k + 1) (nLv k) d := ⟨h.shows.1, h.shows.2.1, h.shows.2.2⟩
theorem Sz.mono {k n k' n' : Nat} {d : PyData} (h : Sz k n d) (hk : k ≤ k') (hn : n ≤ n') : Sz k' n' d := ⟨h.s, Nat.le_trans h.dp hk, Nat.le_trans h.l hn⟩
theorem piled_shownM {n m : Nat} {xs : List PyData} (hl : xs.length ≤ m) (h : ∀ x ∈ xs, x.shown.length ≤ n) : piled (PyData.shownAll xs) ≤ m * (n + 2) := by
  rw [shownAll_map]
  refine Nat.le_trans (piled_le (n := n) _ fun t ht => ?_) (by rw [List.length_map]; exact Nat.mul_le_mul_right _ hl)
  obtain ⟨x, hx, rfl⟩ := List.mem_map.mp ht
  exact h x hx
theorem Sz.list {k n m : Nat} {xs : List PyData} (hl : xs.length ≤ m) (h : ∀ x ∈ xs, Sz k n x) : Sz (k + 1) (m * (n + 2) + 5) (.list xs) := by
  refine ⟨by rw [PyData.showable]; exact showableAll_of xs fun x hx => (h x hx).s, by rw [PyData.depth]; exact Nat.succ_le_succ (depthAll_of xs fun x hx => (h x hx).dp), ?_⟩
  have := piled_shownM hl fun x hx => (h x hx).l
  have := listText_le (PyData.shownAll xs)
  rw [PyData.shown]; omega
theorem Sz.tuple {k n m : Nat} {xs : List PyData} (hl : xs.length ≤ m) (h : ∀ x ∈ xs, Sz k n x) : Sz (k + 1) (m * (n + 2) + 5) (.tuple xs) := by
  refine ⟨by rw [PyData.showable]; exact showableAll_of xs fun x hx => (h x hx).s, by rw [PyData.depth]; exact Nat.succ_le_succ (depthAll_of xs fun x hx => (h x hx).dp), ?_⟩
  have := piled_shownM hl fun x hx => (h x hx).l
  have := tupleText_le (PyData.shownAll xs)
  rw [PyData.shown]; omega
theorem Sz.ok {a b : PyData} (h : Sz 8 4000000 a) (k : Sz 8 4000000 b) : ShowOk (.list [a, b]) := by
  have h2 : Sz 9 (2 * (4000000 + 2) + 5) (.list [a, b]) := Sz.list (m := 2) (by simp only [List.length_cons, List.length_nil]; omega) fun x hx => by
    rcases List.mem_cons.mp hx with rfl | hx
    · exact h
    · rw [List.mem_singleton.mp hx]; exact k
  unfold ShowOk
  have h3 := h2.dp
  have h4 := h2.l
  rw [h2.s, decide_eq_true (show (PyData.list [a, b]).depth ≤ 60 by omega), decide_eq_true (show (PyData.list [a, b]).shown.length ≤ 16777216 by omega)]; rfl
theorem Lv.sz8 {k : Nat} {d : PyData} (h : Lv k d) (hk : k ≤ 4) : Sz 8 4000000 d := by
  have : nLv k ≤ nLv 4 := by
    rcases (show k = 0 ∨ k = 1 ∨ k = 2 ∨ k = 3 ∨ k = 4 by omega) with rfl | rfl | rfl | rfl | rfl <;> decide
  have e : nLv 4 ≤ 4000000 := by decide
  exact h.sz.mono (by omega) (Nat.le_trans this e)
theorem int_sz {i : Int} (h : i.natAbs < 2 ^ 101) : Sz 1 60 (.int i) := by
  refine ⟨?_, by rw [PyData.depth]; exact Nat.zero_le _, ?_⟩
  · rw [PyData.showable, decide_eq_true_eq]
    by_cases h0 : i.natAbs = 0
    · rw [h0]; decide
    · exact Nat.lt_trans ((Nat.log2_lt h0).mpr h) (by decide)
  · have := int_text_length_le10 (a := i) (k := 40) (by decide) (Nat.lt_trans h (by decide))
    rw [PyData.shown, PySem.ofString_length]
    omega
theorem ints_sz {xs : List Int} (hl : xs.length ≤ 110) (h : ∀ x ∈ xs, Sm x) : Sz 2 7000 (.list (xs.map fun z => .int z)) :=
  (Sz.list (k := 1) (n := 60) (m := 110) (by rw [List.length_map]; exact hl) (all_m fun x hx => int_sz (by obtain ⟨a, b⟩ := h x hx; omega))).mono (Nat.le_refl _) (by decide)
/-! #### a dict of ints -/
theorem putI_all {P : Int × Int → Prop} {kvs : List (Int × Int)} {k v : Int} (h : ∀ p ∈ kvs, P p) (hk : P (k, v)) : ∀ p ∈ putI kvs k v, P p := by
  unfold putI
  split
  · refine all_m fun p hp => ?_
    by_cases e : p.1 = k
    · rw [if_pos e, e]; exact hk
    · rw [if_neg e]; exact h p hp
  · exact all_a h (all_c hk all_n)
theorem mergeI_all {P : Int × Int → Prop} : ∀ (more kvs : List (Int × Int)), (∀ p ∈ kvs, P p) → (∀ p ∈ more, P p) → ∀ p ∈ mergeI kvs more, P p
  | [], _, h, _ => h
  | p :: more, kvs, h, hm => mergeI_all more _ (putI_all h (hm p List.mem_cons_self)) fun q hq => hm q (List.mem_cons_of_mem _ hq)
theorem putI_len (kvs : List (Int × Int)) (k v : Int) : (putI kvs k v).length ≤ kvs.length + 1 := by
  unfold putI
  split
  · rw [List.length_map]; omega
  · rw [List.length_append]; exact Nat.le_refl _
theorem mergeI_len : ∀ (more kvs : List (Int × Int)), (mergeI kvs more).length ≤ kvs.length + more.length
  | [], _ => Nat.le_refl _
  | p :: more, kvs => by
    have := mergeI_len more (putI kvs p.1 p.2)
    have := putI_len kvs p.1 p.2
    rw [List.length_cons]
    show (mergeI (putI kvs p.1 p.2) more).length ≤ _
    omega
theorem kv_sz : ∀ kvs : List (Int × Int), (∀ p ∈ kvs, Sm p.1 ∧ Sm p.2) → PyData.showableKv (kvs.map fun p => (PyData.int p.1, PyData.int p.2)) = true ∧ PyData.depthKv (kvs.map fun p => (PyData.int p.1, PyData.int p.2)) ≤ 1 ∧
    piled (PyData.shownKv (kvs.map fun p => (PyData.int p.1, PyData.int p.2))) ≤ kvs.length * 130
  | [], _ => ⟨by rw [List.map_nil, PyData.showableKv], by rw [List.map_nil, PyData.depthKv]; omega, by rw [List.map_nil, PyData.shownKv, piled_nil]; omega⟩
  | p :: kvs, h => by
    obtain ⟨h1, h2, h3⟩ := kv_sz kvs fun q hq => h q (List.mem_cons_of_mem _ hq)
    obtain ⟨⟨a1, a2⟩, b1, b2⟩ := h p List.mem_cons_self
    have s1 := int_sz (i := p.1) (by omega)
    have s2 := int_sz (i := p.2) (by omega)
    have l1 := s1.l
    have l2 := s2.l
    have d1 := s1.dp
    have d2 := s2.dp
    refine ⟨by rw [List.map_cons, PyData.showableKv, s1.s, s2.s, h1]; rfl, by rw [List.map_cons, PyData.depthKv]; omega, ?_⟩
    rw [List.map_cons, PyData.shownKv, piled_cons, strLen_append, strLen_append, List.length_cons]
    have e2 : ((": " : String) : Str).length = 2 := rfl
    rw [e2]; omega
theorem dict_sz {xs : List (Int × Int)} (hl : xs.length ≤ 110) (h : ∀ p ∈ xs, Sm p.1 ∧ Sm p.2) : Sz 3 20000 (dictII xs) := by
  obtain ⟨h1, h2, h3⟩ := kv_sz (mergeI [] xs) (mergeI_all xs [] all_n h)
  have hm := mergeI_len xs []
  rw [List.length_nil] at hm
  unfold dictII
  refine ⟨by rw [PyData.showable]; exact h1, by rw [PyData.depth]; omega, ?_⟩
  rw [PyData.shown]
  have e : ∀ ps : List Str, (dictText ps).length ≤ piled ps + 2 := fun ps => by
    unfold dictText
    rw [strLen_append, strLen_append]
    have e1 : (("{" : String) : Str).length = 1 := rfl
    have e3 : (("}" : String) : Str).length = 1 := rfl
    have e2 : (Str.join ", " ps).length ≤ piled ps := by
      cases ps with
      | nil => decide
      | cons t ts => have := join_length_add (t :: ts) (List.cons_ne_nil _ _); omega
    rw [e1, e3]; omega
  have := e (PyData.shownKv ((mergeI [] xs).map fun p => (PyData.int p.1, PyData.int p.2)))
  omega
/-! #### figures, rules, of any kind -/
theorem are_figures_big (b : Int) {xs : List PyData} (hl : xs.length ≤ 1000) : are_figures b (.list xs) = some (xs.all (figB b)) := by
  unfold are_figures
  rw [if_pos (by exact rfl), asLst, Option.bind_some, forK_fm (p := fun x => !figB b x) (g := fun x => x) (B := 16777216) (fun acc x next hl => by rw [are_figures_c1, is_figure_D, Option.bind_some, if_pos hl]) _ _ (by rw [List.length_nil]; omega)]
  rw [are_figures_k2, List.nil_append, List.map_id']
  refine congrArg some (Bool.eq_iff_iff.mpr ?_)
  rw [List.isEmpty_iff, List.filter_eq_nil_iff, List.all_eq_true]
  exact forall_congr' fun x => forall_congr' fun _ => by cases figB b x <;> simp
theorem figs_all {b : Int} {ds : List Int} (h : Figs b ds) : (ds.map fun z => PyData.int z).all (figB b) = true := by
  rw [List.all_eq_true]
  refine all_m fun x hx => ?_
  rw [figB, decide_eq_true (h x hx).1, decide_eq_true (h x hx).2]; rfl
theorem unAll_ints : ∀ xs : List Int, unAll (α := Int) (xs.map fun z => PyData.int z) = some xs
  | [] => rfl
  | x :: xs => by
    rw [List.map_cons, unAll, unAll_ints xs]; rfl
theorem unAll_rows : ∀ xs : List (List Int), unAll (α := List Int) (xs.map fun z => PyData.list (z.map fun z => PyData.int z)) = some xs
  | [] => rfl
  | x :: xs => by
    rw [List.map_cons, unAll, unAll_rows xs]
    show Option.bind (unAll (α := Int) (x.map fun z => PyData.int z)) _ = _
    rw [unAll_ints]; rfl
theorem need_rule_yes {rule : Int × List (List Int)} (g : GoodRule rule) : need_rule (.tuple [.int rule.1, .list (rule.2.map fun z => .list (z.map fun z => .int z))]) = some (.ok ()) := by
  obtain ⟨r, e1, q1⟩ := is_rule_D g.lv.up
  rw [q1.mpr g.isRule] at e1
  unfold need_rule
  rw [e1]; rfl
theorem odd_figure_ok5 {st : DkS} {b : Int} (h : DkOk st) (hb : 2 ≤ b) (h16 : b ≤ 16) : Ok (_law_odd_figure st b) fun p => (Lv 1 p.1 ∧ figB b p.1 = false) ∧ DkOk p.2 := by
  unfold _law_odd_figure
  refine (draw_ok h (by decide) (by decide)).bind fun ⟨r1, st1⟩ ⟨⟨a1, a2⟩, h1⟩ => ?_
  refine (draw_ok h1 (by decide) (by decide)).bind fun ⟨r2, st2⟩ ⟨⟨a3, a4⟩, h2⟩ => ?_
  have a1 : 0 ≤ r1 := a1
  have a2 : r1 < 30 := a2
  have a3 : 0 ≤ r2 := a3
  have a4 : r2 < 9 := a4
  dsimp only
  rw [Option.bind_some]
  refine Ok.guard (by simp only [List.length_cons, List.length_nil]; omega) ?_
  refine (draw_ok h2 (by decide) (by decide)).bind fun ⟨r3, st3⟩ ⟨⟨a5, a6⟩, h3⟩ => ?_
  have a5 : 0 ≤ r3 := a5
  have a6 : r3 < 16 := a6
  dsimp only
  have fi : ∀ {i : Int}, i.natAbs < 10 ^ 30 → ¬ (0 ≤ i ∧ i < b) → Lv 1 (.int i) ∧ figB b (.int i) = false := fun h k => ⟨.int h, by
    rw [figB, Bool.and_eq_false_iff, decide_eq_false_iff_not, decide_eq_false_iff_not]; omega⟩
  have e25 : (10 : Int) ^ (25 : Int).toNat = 10000000000000000000000000 := by decide
  refine Ok.bind (P := fun d => Lv 1 d ∧ figB b d = false) (atI_ok ?_ a5 (by simp only [List.length_append, List.length_cons, List.length_nil]; omega)) fun x hx => Ok.mk ⟨hx, h3⟩
  rw [e25]
  refine all_a ?_ ?_
  · exact all_c (fi (by omega) (by omega)) <| all_c (fi (by omega) (by omega)) <| all_c (fi (by decide) (by omega)) <| all_c (fi (by omega) (by omega)) <| all_c ⟨.bool, rfl⟩ <| all_c ⟨.bool, rfl⟩ <| all_c ⟨.none, rfl⟩ <| all_c ⟨Lv.strs.2.1, rfl⟩ <| all_c ⟨Lv.strs.2.2.1, rfl⟩ <| all_c ⟨.ints (by decide) (all_c ⟨by decide, by decide⟩ all_n), rfl⟩ <| all_c ⟨.tuple (by decide) (all_c (.int (by decide)) all_n), rfl⟩ <| all_c ⟨.dict, rfl⟩ all_n
  · exact all_c ⟨Lv.strs.1, rfl⟩ <| all_c (fi (by decide) (by omega)) <| all_c (fi (by decide) (by omega)) <| all_c ⟨.list (by decide) all_n, rfl⟩ all_n
/-! #### _law_all -/
def StP (bad pre : List (List Int)) (x : List Int) : Prop := x = [] ∨ ∃ s ∈ pre, x <+: s ∧ 1 ≤ x.length ∧ x.length < s.length ∧ goodB bad x = true
theorem law_all_ok {rule : Int × List (List Int)} (g : GoodRule rule) : Ok (_law_all rule.2) fun A => (∀ x, x ∈ A ↔ StB rule.2 x) ∧ 1 ≤ A.length ∧ A.length ≤ 20 := by
  have few := g.few
  have pos : ∀ s ∈ rule.2, 1 ≤ s.length := fun s hs => (g.figs s hs).2.1
  unfold _law_all
  refine forK_okI (P := fun pre A => (∀ x, x ∈ A ↔ StP rule.2 pre x) ∧ 1 ≤ A.length ∧ A.length ≤ 1 + 4 * pre.length) ⟨fun x => ?_, Nat.le_refl _, Nat.le_refl _⟩ (fun pre t post A next e hP hN => ?_) (fun A hP => ?_)
  · constructor
    · exact fun h => .inl (List.mem_singleton.mp h)
    · rintro (rfl | ⟨s, hs, _⟩)
      · exact List.mem_singleton.mpr rfl
      · exact absurd hs List.not_mem_nil
  · obtain ⟨p1, p2, p3⟩ := hP
    have ht : t ∈ rule.2 := by rw [e]; exact List.mem_append_right _ List.mem_cons_self
    have t4 := (g.figs t ht).2.2
    have hpl : pre.length ≤ 3 := by
      have := congrArg List.length e
      rw [List.length_append, List.length_cons] at this
      omega
    rw [_law_all_b1]
    refine Ok.guard ⟨by decide, by decide, by omega, by omega⟩ ?_
    refine forK_okI (P := fun pre2 A' => (∀ x, x ∈ A' ↔ StP rule.2 pre x ∨ ∃ k : Int, k ∈ pre2 ∧ x = t.take k.toNat ∧ goodB rule.2 x = true) ∧ 1 ≤ A'.length ∧ A'.length ≤ A.length + pre2.length) ⟨fun x => ?_, p2, Nat.le_refl _⟩ (fun pre2 k post2 A' next2 e2 hP2 hN2 => ?_) (fun A' hP2 => ?_)
    · rw [p1]
      exact ⟨.inl, fun h => h.elim id fun ⟨k, hk, _⟩ => absurd hk List.not_mem_nil⟩
    · obtain ⟨q1, q2, q3⟩ := hP2
      have hk : k ∈ irange 1 (t.length : Int) := by rw [e2]; exact List.mem_append_right _ List.mem_cons_self
      have hk := irange_mem.mp hk
      have hl2 : pre2.length ≤ 3 := by
        have := congrArg List.length e2
        rw [irange_len, List.length_append, List.length_cons] at this
        omega
      have skip : (t.take k.toNat ∈ A' ∨ goodB rule.2 (t.take k.toNat) = false) → Ok (next2 A') _ := fun hs => hN2 A' ⟨fun x => by
        rw [q1]
        constructor
        · exact fun h => h.imp id fun ⟨j, hj, r⟩ => ⟨j, List.mem_append_left _ hj, r⟩
        · rintro (h | ⟨j, hj, rfl, hg⟩)
          · exact .inl h
          · rcases List.mem_append.mp hj with hj | hj
            · exact .inr ⟨j, hj, rfl, hg⟩
            · rw [List.mem_singleton.mp hj] at hg ⊢
              rcases hs with hs | hs
              · exact (q1 _).mp hs
              · rw [hg] at hs; exact absurd hs (by decide), q2, by rw [List.length_append]; omega⟩
      rw [_law_all_b3, cut_take (by omega)]
      refine Ok.ite (fun hm => ?_) (fun hm => skip (.inl ?_))
      · rw [law_lacks_eq pos (by rw [List.length_take]; omega), Option.bind_some]
        cases hg : goodB rule.2 (t.take k.toNat) with
        | false => rw [if_neg Bool.false_ne_true]; exact skip (.inr hg)
        | true =>
          rw [if_pos rfl]
          refine Ok.guard (by omega) (hN2 _ ⟨fun x => ?_, by rw [List.length_append]; omega, by rw [List.length_append, List.length_append, List.length_singleton, List.length_singleton]; omega⟩)
          rw [List.mem_append, q1, List.mem_singleton]
          constructor
          · rintro ((h | ⟨j, hj, r⟩) | rfl)
            · exact .inl h
            · exact .inr ⟨j, List.mem_append_left _ hj, r⟩
            · exact .inr ⟨k, List.mem_append_right _ (List.mem_singleton.mpr rfl), rfl, hg⟩
          · rintro (h | ⟨j, hj, rfl, hg⟩)
            · exact .inl (.inl h)
            · rcases List.mem_append.mp hj with hj | hj
              · exact .inl (.inr ⟨j, hj, rfl, hg⟩)
              · rw [List.mem_singleton.mp hj]; exact .inr rfl
      · rw [Bool.not_eq_true', Bool.not_eq_false] at hm
        exact memT_iff.mp hm
    · obtain ⟨q1, q2, q3⟩ := hP2
      rw [irange_len] at q3
      rw [_law_all_e4]
      refine hN _ ⟨fun x => ?_, q2, by rw [List.length_append, List.length_singleton]; omega⟩
      rw [q1]
      constructor
      · rintro (h | ⟨k, hk, rfl, hg⟩)
        · exact h.imp id fun ⟨s, hs, r⟩ => ⟨s, List.mem_append_left _ hs, r⟩
        · have hk := irange_mem.mp hk
          exact .inr ⟨t, List.mem_append_right _ (List.mem_singleton.mpr rfl), List.take_prefix _ _, by rw [List.length_take]; omega, by rw [List.length_take]; omega, hg⟩
      · rintro (h | ⟨s, hs, a, b, c, d⟩)
        · exact .inl (.inl h)
        · rcases List.mem_append.mp hs with hs | hs
          · exact .inl (.inr ⟨s, hs, a, b, c, d⟩)
          · rw [List.mem_singleton.mp hs] at a c
            exact .inr ⟨(x.length : Int), irange_mem.mpr (by omega), by rw [Int.toNat_natCast]; exact List.prefix_iff_eq_take.mp a, d⟩
  · obtain ⟨p1, p2, p3⟩ := hP
    rw [_law_all_e2]
    exact Ok.mk ⟨p1, p2, by omega⟩
theorem StB.fig {rule : Int × List (List Int)} (g : GoodRule rule) {x : List Int} (h : StB rule.2 x) : Figs rule.1 x ∧ x.length ≤ 3 := by
  rcases h with rfl | ⟨s, hs, a, b, c, d⟩
  · exact ⟨Figs.nil, Nat.zero_le _⟩
  · obtain ⟨f1, f2, f3⟩ := g.figs s hs
    exact ⟨fun y hy => f1 y (a.subset hy), by omega⟩
theorem Figs.sm {rule : Int × List (List Int)} (g : GoodRule rule) {x : List Int} (h : Figs rule.1 x) : ∀ y ∈ x, Sm y := fun y hy => by
  have := h y hy
  have := g.hi
  exact ⟨by omega, by omega⟩
/-! #### the doors -/
abbrev ruD (rule : Int × List (List Int)) : PyData := .tuple [.int rule.1, .list (rule.2.map fun z => .list (z.map fun z => .int z))]
theorem rule_un (rule : Int × List (List Int)) : UD.un (α := Int × List (List Int)) (ruD rule) = some rule := by
  show Option.bind (some rule.1) (fun x => Option.bind (unAll (α := List Int) _) fun y => some (x, y)) = _
  rw [unAll_rows]; rfl
theorem ints_un (xs : List Int) : UD.un (α := List Int) (.list (xs.map fun z => .int z)) = some xs := unAll_ints xs
/-- what are no figures -/
def AF (b : Int) (d : PyData) : Prop := are_figures b d = some false
theorem c_rule {k : Int} {d e f : PyData} (h : is_rule d = some false) : _law_caught k d e f = some (some .NoRule) := by
  have h2 : need_rule d = some (.error .NoRule) := by unfold need_rule; rw [h]; rfl
  unfold _law_caught
  by_cases h0 : k = 0
  · rw [if_pos (decide_eq_true h0)]
    unfold stand_behind
    rw [h2]; rfl
  · rw [if_neg (by rw [decide_eq_true_eq]; exact h0)]
    by_cases h1 : k = 1
    · rw [if_pos (decide_eq_true h1)]
      unfold all_stands
      rw [h2]; rfl
    · rw [if_neg (by rw [decide_eq_true_eq]; exact h1)]
      unfold step_from
      rw [h2]; rfl
section
variable {rule : Int × List (List Int)}
theorem c0_fig (g : GoodRule rule) {d f : PyData} (h : AF rule.1 d) : _law_caught 0 (ruD rule) d f = some (some .NoFigures) := by
  have h : are_figures rule.1 d = some false := h
  show (stand_behind (ruD rule) d).bind _ = _
  unfold stand_behind
  rw [need_rule_yes g, Option.bind_some, exB_ok, asSeq, Option.bind_some, atI0, Option.bind_some, asInt, Option.bind_some, h]; rfl
theorem c0_ok (g : GoodRule rule) {ds : List Int} {f : PyData} (hf : Figs rule.1 ds) (hl : ds.length ≤ 900) : _law_caught 0 (ruD rule) (.list (ds.map fun z => .int z)) f = some none := by
  show (stand_behind (ruD rule) _).bind _ = _
  unfold stand_behind
  rw [need_rule_yes g, Option.bind_some, exB_ok, asSeq, Option.bind_some, atI0, Option.bind_some, asInt, Option.bind_some, are_figures_big _ (by rw [List.length_map]; omega), figs_all hf, Option.bind_some, if_neg (by exact nt), rule_un, Option.bind_some, ints_un, Option.bind_some, stand_of_eq g (by omega), Option.bind_some, Option.bind_some, exB_ok]
theorem c1_ok (g : GoodRule rule) {d f : PyData} : _law_caught 1 (ruD rule) d f = some none := by
  obtain ⟨L, e, _⟩ := stands_of_ok g
  show (all_stands (ruD rule)).bind _ = _
  unfold all_stands
  rw [need_rule_yes g, Option.bind_some, exB_ok, rule_un, Option.bind_some, e, Option.bind_some, Option.bind_some, exB_ok]
theorem c2_af (g : GoodRule rule) {d f : PyData} (h : AF rule.1 d) : _law_caught 2 (ruD rule) d f = some (some .NoStand) := by
  have h : are_figures rule.1 d = some false := h
  show (step_from (ruD rule) d f).bind _ = _
  unfold step_from
  rw [need_rule_yes g, Option.bind_some, exB_ok, asSeq, Option.bind_some, atI0, Option.bind_some, asInt, Option.bind_some, h]; rfl
theorem c2_no (g : GoodRule rule) {ds : List Int} {f : PyData} (hf : Figs rule.1 ds) (hl : ds.length ≤ 900) (h : ¬ StB rule.2 ds) : _law_caught 2 (ruD rule) (.list (ds.map fun z => .int z)) f = some (some .NoStand) := by
  obtain ⟨L, e, hL, _⟩ := stands_of_ok g
  show (step_from (ruD rule) _ f).bind _ = _
  unfold step_from
  rw [need_rule_yes g, Option.bind_some, exB_ok, asSeq, Option.bind_some, atI0, Option.bind_some, asInt, Option.bind_some, are_figures_big _ (by rw [List.length_map]; omega), figs_all hf, Option.bind_some, if_neg (by exact nt), rule_un, Option.bind_some, e, Option.bind_some, ints_un, Option.bind_some, memT_no.mpr (fun hm => h ((hL _).mp hm))]
  rfl
theorem c2_fig (g : GoodRule rule) {ds : List Int} {f : PyData} (h : StB rule.2 ds) (hf : figB rule.1 f = false) : _law_caught 2 (ruD rule) (.list (ds.map fun z => .int z)) f = some (some .NoFigures) := by
  obtain ⟨L, e, hL, _⟩ := stands_of_ok g
  obtain ⟨f1, f2⟩ := StB.fig g h
  show (step_from (ruD rule) _ f).bind _ = _
  unfold step_from
  rw [need_rule_yes g, Option.bind_some, exB_ok, asSeq, Option.bind_some, atI0, Option.bind_some, asInt, Option.bind_some, are_figures_big _ (by rw [List.length_map]; omega), figs_all f1, Option.bind_some, if_neg (by exact nt), rule_un, Option.bind_some, e, Option.bind_some, ints_un, Option.bind_some, memT_iff.mpr ((hL _).mpr h), if_neg (by exact nt), is_figure_D, hf]
  rfl
theorem c2_ok (g : GoodRule rule) {ds : List Int} {f : Int} (h : StB rule.2 ds) (hf : 0 ≤ f ∧ f < rule.1) : _law_caught 2 (ruD rule) (.list (ds.map fun z => .int z)) (.int f) = some none := by
  obtain ⟨L, e, hL, _⟩ := stands_of_ok g
  obtain ⟨f1, f2⟩ := StB.fig g h
  have fb : figB rule.1 (.int f) = true := by rw [figB, decide_eq_true hf.1, decide_eq_true hf.2]; rfl
  have hu : UD.un (α := List Int) (.list ((ds.map fun z => .int z) ++ [.int f])) = some (ds ++ [f]) := by
    have := ints_un (ds ++ [f])
    rw [List.map_append] at this
    exact this
  show (step_from (ruD rule) _ (.int f)).bind _ = _
  unfold step_from
  rw [need_rule_yes g, Option.bind_some, exB_ok, asSeq, Option.bind_some, atI0, Option.bind_some, asInt, Option.bind_some, are_figures_big _ (by rw [List.length_map]; omega), figs_all f1, Option.bind_some, if_neg (by exact nt), rule_un, Option.bind_some, e, Option.bind_some, ints_un, Option.bind_some, memT_iff.mpr ((hL _).mpr h), if_neg (by exact nt), is_figure_D, fb, Option.bind_some, if_neg (by exact nt), if_pos (by rw [List.length_map, List.length_singleton]; omega), hu, Option.bind_some, stand_of_eq g (by rw [List.length_append, List.length_singleton]; omega), Option.bind_some, Option.bind_some, exB_ok]
end
/-! #### _law_right -/
theorem Sz.ok3 {a b c : PyData} (h : Sz 8 4000000 a) (k : Sz 8 4000000 b) (l : Sz 8 4000000 c) : ShowOk (.list [a, b, c]) := by
  have h2 : Sz 9 (3 * (4000000 + 2) + 5) (.list [a, b, c]) := Sz.list (m := 3) (by simp only [List.length_cons, List.length_nil]; omega) (all_c h <| all_c k <| all_c l all_n)
  unfold ShowOk
  have h3 := h2.dp
  have h4 := h2.l
  rw [h2.s, decide_eq_true (show (PyData.list [a, b, c]).depth ≤ 60 by omega), decide_eq_true (show (PyData.list [a, b, c]).shown.length ≤ 16777216 by omega)]; rfl
theorem right_none {k : Int} {a b c : PyData} (ha : Sz 8 4000000 a) (hb : Sz 8 4000000 b) (hc : Sz 8 4000000 c) (h : _law_caught k a b c = some none) : _law_right k a b c .none = some true := by
  unfold _law_right
  rw [if_pos (Sz.ok3 ha hb hc), h, Option.bind_some, if_pos (by exact rfl), if_neg (by decide), if_neg (by decide), if_pos (Sz.ok3 ha hb hc), decide_eq_true rfl]
theorem right_some {k j : Int} {a b c : PyData} {e : Er} (ha : Sz 8 4000000 a) (hb : Sz 8 4000000 b) (hc : Sz 8 4000000 c) (h : _law_caught k a b c = some (some e)) (hk : _law_kinds (some e) j = some true) : _law_right k a b c (.int j) = some true := by
  unfold _law_right
  rw [if_pos (Sz.ok3 ha hb hc), h, Option.bind_some, if_neg (by exact Bool.false_ne_true), if_pos (by exact rfl), asInt, Option.bind_some, hk, Option.bind_some, if_neg (by exact nt), if_pos (Sz.ok3 ha hb hc), decide_eq_true rfl]
theorem k_figures : _law_kinds (some .NoFigures) 2 = some true := by decide +kernel
theorem k_rule : _law_kinds (some .NoRule) 3 = some true := by decide +kernel
theorem k_stand : _law_kinds (some .NoStand) 4 = some true := by decide +kernel
/-! #### _law_is_stand -/
theorem is_stand_no {rule : Int × List (List Int)} {d : PyData} (h : isLstD d = false) : Ok (_law_is_stand rule d) fun r => (r = true ↔ ∃ ns : List Int, d = .list (ns.map fun z => .int z) ∧ StB rule.2 ns) := by
  unfold _law_is_stand
  rw [h, if_pos (by exact rfl)]
  refine ⟨_, rfl, fun e => absurd e Bool.false_ne_true, fun ⟨ns, e, _⟩ => ?_⟩
  rw [e] at h
  exact absurd (show true = false from h) (by decide)
theorem is_stand_ok {rule : Int × List (List Int)} (g : GoodRule rule) {d : PyData} (h : Lv 5 d) : Ok (_law_is_stand rule d) fun r => (r = true ↔ ∃ ns : List Int, d = .list (ns.map fun z => .int z) ∧ StB rule.2 ns) := by
  cases d with
  | list xs =>
    have hl := h.l.1
    unfold _law_is_stand
    rw [if_neg (by exact nt), asLst, Option.bind_some]
    rw [forK_fm (p := fun _ => true) (g := fun t => isIntD t && !isBlD t) (B := 16777216) (fun acc x next hl => by
      rw [_law_is_stand_c1, if_pos rfl]
      cases hx : isIntD x with
      | true => rw [if_pos rfl, if_pos hl]; rfl
      | false => rw [if_neg Bool.false_ne_true, if_pos hl]; rfl) _ _ (by rw [List.length_nil]; omega)]
    rw [List.nil_append, List.filter_eq_self.mpr fun _ _ => rfl, _law_is_stand_k2]
    by_cases hm : false ∈ xs.map fun t => isIntD t && !isBlD t
    · rw [memT_iff.mpr hm, if_neg (by decide)]
      refine ⟨_, rfl, fun e => absurd e Bool.false_ne_true, fun ⟨ns, e, _⟩ => ?_⟩
      injection e with e
      subst e
      rw [List.map_map] at hm
      obtain ⟨y, _, hy⟩ := List.mem_map.mp hm
      exact absurd (show true = false from hy) (by decide)
    · rw [memT_no.mpr hm, if_pos (by exact rfl)]
      have ex : xs = (xs.map fun x => (asInt x).getD 0).map fun z => PyData.int z := by
        rw [List.map_map]
        refine (List.map_id xs).symm.trans (List.map_congr_left fun x hx => ?_)
        have : (isIntD x && !isBlD x) = true := by
          cases hq : isIntD x && !isBlD x with
          | true => rfl
          | false => exact absurd (List.mem_map.mpr ⟨x, hx, hq⟩) hm
        cases x with
        | int i => rfl
        | none => exact absurd this Bool.false_ne_true
        | bool _ => exact absurd this Bool.false_ne_true
        | str _ => exact absurd this Bool.false_ne_true
        | list _ => exact absurd this Bool.false_ne_true
        | tuple _ => exact absurd this Bool.false_ne_true
        | dict _ => exact absurd this Bool.false_ne_true
      generalize (xs.map fun x => (asInt x).getD 0) = ns at ex
      subst ex
      refine (law_all_ok g).bind fun A ⟨hA, _, _⟩ => ?_
      rw [ints_un, Option.bind_some]
      refine ⟨_, rfl, ?_⟩
      dsimp only
      rw [memT_iff, hA]
      constructor
      · exact fun h => ⟨ns, rfl, h⟩
      · rintro ⟨ms, e, hs⟩
        injection e with e
        have : ns = ms := by
          have h1 := ints_un ns
          rw [e] at h1
          have h2 := ints_un ms
          rw [h1] at h2
          exact Option.some.inj h2
        rw [this]; exact hs
  | bool _ => exact is_stand_no rfl
  | none => exact is_stand_no rfl
  | str _ => exact is_stand_no rfl
  | int _ => exact is_stand_no rfl
  | tuple _ => exact is_stand_no rfl
  | dict _ => exact is_stand_no rfl
/-! #### the odd things -/
theorem AF.item {b : Int} {xs : List PyData} (_ : 2 ≤ b) (_ : b ≤ 16) (hl : xs.length ≤ 1000) {x : PyData} (hx : x ∈ xs) (hf : figB b x = false) : AF b (.list xs) := by
  unfold AF
  rw [are_figures_big b hl]
  refine congrArg some (Bool.eq_false_iff.mpr fun e => ?_)
  have := List.all_eq_true.mp e x hx
  rw [hf] at this
  exact absurd this Bool.false_ne_true
/-- no figures, of a size that can be shown -/
def Bent (b : Int) (d : PyData) : Prop := AF b d ∧ Sz 8 4000000 d
theorem odd_figures_ok {st : DkS} {b : Int} {ds : List Int} (h : DkOk st) (hb : 2 ≤ b) (h16 : b ≤ 16) (hf : Figs b ds) (hl : ds.length ≤ 102) : Ok (_law_odd_figures st b ds) fun p => Bent b p.1 ∧ DkOk p.2 := by
  have sm : ∀ x ∈ ds, Sm x := fun x hx => by have := hf x hx; exact ⟨by omega, by omega⟩
  unfold _law_odd_figures
  refine (draw_ok h (by omega) (by omega)).bind fun ⟨r1, st1⟩ ⟨⟨a1, a2⟩, h1⟩ => ?_
  refine (odd_figure_ok5 h1 hb h16).bind fun ⟨r2, st2⟩ ⟨⟨o1, o2⟩, h2⟩ => ?_
  have o1 : Lv 1 r2 := o1
  have o2 : figB b r2 = false := o2
  have h2 : DkOk st2 := h2
  dsimp only
  have cA := cutT_le ds none (some r1)
  have cB := cutT_le ds (some r1) none
  have cC := cutT_le ds (some (r1 + 1)) none
  have sA := cutT_all (a := none) (b := some r1) sm
  have sB := cutT_all (a := some r1) (b := none) sm
  have sC := cutT_all (a := some (r1 + 1)) (b := none) sm
  generalize cutT ds none (some r1) = A at *
  generalize cutT ds (some r1) none = B at *
  generalize cutT ds (some (r1 + 1)) none = C at *
  refine Ok.guard (by simp only [List.length_append, List.length_map, List.length_cons, List.length_nil]; omega) ?_
  refine Ok.guard (by simp only [List.length_append, List.length_map, List.length_cons, List.length_nil]; omega) ?_
  refine Ok.guard (by simp only [List.length_append, List.length_map, List.length_cons, List.length_nil]; omega) ?_
  refine Ok.guard (by simp only [List.length_append, List.length_map, List.length_cons, List.length_nil]; omega) ?_
  refine Ok.guard (by simp only [List.length_append, List.length_map, List.length_cons, List.length_nil]; omega) ?_
  rw [Option.bind_some]
  refine forK_okI (P := fun pre s => s.1.length ≤ pre.length ∧ (∀ p ∈ s.1, Sm p.1 ∧ Sm p.2) ∧ DkOk s.2) ⟨Nat.le_refl _, all_n, h2⟩ ?_ ?_
  · rintro pre t post ⟨x3, st3⟩ next e ⟨p1, p2, p3⟩ hN
    have p1 : x3.length ≤ pre.length := p1
    have p2 : ∀ p ∈ x3, Sm p.1 ∧ Sm p.2 := p2
    have ht : t ∈ ds := by rw [e]; exact List.mem_append_right _ List.mem_cons_self
    have hp : pre.length ≤ 102 := by
      have := congrArg List.length e
      rw [List.length_append, List.length_cons] at this
      omega
    rw [_law_odd_figures_c1]
    refine Ok.guard (by omega) (hN _ ⟨?_, all_a p2 (all_c ⟨sm t ht, ⟨by show (0 : Int) ≤ 1; decide, by show (1 : Int) < 17; decide⟩⟩ all_n), p3⟩)
    show (x3 ++ [(t, 1)]).length ≤ (pre ++ [t]).length
    rw [List.length_append, List.length_append, List.length_singleton, List.length_singleton]; omega
  rintro ⟨x3, st3⟩ ⟨p1, p2, p3⟩
  have p1 : x3.length ≤ ds.length := p1
  have p2 : ∀ p ∈ x3, Sm p.1 ∧ Sm p.2 := p2
  have p3 : DkOk st3 := p3
  rw [_law_odd_figures_k2]
  refine Ok.guard (by simp only [List.length_append, List.length_map, List.length_cons, List.length_nil]; omega) ?_
  rw [Option.bind_some]
  refine (draw_ok p3 (by decide) (by decide)).bind fun ⟨r3, st4⟩ ⟨⟨a5, a6⟩, h4⟩ => ?_
  have a5 : 0 ≤ r3 := a5
  have a6 : r3 < 17 := a6
  have h4 : DkOk st4 := h4
  dsimp only
  refine Ok.bind (P := fun x : Int => 0 ≤ x ∧ x < 12) (atI_ok ?_ a5 (by simp only [List.length_cons, List.length_nil]; omega)) fun x5 hx5 => ?_
  · exact all_c (by decide) <| all_c (by decide) <| all_c (by decide) <| all_c (by decide) <| all_c (by decide) <| all_c (by decide) <| all_c (by decide) <| all_c (by decide) <| all_c (by decide) <| all_c (by decide) <| all_c (by decide) <| all_c (by decide) <| all_c (by decide) <| all_c (by decide) <| all_c (by decide) <| all_c (by decide) <| all_c (by decide) all_n
  obtain ⟨a7, a8⟩ := hx5
  refine Ok.bind (P := Bent b) (atI_ok ?_ a7 (by simp only [List.length_append, List.length_map, List.length_cons, List.length_nil]; omega)) fun x6 hx6 => Ok.mk ⟨hx6, h4⟩
  have oz : Sz 3 1000 r2 := o1.sz.mono (by decide) (by decide)
  have iz : ∀ {l : List Int}, (∀ x ∈ l, Sm x) → ∀ x ∈ l.map fun z => PyData.int z, Sz 3 1000 x := fun h => all_m fun x hx => (int_sz (by obtain ⟨a, b⟩ := h x hx; omega)).mono (by decide) (by decide)
  have big : ∀ {xs : List PyData}, xs.length ≤ 210 → (∀ x ∈ xs, Sz 3 1000 x) → Sz 8 4000000 (.list xs) := fun hl h => (Sz.list (m := 210) hl h).mono (by decide) (by decide)
  have lv8 : ∀ {k : Nat} {d : PyData}, k ≤ 4 → Lv k d → Sz 8 4000000 d := fun hk h => h.sz8 hk
  have off : ∀ {d : PyData}, are_figures b d = some false → AF b d := fun h => h
  have l10 : Lv 0 (.str ("10" : Str)) := Lv.strs.2.2.2.2.1
  refine all_a (all_m ?_) ?_
  · refine all_c ⟨AF.item hb h16 (by simp only [List.length_append, List.length_map, List.length_cons, List.length_nil]; omega) (List.mem_append_left _ (List.mem_append_right _ List.mem_cons_self)) o2, big (by simp only [List.length_append, List.length_map, List.length_cons, List.length_nil]; omega) (all_a (all_a (iz sA) (all_c oz all_n)) (iz sB))⟩ <| all_c ⟨AF.item hb h16 (by simp only [List.length_append, List.length_map, List.length_cons, List.length_nil]; omega) (List.mem_append_left _ (List.mem_append_right _ List.mem_cons_self)) o2, big (by simp only [List.length_append, List.length_map, List.length_cons, List.length_nil]; omega) (all_a (all_a (iz sA) (all_c oz all_n)) (iz sC))⟩ <| all_c ⟨AF.item hb h16 (by simp only [List.length_append, List.length_map, List.length_cons, List.length_nil]; omega) (List.mem_append_right _ List.mem_cons_self) o2, big (by simp only [List.length_append, List.length_map, List.length_cons, List.length_nil]; omega) (all_a (iz sm) (all_c oz all_n))⟩ all_n
  · refine all_c ⟨off rfl, (Sz.tuple (m := 210) (by simp only [List.length_append, List.length_map, List.length_cons, List.length_nil]; omega) (iz sm)).mono (by decide) (by decide)⟩ <| all_c ⟨off rfl, lv8 (k := 0) (by decide) .none⟩ <| all_c ⟨off rfl, lv8 (k := 0) (by decide) (.int (by decide))⟩ <| all_c ⟨off rfl, lv8 (k := 0) (by decide) l10⟩ <| all_c ⟨off rfl, lv8 (k := 0) (by decide) Lv.strs.1⟩ <| all_c ⟨off rfl, lv8 (k := 0) (by decide) .dict⟩ <|
      all_c ⟨AF.item (x := .list (ds.map fun z => .int z)) hb h16 (by rw [List.length_map, List.length_singleton]; decide) (by rw [List.map_cons]; exact List.mem_cons_self) rfl, ?_⟩ <| all_c ⟨off rfl, lv8 (k := 0) (by decide) .bool⟩ <| all_c ⟨off rfl, (dict_sz (by omega) p2).mono (by decide) (by decide)⟩ all_n
    exact (Sz.list (m := 1) (n := 7000) (k := 2) (by rw [List.length_map, List.length_singleton]; decide) (all_m (all_c (ints_sz (by omega) sm) all_n))).mono (by decide) (by decide)
theorem AF.not {b : Int} {d : PyData} (h : Lv 5 d) (n : ¬ AF b d) : ∃ ns : List Int, d = .list (ns.map fun z => .int z) ∧ Figs b ns ∧ ns.length ≤ 12 := by
  cases d with
  | list xs =>
    have hl := h.l.1
    have e := are_figures_big b (xs := xs) (by omega)
    cases ha : xs.all (figB b) with
    | false => rw [ha] at e; exact absurd e n
    | true =>
      have ha := List.all_eq_true.mp ha
      have ex : xs = (xs.map fun x => (asInt x).getD 0).map fun z => PyData.int z := by
        rw [List.map_map]
        refine (List.map_id xs).symm.trans (List.map_congr_left fun x hx => ?_)
        have := ha x hx
        cases x with
        | int i => rfl
        | none => exact absurd this Bool.false_ne_true
        | bool _ => exact absurd this Bool.false_ne_true
        | str _ => exact absurd this Bool.false_ne_true
        | list _ => exact absurd this Bool.false_ne_true
        | tuple _ => exact absurd this Bool.false_ne_true
        | dict _ => exact absurd this Bool.false_ne_true
      generalize (xs.map fun x => (asInt x).getD 0) = ns at ex
      subst ex
      rw [List.length_map] at hl
      refine ⟨ns, rfl, fun x hx => ?_, hl⟩
      have := ha (.int x) (List.mem_map.mpr ⟨x, hx, rfl⟩)
      rw [figB, Bool.and_eq_true] at this
      exact ⟨of_decide_eq_true this.1, of_decide_eq_true this.2⟩
  | bool _ => exact absurd rfl n
  | none => exact absurd rfl n
  | str _ => exact absurd rfl n
  | int _ => exact absurd rfl n
  | tuple _ => exact absurd rfl n
  | dict _ => exact absurd rfl n
theorem no_stand_ok {st : DkS} {rule : Int × List (List Int)} (h : DkOk st) (g : GoodRule rule) : Ok (_law_no_stand st rule) fun p => Lv 2 p.1 ∧ DkOk p.2 := by
  have lo := g.lo
  have hi := g.hi
  have few := g.few
  have rows := g.rows
  unfold _law_no_stand
  refine (law_all_ok g).bind fun A ⟨hA, l1, l2⟩ => ?_
  refine (draw_ok h (by omega) (by omega)).bind fun ⟨r2, st1⟩ ⟨⟨a1, a2⟩, h1⟩ => ?_
  have a1 : 0 ≤ r2 := a1
  have a2 : r2 < A.length := a2
  dsimp only
  refine Ok.bind (P := fun x => (∀ y ∈ x, Sm y) ∧ x.length ≤ 3) (atI_ok (fun x hx => ⟨Figs.sm g (StB.fig g ((hA x).mp hx)).1, (StB.fig g ((hA x).mp hx)).2⟩) a1 a2) fun x1 ⟨s1, l3⟩ => ?_
  refine (draw_ok h1 (by omega) (by omega)).bind fun ⟨r3, st2⟩ ⟨⟨a3, a4⟩, h2⟩ => ?_
  have a3 : 0 ≤ r3 := a3
  have a4 : r3 < rule.1 := a4
  have s3 : Sm r3 := ⟨a3, by omega⟩
  have h2 : DkOk st2 := h2
  dsimp only
  refine Ok.guard (by simp only [List.length_append, List.length_map, List.length_cons, List.length_nil, List.length_reverse]; omega) ?_
  refine Ok.guard (by simp only [List.length_append, List.length_map, List.length_cons, List.length_nil, List.length_reverse]; omega) ?_
  refine Ok.guard (by omega) ?_
  refine Ok.guard (by simp only [List.length_append, List.length_map, List.length_cons, List.length_nil, List.length_reverse]; omega) ?_
  rw [Option.bind_some]
  refine Ok.guard (by simp only [List.length_append, List.length_map, List.length_cons, List.length_nil, List.length_reverse]; omega) ?_
  refine Ok.bind (P := Rw) (atI_ok (all_a rows (all_c ⟨by decide, all_c ⟨by decide, by decide⟩ all_n⟩ all_n)) (by decide) (by simp only [List.length_append, List.length_map, List.length_cons, List.length_nil, List.length_reverse]; omega)) fun x3 w3 => ?_
  refine Ok.guard (by simp only [List.length_append, List.length_map, List.length_cons, List.length_nil, List.length_reverse]; omega) ?_
  refine Ok.bind (P := Rw) ?_ fun x4 w4 => ?_
  · have hw : ∀ s ∈ rule.2 ++ [[(1 : Int)]], Rw s := all_a rows (all_c ⟨by decide, all_c ⟨by decide, by decide⟩ all_n⟩ all_n)
    unfold atI ixN
    rw [if_neg (by decide), if_pos (by simp only [List.length_append, List.length_map, List.length_cons, List.length_nil, List.length_reverse]; omega), Option.bind_some]
    have hlt : (-1 + ((rule.2 ++ [[(1 : Int)]]).length : Int)).toNat < (rule.2 ++ [[(1 : Int)]]).length := by
      rw [List.length_append, List.length_singleton]; omega
    rw [List.getElem?_eq_getElem hlt]
    exact ⟨_, rfl, hw _ (List.getElem_mem hlt)⟩
  refine Ok.guard (by simp only [List.length_append, List.length_map, List.length_cons, List.length_nil, List.length_reverse]; omega) ?_
  rw [Option.bind_some]
  refine (draw_ok h2 (by decide) (by decide)).bind fun ⟨r4, st3⟩ ⟨⟨a5, a6⟩, h3⟩ => ?_
  have a5 : 0 ≤ r4 := a5
  have a6 : r4 < 18 := a6
  have h3 : DkOk st3 := h3
  dsimp only
  refine Ok.bind (P := Lv 2) (atI_ok ?_ a5 (by simp only [List.length_append, List.length_map, List.length_cons, List.length_nil, List.length_reverse]; omega)) fun x6 o6 => Ok.mk ⟨o6, h3⟩
  have z0 : Sm 0 := ⟨by decide, by decide⟩
  have one : ∀ x ∈ [r3], Sm x := all_c s3 all_n
  refine all_a ?_ ?_
  · exact all_c (.ints (by simp only [List.length_append, List.length_map, List.length_cons, List.length_nil, List.length_reverse]; omega) (all_a s1 one)) <| all_c (.ints (by simp only [List.length_append, List.length_map, List.length_cons, List.length_nil, List.length_reverse]; omega) (all_a one s1)) <| all_c (.ints (by simp only [List.length_append, List.length_map, List.length_cons, List.length_nil, List.length_reverse]; omega) one) <| all_c (.ints (by simp only [List.length_append, List.length_map, List.length_cons, List.length_nil, List.length_reverse]; omega) fun x hx => s1 x (List.mem_reverse.mp hx)) <| all_c (.ints (by simp only [List.length_append, List.length_map, List.length_cons, List.length_nil, List.length_reverse]; omega) (all_a (all_a s1 s1) (all_c z0 all_n))) <| all_c (.intsT (by omega) s1) <| all_c .none <| all_c Lv.strs.1 <| all_c .dict all_n
  · refine all_c (.ints (Nat.le_trans w3.1 (by decide)) w3.2) <| all_c (.ints (Nat.le_trans w4.1 (by decide)) w4.2) <| all_c (.int (by decide)) <| all_c .bool <| all_c (.rows (k := 0) (by simp only [List.length_append, List.length_map, List.length_cons, List.length_nil, List.length_reverse]; omega) (all_c ⟨by omega, s1⟩ all_n)) <| all_c (.ints (by simp only [List.length_append, List.length_map, List.length_cons, List.length_nil, List.length_reverse]; omega) (all_c z0 <| all_c z0 <| all_c z0 <| all_c z0 all_n)) <| all_c (.ints (by simp only [List.length_append, List.length_map, List.length_cons, List.length_nil, List.length_reverse]; omega) (all_c ⟨by omega, by omega⟩ all_n)) <| all_c (.list (k := 1) (by simp only [List.length_append, List.length_map, List.length_cons, List.length_nil, List.length_reverse]; omega) (all_m (all_c .bool all_n))) <| all_c (.list (k := 1) (by simp only [List.length_append, List.length_map, List.length_cons, List.length_nil, List.length_reverse]; omega) (all_m (all_c Lv.strs.2.1 all_n))) all_n
/-! #### the law -/
theorem law_true (ns : List Int) : law ns = some true := by
  unfold law
  refine Ok.eq (forK_ok (P := DkOk) (mkDeck_ok ns) (fun st t next _ h hN => ?_) fun st h => Ok.mk rfl)
  rw [law_b1]
  refine (some_rule_ok h).bind fun ⟨r1, st2⟩ ⟨g, h2⟩ => ?_
  have g : GoodRule r1 := g
  have h2 : DkOk st2 := h2
  dsimp only
  refine forK_ok (P := DkOk) h2 (fun st3 t2 next2 ht2 h3 hN2 => ?_) fun st3 h => by rw [law_e4]; exact hN _ h
  have ht2 := irange_mem.mp ht2
  have lo := g.lo
  have hi := g.hi
  rw [law_b3]
  refine (no_rule_ok h3 g).bind fun ⟨r2, st4⟩ ⟨o2, h4⟩ => ?_
  have o2 : Lv 4 r2 := o2
  dsimp only
  refine (draw_ok h4 (by decide) (by decide)).bind fun ⟨r3, st5⟩ ⟨⟨a1, a2⟩, h5⟩ => ?_
  have a1 : 0 ≤ r3 := a1
  have a2 : r3 < 6 := a2
  dsimp only
  refine Ok.guard ⟨by omega, by omega⟩ ?_
  refine forK_okI (P := fun pre s => s.1.length = pre.length ∧ Figs r1.1 s.1 ∧ DkOk s.2) ⟨rfl, Figs.nil, h5⟩ (fun pre k post s next3 e hP hN3 => ?_) (fun s hP => ?_)
  · obtain ⟨x2, st6⟩ := s
    obtain ⟨p1, p2, p3⟩ := hP
    have p1 : x2.length = pre.length := p1
    have hpl := congrArg List.length e
    rw [irange_len, List.length_append, List.length_cons] at hpl
    rw [law_c5]
    refine (draw_ok p3 (by omega) (by omega)).bind fun ⟨r4, st7⟩ ⟨b1, b2⟩ => ?_
    dsimp only
    refine Ok.guard (by omega) (hN3 _ ⟨?_, Figs.app p2 (Figs.one b1), b2⟩)
    show (x2 ++ [r4]).length = (pre ++ [k]).length
    rw [List.length_append, List.length_append, List.length_singleton, List.length_singleton, p1]
  obtain ⟨x2, st6⟩ := s
  obtain ⟨p1, p2, p3⟩ := hP
  have p1 : x2.length = _ := p1
  have p2 : Figs r1.1 x2 := p2
  have p3 : DkOk st6 := p3
  rw [irange_len] at p1
  have l2 : x2.length ≤ 6 := by omega
  rw [law_k6]
  refine (odd_figures_ok p3 lo hi p2 (by omega)).bind fun ⟨r5, st8⟩ ⟨bent, h8⟩ => ?_
  have bent : Bent r1.1 r5 := bent
  dsimp only
  refine (odd_figure_ok5 h8 lo hi).bind fun ⟨r6, st9⟩ ⟨⟨o6, f6⟩, h9⟩ => ?_
  have o6 : Lv 1 r6 := o6
  have f6 : figB r1.1 r6 = false := f6
  dsimp only
  refine (no_stand_ok h9 g).bind fun ⟨r7, st10⟩ ⟨o7, h10⟩ => ?_
  have o7 : Lv 2 r7 := o7
  dsimp only
  refine (draw_ok h10 (by omega) (by omega)).bind fun ⟨r8, st11⟩ ⟨⟨c1, c2⟩, h11⟩ => ?_
  have c1 : 0 ≤ r8 := c1
  have c2 : r8 < r1.1 := c2
  dsimp only
  obtain ⟨A, eA, hA, la1, la2⟩ := law_all_ok g
  rw [eA, Option.bind_some, Option.bind_some]
  refine (draw_ok h11 (by omega) (by omega)).bind fun ⟨r11, st12⟩ ⟨⟨c3, c4⟩, h12⟩ => ?_
  have c3 : 0 ≤ r11 := c3
  have c4 : r11 < A.length := c4
  have h12 : DkOk st12 := h12
  dsimp only
  refine Ok.bind (P := StB r1.2) (atI_ok (fun x hx => (hA x).mp hx) c3 c4) fun x3 s3 => ?_
  obtain ⟨f3, l3⟩ := StB.fig g s3
  have z2 : Sz 8 4000000 (.list (x2.map fun z => .int z)) := (ints_sz (by omega) (Figs.sm g p2)).mono (by decide) (by decide)
  have z3 : Sz 8 4000000 (.list (x3.map fun z => .int z)) := (ints_sz (by omega) (Figs.sm g f3)).mono (by decide) (by decide)
  have zi : ∀ {i : Int}, i.natAbs < 10 ^ 20 → Sz 8 4000000 (.int i) := fun h => (int_sz (Nat.lt_trans h (by decide))).mono (by decide) (by decide)
  have z8 : Sz 8 4000000 (.int r8) := zi (by omega)
  have z0 : Sz 8 4000000 (.int 0) := zi (by decide)
  have zn : Sz 8 4000000 .none := Lv.sz8 (k := 0) .none (by decide)
  have z6 := o6.sz8 (by decide)
  have z7 := o7.sz8 (by decide)
  have zr2 := o2.sz8 (by decide)
  have zr : Sz 8 4000000 (ruD r1) := g.lv.sz8 (by decide)
  refine Ok.bind (P := fun l : List PyData => ∃ a b, l = [a, b] ∧ Sz 8 4000000 a ∧ Sz 8 4000000 b) (atI_ok (all_c ⟨_, _, rfl, z2, z8⟩ <| all_c ⟨_, _, rfl, bent.2, z6⟩ <| all_c ⟨_, _, rfl, z7, z6⟩ all_n) (by omega) (by simp only [List.length_cons, List.length_nil]; omega)) fun x4 ⟨a, b, e4, za, zb⟩ => ?_
  subst e4
  obtain ⟨v1, e1, q1⟩ := is_rule_D o2.up
  obtain ⟨v2, e2, q2⟩ := law_is_rule_D r2
  refine forK_ok (P := DkOk) h12 (fun st13 t4 next4 _ h13 hN4 => ?_) (fun st13 h13 => ?_)
  · rw [law_b7, e2, Option.bind_some]
    cases v2 with
    | true => rw [if_neg (by exact nt)]; exact hN4 _ h13
    | false =>
      have hv : v1 = false := by
        cases v1 with
        | false => rfl
        | true => exact absurd (q2.mpr (q1.mp rfl)) Bool.false_ne_true
      rw [hv] at e1
      have at1 : atI [a, b] (1 : Int) = some b := rfl
      rw [if_pos (by exact rfl), atI0, Option.bind_some, at1, Option.bind_some, right_some zr2 za zb (c_rule e1) k_rule, Option.bind_some, if_neg (by exact nt)]
      exact hN4 _ h13
  · rw [law_e8]
    have R1 := right_some zr bent.2 z0 (c0_fig g bent.1) k_figures
    have R2 := right_none zr z2 z0 (c0_ok g p2 (by omega))
    have R4 := right_some zr z3 z6 (c2_fig g s3 f6) k_figures
    have R5 := right_none zr z3 z8 (c2_ok g s3 ⟨c1, c2⟩)
    have R6 := right_none zr zn zn (c1_ok (d := .none) (f := .none) g)
    obtain ⟨v3, e3, q3⟩ := is_stand_ok g o7.up.up.up
    rw [R1, Option.bind_some, if_neg (by exact nt), R2, Option.bind_some, if_neg (by exact nt), e3, Option.bind_some]
    cases v3 with
    | true =>
      obtain ⟨ms, rfl, hs⟩ := q3.mp rfl
      have at1 : atI [PyData.int 4, PyData.none] (if true = true then (1 : Int) else 0) = some .none := rfl
      rw [at1, Option.bind_some, right_none zr z7 z8 (c2_ok g hs ⟨c1, c2⟩), Option.bind_some, if_neg (by exact nt), R4, Option.bind_some, if_neg (by exact nt), if_neg (by decide), R5, Option.bind_some, if_neg (by exact nt), R6, Option.bind_some, if_neg (by exact nt)]
      exact hN2 _ h13
    | false =>
      have no : ∀ f : PyData, _law_caught 2 (ruD r1) r7 f = some (some .NoStand) := fun f => by
        by_cases hf : AF r1.1 r7
        · exact c2_af g hf
        · obtain ⟨ns, rfl, h1, h2⟩ : ∃ ns : List Int, r7 = .list (ns.map fun z => .int z) ∧ Figs r1.1 ns ∧ ns.length ≤ 12 := AF.not (o7.up.up.up) hf
          exact c2_no g h1 (by omega) fun hs => absurd (q3.mpr ⟨ns, rfl, hs⟩) Bool.false_ne_true
      have at1 : atI [PyData.int 4, PyData.none] (if false = true then (1 : Int) else 0) = some (.int 4) := rfl
      rw [at1, Option.bind_some, right_some zr z7 z8 (no _) k_stand, Option.bind_some, if_neg (by exact nt), R4, Option.bind_some, if_neg (by exact nt), if_pos (by exact rfl), right_some zr z7 z6 (no _) k_stand, Option.bind_some, if_neg (by exact nt), R5, Option.bind_some, if_neg (by exact nt), R6, Option.bind_some, if_neg (by exact nt)]
      exact hN2 _ h13

theorem all_mk {l : PySem.W.OpenLaw} {w : World} {K : PySem.W.Frag} {h : Heap} {mg : Str → Option Value} {fa : Addr}
    (X : K.In h) (G : h.Ns mainGlobals mg) (hfa : mg "law" = some (.ref fa))
    {f__law_lacks : Addr} {od__law_lacks an__law_lacks : Option Addr} {sl__law_lacks : Array (Option Value)} {oc__law_lacks kV__law_lacks dc__law_lacks pm__law_lacks cd__law_lacks ct__law_lacks : Value}
    (a__law_lacks : PySem.W.nsIn K mainGlobals "_law_lacks" = some (some (.ref f__law_lacks)))
    (l__law_lacks : K.lookup f__law_lacks = some ⟨oc__law_lacks, od__law_lacks, .func (PySem.W.fnOf "_law_lacks" "_law_lacks" (defArgs s__law_lacks) (defBody s__law_lacks) (defScope s__law_lacks) .none kV__law_lacks dc__law_lacks pm__law_lacks an__law_lacks cd__law_lacks ct__law_lacks), sl__law_lacks⟩)
    (c__law_lacks : PySem.W.codeIn K cd__law_lacks "_law_lacks" = true) (k__law_lacks : PySem.W.keepIn K (.ref f__law_lacks) = true)
    {f__law_all : Addr} {od__law_all an__law_all : Option Addr} {sl__law_all : Array (Option Value)} {oc__law_all kV__law_all dc__law_all pm__law_all cd__law_all ct__law_all : Value}
    (a__law_all : PySem.W.nsIn K mainGlobals "_law_all" = some (some (.ref f__law_all)))
    (l__law_all : K.lookup f__law_all = some ⟨oc__law_all, od__law_all, .func (PySem.W.fnOf "_law_all" "_law_all" (defArgs s__law_all) (defBody s__law_all) (defScope s__law_all) .none kV__law_all dc__law_all pm__law_all an__law_all cd__law_all ct__law_all), sl__law_all⟩)
    (c__law_all : PySem.W.codeIn K cd__law_all "_law_all" = true) (k__law_all : PySem.W.keepIn K (.ref f__law_all) = true)
    {f__law_deck : Addr} {od__law_deck an__law_deck : Option Addr} {sl__law_deck : Array (Option Value)} {oc__law_deck kV__law_deck dc__law_deck pm__law_deck cd__law_deck ct__law_deck : Value}
    (a__law_deck : PySem.W.nsIn K mainGlobals "_law_deck" = some (some (.ref f__law_deck)))
    (l__law_deck : K.lookup f__law_deck = some ⟨oc__law_deck, od__law_deck, .func (PySem.W.fnOf "_law_deck" "_law_deck" (defArgs s__law_deck) (defBody s__law_deck) (defScope s__law_deck) .none kV__law_deck dc__law_deck pm__law_deck an__law_deck cd__law_deck ct__law_deck), sl__law_deck⟩)
    (c__law_deck : PySem.W.codeIn K cd__law_deck "_law_deck" = true) (k__law_deck : PySem.W.keepIn K (.ref f__law_deck) = true)
    {f__law_draw : Addr} {od__law_draw an__law_draw : Option Addr} {sl__law_draw : Array (Option Value)} {oc__law_draw kV__law_draw dc__law_draw pm__law_draw cd__law_draw ct__law_draw : Value}
    (a__law_draw : PySem.W.nsIn K mainGlobals "_law_draw" = some (some (.ref f__law_draw)))
    (l__law_draw : K.lookup f__law_draw = some ⟨oc__law_draw, od__law_draw, .func (PySem.W.fnOf "_law_draw" "_law_draw" (defArgs s__law_draw) (defBody s__law_draw) (defScope s__law_draw) .none kV__law_draw dc__law_draw pm__law_draw an__law_draw cd__law_draw ct__law_draw), sl__law_draw⟩)
    (c__law_draw : PySem.W.codeIn K cd__law_draw "_law_draw" = true) (k__law_draw : PySem.W.keepIn K (.ref f__law_draw) = true)
    {f__law_is_rule : Addr} {od__law_is_rule an__law_is_rule : Option Addr} {sl__law_is_rule : Array (Option Value)} {oc__law_is_rule kV__law_is_rule dc__law_is_rule pm__law_is_rule cd__law_is_rule ct__law_is_rule : Value}
    (a__law_is_rule : PySem.W.nsIn K mainGlobals "_law_is_rule" = some (some (.ref f__law_is_rule)))
    (l__law_is_rule : K.lookup f__law_is_rule = some ⟨oc__law_is_rule, od__law_is_rule, .func (PySem.W.fnOf "_law_is_rule" "_law_is_rule" (defArgs s__law_is_rule) (defBody s__law_is_rule) (defScope s__law_is_rule) .none kV__law_is_rule dc__law_is_rule pm__law_is_rule an__law_is_rule cd__law_is_rule ct__law_is_rule), sl__law_is_rule⟩)
    (c__law_is_rule : PySem.W.codeIn K cd__law_is_rule "_law_is_rule" = true) (k__law_is_rule : PySem.W.keepIn K (.ref f__law_is_rule) = true)
    {f__law_is_stand : Addr} {od__law_is_stand an__law_is_stand : Option Addr} {sl__law_is_stand : Array (Option Value)} {oc__law_is_stand kV__law_is_stand dc__law_is_stand pm__law_is_stand cd__law_is_stand ct__law_is_stand : Value}
    (a__law_is_stand : PySem.W.nsIn K mainGlobals "_law_is_stand" = some (some (.ref f__law_is_stand)))
    (l__law_is_stand : K.lookup f__law_is_stand = some ⟨oc__law_is_stand, od__law_is_stand, .func (PySem.W.fnOf "_law_is_stand" "_law_is_stand" (defArgs s__law_is_stand) (defBody s__law_is_stand) (defScope s__law_is_stand) .none kV__law_is_stand dc__law_is_stand pm__law_is_stand an__law_is_stand cd__law_is_stand ct__law_is_stand), sl__law_is_stand⟩)
    (c__law_is_stand : PySem.W.codeIn K cd__law_is_stand "_law_is_stand" = true) (k__law_is_stand : PySem.W.keepIn K (.ref f__law_is_stand) = true)
    {f__law_no_base : Addr} {od__law_no_base an__law_no_base : Option Addr} {sl__law_no_base : Array (Option Value)} {oc__law_no_base kV__law_no_base dc__law_no_base pm__law_no_base cd__law_no_base ct__law_no_base : Value}
    (a__law_no_base : PySem.W.nsIn K mainGlobals "_law_no_base" = some (some (.ref f__law_no_base)))
    (l__law_no_base : K.lookup f__law_no_base = some ⟨oc__law_no_base, od__law_no_base, .func (PySem.W.fnOf "_law_no_base" "_law_no_base" (defArgs s__law_no_base) (defBody s__law_no_base) (defScope s__law_no_base) .none kV__law_no_base dc__law_no_base pm__law_no_base an__law_no_base cd__law_no_base ct__law_no_base), sl__law_no_base⟩)
    (c__law_no_base : PySem.W.codeIn K cd__law_no_base "_law_no_base" = true) (k__law_no_base : PySem.W.keepIn K (.ref f__law_no_base) = true)
    {f__law_odd_figure : Addr} {od__law_odd_figure an__law_odd_figure : Option Addr} {sl__law_odd_figure : Array (Option Value)} {oc__law_odd_figure kV__law_odd_figure dc__law_odd_figure pm__law_odd_figure cd__law_odd_figure ct__law_odd_figure : Value}
    (a__law_odd_figure : PySem.W.nsIn K mainGlobals "_law_odd_figure" = some (some (.ref f__law_odd_figure)))
    (l__law_odd_figure : K.lookup f__law_odd_figure = some ⟨oc__law_odd_figure, od__law_odd_figure, .func (PySem.W.fnOf "_law_odd_figure" "_law_odd_figure" (defArgs s__law_odd_figure) (defBody s__law_odd_figure) (defScope s__law_odd_figure) .none kV__law_odd_figure dc__law_odd_figure pm__law_odd_figure an__law_odd_figure cd__law_odd_figure ct__law_odd_figure), sl__law_odd_figure⟩)
    (c__law_odd_figure : PySem.W.codeIn K cd__law_odd_figure "_law_odd_figure" = true) (k__law_odd_figure : PySem.W.keepIn K (.ref f__law_odd_figure) = true)
    {f__law_no_rule : Addr} {od__law_no_rule an__law_no_rule : Option Addr} {sl__law_no_rule : Array (Option Value)} {oc__law_no_rule kV__law_no_rule dc__law_no_rule pm__law_no_rule cd__law_no_rule ct__law_no_rule : Value}
    (a__law_no_rule : PySem.W.nsIn K mainGlobals "_law_no_rule" = some (some (.ref f__law_no_rule)))
    (l__law_no_rule : K.lookup f__law_no_rule = some ⟨oc__law_no_rule, od__law_no_rule, .func (PySem.W.fnOf "_law_no_rule" "_law_no_rule" (defArgs s__law_no_rule) (defBody s__law_no_rule) (defScope s__law_no_rule) .none kV__law_no_rule dc__law_no_rule pm__law_no_rule an__law_no_rule cd__law_no_rule ct__law_no_rule), sl__law_no_rule⟩)
    (c__law_no_rule : PySem.W.codeIn K cd__law_no_rule "_law_no_rule" = true) (k__law_no_rule : PySem.W.keepIn K (.ref f__law_no_rule) = true)
    {f__law_no_stand : Addr} {od__law_no_stand an__law_no_stand : Option Addr} {sl__law_no_stand : Array (Option Value)} {oc__law_no_stand kV__law_no_stand dc__law_no_stand pm__law_no_stand cd__law_no_stand ct__law_no_stand : Value}
    (a__law_no_stand : PySem.W.nsIn K mainGlobals "_law_no_stand" = some (some (.ref f__law_no_stand)))
    (l__law_no_stand : K.lookup f__law_no_stand = some ⟨oc__law_no_stand, od__law_no_stand, .func (PySem.W.fnOf "_law_no_stand" "_law_no_stand" (defArgs s__law_no_stand) (defBody s__law_no_stand) (defScope s__law_no_stand) .none kV__law_no_stand dc__law_no_stand pm__law_no_stand an__law_no_stand cd__law_no_stand ct__law_no_stand), sl__law_no_stand⟩)
    (c__law_no_stand : PySem.W.codeIn K cd__law_no_stand "_law_no_stand" = true) (k__law_no_stand : PySem.W.keepIn K (.ref f__law_no_stand) = true)
    {f__law_odd_figures : Addr} {od__law_odd_figures an__law_odd_figures : Option Addr} {sl__law_odd_figures : Array (Option Value)} {oc__law_odd_figures kV__law_odd_figures dc__law_odd_figures pm__law_odd_figures cd__law_odd_figures ct__law_odd_figures : Value}
    (a__law_odd_figures : PySem.W.nsIn K mainGlobals "_law_odd_figures" = some (some (.ref f__law_odd_figures)))
    (l__law_odd_figures : K.lookup f__law_odd_figures = some ⟨oc__law_odd_figures, od__law_odd_figures, .func (PySem.W.fnOf "_law_odd_figures" "_law_odd_figures" (defArgs s__law_odd_figures) (defBody s__law_odd_figures) (defScope s__law_odd_figures) .none kV__law_odd_figures dc__law_odd_figures pm__law_odd_figures an__law_odd_figures cd__law_odd_figures ct__law_odd_figures), sl__law_odd_figures⟩)
    (c__law_odd_figures : PySem.W.codeIn K cd__law_odd_figures "_law_odd_figures" = true) (k__law_odd_figures : PySem.W.keepIn K (.ref f__law_odd_figures) = true)
    {f_is_whole : Addr} {od_is_whole an_is_whole : Option Addr} {sl_is_whole : Array (Option Value)} {oc_is_whole kV_is_whole dc_is_whole pm_is_whole cd_is_whole ct_is_whole : Value}
    (a_is_whole : PySem.W.nsIn K mainGlobals "is_whole" = some (some (.ref f_is_whole)))
    (l_is_whole : K.lookup f_is_whole = some ⟨oc_is_whole, od_is_whole, .func (PySem.W.fnOf "is_whole" "is_whole" (defArgs s_is_whole) (defBody s_is_whole) (defScope s_is_whole) .none kV_is_whole dc_is_whole pm_is_whole an_is_whole cd_is_whole ct_is_whole), sl_is_whole⟩)
    (c_is_whole : PySem.W.codeIn K cd_is_whole "is_whole" = true) (k_is_whole : PySem.W.keepIn K (.ref f_is_whole) = true)
    {f_is_base : Addr} {od_is_base an_is_base : Option Addr} {sl_is_base : Array (Option Value)} {oc_is_base kV_is_base dc_is_base pm_is_base cd_is_base ct_is_base : Value}
    (a_is_base : PySem.W.nsIn K mainGlobals "is_base" = some (some (.ref f_is_base)))
    (l_is_base : K.lookup f_is_base = some ⟨oc_is_base, od_is_base, .func (PySem.W.fnOf "is_base" "is_base" (defArgs s_is_base) (defBody s_is_base) (defScope s_is_base) .none kV_is_base dc_is_base pm_is_base an_is_base cd_is_base ct_is_base), sl_is_base⟩)
    (c_is_base : PySem.W.codeIn K cd_is_base "is_base" = true) (k_is_base : PySem.W.keepIn K (.ref f_is_base) = true)
    {f_is_figure : Addr} {od_is_figure an_is_figure : Option Addr} {sl_is_figure : Array (Option Value)} {oc_is_figure kV_is_figure dc_is_figure pm_is_figure cd_is_figure ct_is_figure : Value}
    (a_is_figure : PySem.W.nsIn K mainGlobals "is_figure" = some (some (.ref f_is_figure)))
    (l_is_figure : K.lookup f_is_figure = some ⟨oc_is_figure, od_is_figure, .func (PySem.W.fnOf "is_figure" "is_figure" (defArgs s_is_figure) (defBody s_is_figure) (defScope s_is_figure) .none kV_is_figure dc_is_figure pm_is_figure an_is_figure cd_is_figure ct_is_figure), sl_is_figure⟩)
    (c_is_figure : PySem.W.codeIn K cd_is_figure "is_figure" = true) (k_is_figure : PySem.W.keepIn K (.ref f_is_figure) = true)
    {f_are_figures : Addr} {od_are_figures an_are_figures : Option Addr} {sl_are_figures : Array (Option Value)} {oc_are_figures kV_are_figures dc_are_figures pm_are_figures cd_are_figures ct_are_figures : Value}
    (a_are_figures : PySem.W.nsIn K mainGlobals "are_figures" = some (some (.ref f_are_figures)))
    (l_are_figures : K.lookup f_are_figures = some ⟨oc_are_figures, od_are_figures, .func (PySem.W.fnOf "are_figures" "are_figures" (defArgs s_are_figures) (defBody s_are_figures) (defScope s_are_figures) .none kV_are_figures dc_are_figures pm_are_figures an_are_figures cd_are_figures ct_are_figures), sl_are_figures⟩)
    (c_are_figures : PySem.W.codeIn K cd_are_figures "are_figures" = true) (k_are_figures : PySem.W.keepIn K (.ref f_are_figures) = true)
    {f_is_stretch : Addr} {od_is_stretch an_is_stretch : Option Addr} {sl_is_stretch : Array (Option Value)} {oc_is_stretch kV_is_stretch dc_is_stretch pm_is_stretch cd_is_stretch ct_is_stretch : Value}
    (a_is_stretch : PySem.W.nsIn K mainGlobals "is_stretch" = some (some (.ref f_is_stretch)))
    (l_is_stretch : K.lookup f_is_stretch = some ⟨oc_is_stretch, od_is_stretch, .func (PySem.W.fnOf "is_stretch" "is_stretch" (defArgs s_is_stretch) (defBody s_is_stretch) (defScope s_is_stretch) .none kV_is_stretch dc_is_stretch pm_is_stretch an_is_stretch cd_is_stretch ct_is_stretch), sl_is_stretch⟩)
    (c_is_stretch : PySem.W.codeIn K cd_is_stretch "is_stretch" = true) (k_is_stretch : PySem.W.keepIn K (.ref f_is_stretch) = true)
    {f_is_rule : Addr} {od_is_rule an_is_rule : Option Addr} {sl_is_rule : Array (Option Value)} {oc_is_rule kV_is_rule dc_is_rule pm_is_rule cd_is_rule ct_is_rule : Value}
    (a_is_rule : PySem.W.nsIn K mainGlobals "is_rule" = some (some (.ref f_is_rule)))
    (l_is_rule : K.lookup f_is_rule = some ⟨oc_is_rule, od_is_rule, .func (PySem.W.fnOf "is_rule" "is_rule" (defArgs s_is_rule) (defBody s_is_rule) (defScope s_is_rule) .none kV_is_rule dc_is_rule pm_is_rule an_is_rule cd_is_rule ct_is_rule), sl_is_rule⟩)
    (c_is_rule : PySem.W.codeIn K cd_is_rule "is_rule" = true) (k_is_rule : PySem.W.keepIn K (.ref f_is_rule) = true)
    {f_need_rule : Addr} {od_need_rule an_need_rule : Option Addr} {sl_need_rule : Array (Option Value)} {oc_need_rule kV_need_rule dc_need_rule pm_need_rule cd_need_rule ct_need_rule : Value}
    (a_need_rule : PySem.W.nsIn K mainGlobals "need_rule" = some (some (.ref f_need_rule)))
    (l_need_rule : K.lookup f_need_rule = some ⟨oc_need_rule, od_need_rule, .func (PySem.W.fnOf "need_rule" "need_rule" (defArgs s_need_rule) (defBody s_need_rule) (defScope s_need_rule) .none kV_need_rule dc_need_rule pm_need_rule an_need_rule cd_need_rule ct_need_rule), sl_need_rule⟩)
    (c_need_rule : PySem.W.codeIn K cd_need_rule "need_rule" = true) (k_need_rule : PySem.W.keepIn K (.ref f_need_rule) = true)
    {f_stands_in : Addr} {od_stands_in an_stands_in : Option Addr} {sl_stands_in : Array (Option Value)} {oc_stands_in kV_stands_in dc_stands_in pm_stands_in cd_stands_in ct_stands_in : Value}
    (a_stands_in : PySem.W.nsIn K mainGlobals "stands_in" = some (some (.ref f_stands_in)))
    (l_stands_in : K.lookup f_stands_in = some ⟨oc_stands_in, od_stands_in, .func (PySem.W.fnOf "stands_in" "stands_in" (defArgs s_stands_in) (defBody s_stands_in) (defScope s_stands_in) .none kV_stands_in dc_stands_in pm_stands_in an_stands_in cd_stands_in ct_stands_in), sl_stands_in⟩)
    (c_stands_in : PySem.W.codeIn K cd_stands_in "stands_in" = true) (k_stands_in : PySem.W.keepIn K (.ref f_stands_in) = true)
    {f_lacks_all : Addr} {od_lacks_all an_lacks_all : Option Addr} {sl_lacks_all : Array (Option Value)} {oc_lacks_all kV_lacks_all dc_lacks_all pm_lacks_all cd_lacks_all ct_lacks_all : Value}
    (a_lacks_all : PySem.W.nsIn K mainGlobals "lacks_all" = some (some (.ref f_lacks_all)))
    (l_lacks_all : K.lookup f_lacks_all = some ⟨oc_lacks_all, od_lacks_all, .func (PySem.W.fnOf "lacks_all" "lacks_all" (defArgs s_lacks_all) (defBody s_lacks_all) (defScope s_lacks_all) .none kV_lacks_all dc_lacks_all pm_lacks_all an_lacks_all cd_lacks_all ct_lacks_all), sl_lacks_all⟩)
    (c_lacks_all : PySem.W.codeIn K cd_lacks_all "lacks_all" = true) (k_lacks_all : PySem.W.keepIn K (.ref f_lacks_all) = true)
    {f_stands_of : Addr} {od_stands_of an_stands_of : Option Addr} {sl_stands_of : Array (Option Value)} {oc_stands_of kV_stands_of dc_stands_of pm_stands_of cd_stands_of ct_stands_of : Value}
    (a_stands_of : PySem.W.nsIn K mainGlobals "stands_of" = some (some (.ref f_stands_of)))
    (l_stands_of : K.lookup f_stands_of = some ⟨oc_stands_of, od_stands_of, .func (PySem.W.fnOf "stands_of" "stands_of" (defArgs s_stands_of) (defBody s_stands_of) (defScope s_stands_of) .none kV_stands_of dc_stands_of pm_stands_of an_stands_of cd_stands_of ct_stands_of), sl_stands_of⟩)
    (c_stands_of : PySem.W.codeIn K cd_stands_of "stands_of" = true) (k_stands_of : PySem.W.keepIn K (.ref f_stands_of) = true)
    {f_all_stands : Addr} {od_all_stands an_all_stands : Option Addr} {sl_all_stands : Array (Option Value)} {oc_all_stands kV_all_stands dc_all_stands pm_all_stands cd_all_stands ct_all_stands : Value}
    (a_all_stands : PySem.W.nsIn K mainGlobals "all_stands" = some (some (.ref f_all_stands)))
    (l_all_stands : K.lookup f_all_stands = some ⟨oc_all_stands, od_all_stands, .func (PySem.W.fnOf "all_stands" "all_stands" (defArgs s_all_stands) (defBody s_all_stands) (defScope s_all_stands) .none kV_all_stands dc_all_stands pm_all_stands an_all_stands cd_all_stands ct_all_stands), sl_all_stands⟩)
    (c_all_stands : PySem.W.codeIn K cd_all_stands "all_stands" = true) (k_all_stands : PySem.W.keepIn K (.ref f_all_stands) = true)
    {f_ends_of : Addr} {od_ends_of an_ends_of : Option Addr} {sl_ends_of : Array (Option Value)} {oc_ends_of kV_ends_of dc_ends_of pm_ends_of cd_ends_of ct_ends_of : Value}
    (a_ends_of : PySem.W.nsIn K mainGlobals "ends_of" = some (some (.ref f_ends_of)))
    (l_ends_of : K.lookup f_ends_of = some ⟨oc_ends_of, od_ends_of, .func (PySem.W.fnOf "ends_of" "ends_of" (defArgs s_ends_of) (defBody s_ends_of) (defScope s_ends_of) .none kV_ends_of dc_ends_of pm_ends_of an_ends_of cd_ends_of ct_ends_of), sl_ends_of⟩)
    (c_ends_of : PySem.W.codeIn K cd_ends_of "ends_of" = true) (k_ends_of : PySem.W.keepIn K (.ref f_ends_of) = true)
    {f_stand_of : Addr} {od_stand_of an_stand_of : Option Addr} {sl_stand_of : Array (Option Value)} {oc_stand_of kV_stand_of dc_stand_of pm_stand_of cd_stand_of ct_stand_of : Value}
    (a_stand_of : PySem.W.nsIn K mainGlobals "stand_of" = some (some (.ref f_stand_of)))
    (l_stand_of : K.lookup f_stand_of = some ⟨oc_stand_of, od_stand_of, .func (PySem.W.fnOf "stand_of" "stand_of" (defArgs s_stand_of) (defBody s_stand_of) (defScope s_stand_of) .none kV_stand_of dc_stand_of pm_stand_of an_stand_of cd_stand_of ct_stand_of), sl_stand_of⟩)
    (c_stand_of : PySem.W.codeIn K cd_stand_of "stand_of" = true) (k_stand_of : PySem.W.keepIn K (.ref f_stand_of) = true)
    {f_stand_behind : Addr} {od_stand_behind an_stand_behind : Option Addr} {sl_stand_behind : Array (Option Value)} {oc_stand_behind kV_stand_behind dc_stand_behind pm_stand_behind cd_stand_behind ct_stand_behind : Value}
    (a_stand_behind : PySem.W.nsIn K mainGlobals "stand_behind" = some (some (.ref f_stand_behind)))
    (l_stand_behind : K.lookup f_stand_behind = some ⟨oc_stand_behind, od_stand_behind, .func (PySem.W.fnOf "stand_behind" "stand_behind" (defArgs s_stand_behind) (defBody s_stand_behind) (defScope s_stand_behind) .none kV_stand_behind dc_stand_behind pm_stand_behind an_stand_behind cd_stand_behind ct_stand_behind), sl_stand_behind⟩)
    (c_stand_behind : PySem.W.codeIn K cd_stand_behind "stand_behind" = true) (k_stand_behind : PySem.W.keepIn K (.ref f_stand_behind) = true)
    {f_step_from : Addr} {od_step_from an_step_from : Option Addr} {sl_step_from : Array (Option Value)} {oc_step_from kV_step_from dc_step_from pm_step_from cd_step_from ct_step_from : Value}
    (a_step_from : PySem.W.nsIn K mainGlobals "step_from" = some (some (.ref f_step_from)))
    (l_step_from : K.lookup f_step_from = some ⟨oc_step_from, od_step_from, .func (PySem.W.fnOf "step_from" "step_from" (defArgs s_step_from) (defBody s_step_from) (defScope s_step_from) .none kV_step_from dc_step_from pm_step_from an_step_from cd_step_from ct_step_from), sl_step_from⟩)
    (c_step_from : PySem.W.codeIn K cd_step_from "step_from" = true) (k_step_from : PySem.W.keepIn K (.ref f_step_from) = true)
    {f__law_caught : Addr} {od__law_caught an__law_caught : Option Addr} {sl__law_caught : Array (Option Value)} {oc__law_caught kV__law_caught dc__law_caught pm__law_caught cd__law_caught ct__law_caught : Value}
    (a__law_caught : PySem.W.nsIn K mainGlobals "_law_caught" = some (some (.ref f__law_caught)))
    (l__law_caught : K.lookup f__law_caught = some ⟨oc__law_caught, od__law_caught, .func (PySem.W.fnOf "_law_caught" "_law_caught" (defArgs s__law_caught) (defBody s__law_caught) (defScope s__law_caught) .none kV__law_caught dc__law_caught pm__law_caught an__law_caught cd__law_caught ct__law_caught), sl__law_caught⟩)
    (c__law_caught : PySem.W.codeIn K cd__law_caught "_law_caught" = true) (k__law_caught : PySem.W.keepIn K (.ref f__law_caught) = true)
    {f__law_kinds : Addr} {od__law_kinds an__law_kinds : Option Addr} {sl__law_kinds : Array (Option Value)} {oc__law_kinds kV__law_kinds dc__law_kinds pm__law_kinds cd__law_kinds ct__law_kinds : Value}
    (a__law_kinds : PySem.W.nsIn K mainGlobals "_law_kinds" = some (some (.ref f__law_kinds)))
    (l__law_kinds : K.lookup f__law_kinds = some ⟨oc__law_kinds, od__law_kinds, .func (PySem.W.fnOf "_law_kinds" "_law_kinds" (defArgs s__law_kinds) (defBody s__law_kinds) (defScope s__law_kinds) .none kV__law_kinds dc__law_kinds pm__law_kinds an__law_kinds cd__law_kinds ct__law_kinds), sl__law_kinds⟩)
    (c__law_kinds : PySem.W.codeIn K cd__law_kinds "_law_kinds" = true) (k__law_kinds : PySem.W.keepIn K (.ref f__law_kinds) = true)
    {f__law_right : Addr} {od__law_right an__law_right : Option Addr} {sl__law_right : Array (Option Value)} {oc__law_right kV__law_right dc__law_right pm__law_right cd__law_right ct__law_right : Value}
    (a__law_right : PySem.W.nsIn K mainGlobals "_law_right" = some (some (.ref f__law_right)))
    (l__law_right : K.lookup f__law_right = some ⟨oc__law_right, od__law_right, .func (PySem.W.fnOf "_law_right" "_law_right" (defArgs s__law_right) (defBody s__law_right) (defScope s__law_right) .none kV__law_right dc__law_right pm__law_right an__law_right cd__law_right ct__law_right), sl__law_right⟩)
    (c__law_right : PySem.W.codeIn K cd__law_right "_law_right" = true) (k__law_right : PySem.W.keepIn K (.ref f__law_right) = true)
    {f__law_some_rule : Addr} {od__law_some_rule an__law_some_rule : Option Addr} {sl__law_some_rule : Array (Option Value)} {oc__law_some_rule kV__law_some_rule dc__law_some_rule pm__law_some_rule cd__law_some_rule ct__law_some_rule : Value}
    (a__law_some_rule : PySem.W.nsIn K mainGlobals "_law_some_rule" = some (some (.ref f__law_some_rule)))
    (l__law_some_rule : K.lookup f__law_some_rule = some ⟨oc__law_some_rule, od__law_some_rule, .func (PySem.W.fnOf "_law_some_rule" "_law_some_rule" (defArgs s__law_some_rule) (defBody s__law_some_rule) (defScope s__law_some_rule) .none kV__law_some_rule dc__law_some_rule pm__law_some_rule an__law_some_rule cd__law_some_rule ct__law_some_rule), sl__law_some_rule⟩)
    (c__law_some_rule : PySem.W.codeIn K cd__law_some_rule "_law_some_rule" = true) (k__law_some_rule : PySem.W.keepIn K (.ref f__law_some_rule) = true)
    {f_law : Addr} {od_law an_law : Option Addr} {sl_law : Array (Option Value)} {oc_law kV_law dc_law pm_law cd_law ct_law : Value}
    (a_law : PySem.W.nsIn K mainGlobals "law" = some (some (.ref f_law)))
    (l_law : K.lookup f_law = some ⟨oc_law, od_law, .func (PySem.W.fnOf "law" "law" (defArgs s_law) (defBody s_law) (defScope s_law) .none kV_law dc_law pm_law an_law cd_law ct_law), sl_law⟩)
    (c_law : PySem.W.codeIn K cd_law "law" = true) (k_law : PySem.W.keepIn K (.ref f_law) = true)
    {t_LEAST_BASE : Tok} (g_LEAST_BASE : PySem.W.nsIn K mainGlobals "LEAST_BASE" = some (some (.int 2 t_LEAST_BASE)))
    {t_MOST_BASE : Tok} (g_MOST_BASE : PySem.W.nsIn K mainGlobals "MOST_BASE" = some (some (.int 16 t_MOST_BASE)))
    {t_MOST_FIGURES : Tok} (g_MOST_FIGURES : PySem.W.nsIn K mainGlobals "MOST_FIGURES" = some (some (.int 4 t_MOST_FIGURES)))
    {t_MOST_STRETCHES : Tok} (g_MOST_STRETCHES : PySem.W.nsIn K mainGlobals "MOST_STRETCHES" = some (some (.int 4 t_MOST_STRETCHES)))
    {C_Lack C_NoBase C_NoNumber C_NoFigures C_NoRule C_NoStand C_NoGood C_Endless C_NoRules C_NoStretch C_TooMany C_NoText C_NoName C_NoRow : Addr}
    (g_LackError : PySem.W.nsIn K mainGlobals "LackError" = some (some (.ref C_Lack)))
    (g_NoBase : PySem.W.nsIn K mainGlobals "NoBase" = some (some (.ref C_NoBase)))
    (g_NoNumber : PySem.W.nsIn K mainGlobals "NoNumber" = some (some (.ref C_NoNumber)))
    (g_NoFigures : PySem.W.nsIn K mainGlobals "NoFigures" = some (some (.ref C_NoFigures)))
    (g_NoRule : PySem.W.nsIn K mainGlobals "NoRule" = some (some (.ref C_NoRule)))
    (g_NoStand : PySem.W.nsIn K mainGlobals "NoStand" = some (some (.ref C_NoStand)))
    (g_NoGood : PySem.W.nsIn K mainGlobals "NoGood" = some (some (.ref C_NoGood)))
    (g_Endless : PySem.W.nsIn K mainGlobals "Endless" = some (some (.ref C_Endless)))
    (g_NoRules : PySem.W.nsIn K mainGlobals "NoRules" = some (some (.ref C_NoRules)))
    (g_NoStretch : PySem.W.nsIn K mainGlobals "NoStretch" = some (some (.ref C_NoStretch)))
    (g_TooMany : PySem.W.nsIn K mainGlobals "TooMany" = some (some (.ref C_TooMany)))
    (g_NoText : PySem.W.nsIn K mainGlobals "NoText" = some (some (.ref C_NoText)))
    (g_NoName : PySem.W.nsIn K mainGlobals "NoName" = some (some (.ref C_NoName)))
    (g_NoRow : PySem.W.nsIn K mainGlobals "NoRow" = some (some (.ref C_NoRow)))
    (e_all : @erAllB ⟨adOf C_NoBase C_NoNumber C_NoFigures C_NoRule C_NoStand C_NoGood C_Endless C_NoRules C_NoStretch C_TooMany C_NoText C_NoName C_NoRow, C_Lack⟩ K = true)
    (z_ValueError : PySem.W.nsIn K mainGlobals "ValueError" = some none)
    (z_bool : PySem.W.nsIn K mainGlobals "bool" = some none)
    (z_dict : PySem.W.nsIn K mainGlobals "dict" = some none)
    (z_enumerate : PySem.W.nsIn K mainGlobals "enumerate" = some none)
    (z_int : PySem.W.nsIn K mainGlobals "int" = some none)
    (z_isinstance : PySem.W.nsIn K mainGlobals "isinstance" = some none)
    (z_len : PySem.W.nsIn K mainGlobals "len" = some none)
    (z_list : PySem.W.nsIn K mainGlobals "list" = some none)
    (z_max : PySem.W.nsIn K mainGlobals "max" = some none)
    (z_min : PySem.W.nsIn K mainGlobals "min" = some none)
    (z_range : PySem.W.nsIn K mainGlobals "range" = some none)
    (z_repr : PySem.W.nsIn K mainGlobals "repr" = some none)
    (z_sorted : PySem.W.nsIn K mainGlobals "sorted" = some none)
    (z_tuple : PySem.W.nsIn K mainGlobals "tuple" = some none) :
    ∃ fd : FuncData, (∀ (s : Shared) (v : Value), BindsTo s fd ⟨[v], []⟩ [("script", v)]) ∧ ∀ base : Heap, K.In base → base.Ns mainGlobals mg → (base.get? sysModules).isSome = true → FnOkG l.prog w K mg base CX0 10 fa fd ["script"] (sp_law K) := by
  have e := hfa.symm.trans (PySem.W.mg_of X G a_law)
  cases e
  letI : ErT := ⟨adOf C_NoBase C_NoNumber C_NoFigures C_NoRule C_NoStand C_NoGood C_Endless C_NoRules C_NoStretch C_TooMany C_NoText C_NoName C_NoRow, C_Lack⟩
  let T : Txt K mg := {
    f__law_lacks := ⟨_, _, fun_mk l__law_lacks c__law_lacks k__law_lacks, PySem.W.mg_of X G a__law_lacks, (fun_mk (st := s__law_lacks) l__law_lacks c__law_lacks k__law_lacks).binds (ps := ["bad", "figures"]) (fun _ _ _ _ _ _ us hl => match us, hl with | [_, _], _ => rfl)⟩,
    f__law_all := ⟨_, _, fun_mk l__law_all c__law_all k__law_all, PySem.W.mg_of X G a__law_all, (fun_mk (st := s__law_all) l__law_all c__law_all k__law_all).binds (ps := ["bad"]) (fun _ _ _ _ _ _ us hl => match us, hl with | [_], _ => rfl)⟩,
    f__law_deck := ⟨_, _, fun_mk l__law_deck c__law_deck k__law_deck, PySem.W.mg_of X G a__law_deck, (fun_mk (st := s__law_deck) l__law_deck c__law_deck k__law_deck).binds (ps := ["script"]) (fun _ _ _ _ _ _ us hl => match us, hl with | [_], _ => rfl)⟩,
    f__law_draw := ⟨_, _, fun_mk l__law_draw c__law_draw k__law_draw, PySem.W.mg_of X G a__law_draw, (fun_mk (st := s__law_draw) l__law_draw c__law_draw k__law_draw).binds (ps := ["deck", "many"]) (fun _ _ _ _ _ _ us hl => match us, hl with | [_, _], _ => rfl)⟩,
    f__law_is_rule := ⟨_, _, fun_mk l__law_is_rule c__law_is_rule k__law_is_rule, PySem.W.mg_of X G a__law_is_rule, (fun_mk (st := s__law_is_rule) l__law_is_rule c__law_is_rule k__law_is_rule).binds (ps := ["thing"]) (fun _ _ _ _ _ _ us hl => match us, hl with | [_], _ => rfl)⟩,
    f__law_is_stand := ⟨_, _, fun_mk l__law_is_stand c__law_is_stand k__law_is_stand, PySem.W.mg_of X G a__law_is_stand, (fun_mk (st := s__law_is_stand) l__law_is_stand c__law_is_stand k__law_is_stand).binds (ps := ["rule", "thing"]) (fun _ _ _ _ _ _ us hl => match us, hl with | [_, _], _ => rfl)⟩,
    f__law_no_base := ⟨_, _, fun_mk l__law_no_base c__law_no_base k__law_no_base, PySem.W.mg_of X G a__law_no_base, (fun_mk (st := s__law_no_base) l__law_no_base c__law_no_base k__law_no_base).binds (ps := ["deck"]) (fun _ _ _ _ _ _ us hl => match us, hl with | [_], _ => rfl)⟩,
    f__law_odd_figure := ⟨_, _, fun_mk l__law_odd_figure c__law_odd_figure k__law_odd_figure, PySem.W.mg_of X G a__law_odd_figure, (fun_mk (st := s__law_odd_figure) l__law_odd_figure c__law_odd_figure k__law_odd_figure).binds (ps := ["deck", "base"]) (fun _ _ _ _ _ _ us hl => match us, hl with | [_, _], _ => rfl)⟩,
    f__law_no_rule := ⟨_, _, fun_mk l__law_no_rule c__law_no_rule k__law_no_rule, PySem.W.mg_of X G a__law_no_rule, (fun_mk (st := s__law_no_rule) l__law_no_rule c__law_no_rule k__law_no_rule).binds (ps := ["deck", "rule"]) (fun _ _ _ _ _ _ us hl => match us, hl with | [_, _], _ => rfl)⟩,
    f__law_no_stand := ⟨_, _, fun_mk l__law_no_stand c__law_no_stand k__law_no_stand, PySem.W.mg_of X G a__law_no_stand, (fun_mk (st := s__law_no_stand) l__law_no_stand c__law_no_stand k__law_no_stand).binds (ps := ["deck", "rule"]) (fun _ _ _ _ _ _ us hl => match us, hl with | [_, _], _ => rfl)⟩,
    f__law_odd_figures := ⟨_, _, fun_mk l__law_odd_figures c__law_odd_figures k__law_odd_figures, PySem.W.mg_of X G a__law_odd_figures, (fun_mk (st := s__law_odd_figures) l__law_odd_figures c__law_odd_figures k__law_odd_figures).binds (ps := ["deck", "base", "figures"]) (fun _ _ _ _ _ _ us hl => match us, hl with | [_, _, _], _ => rfl)⟩,
    f_is_whole := ⟨_, _, fun_mk l_is_whole c_is_whole k_is_whole, PySem.W.mg_of X G a_is_whole, (fun_mk (st := s_is_whole) l_is_whole c_is_whole k_is_whole).binds (ps := ["thing"]) (fun _ _ _ _ _ _ us hl => match us, hl with | [_], _ => rfl)⟩,
    f_is_base := ⟨_, _, fun_mk l_is_base c_is_base k_is_base, PySem.W.mg_of X G a_is_base, (fun_mk (st := s_is_base) l_is_base c_is_base k_is_base).binds (ps := ["thing"]) (fun _ _ _ _ _ _ us hl => match us, hl with | [_], _ => rfl)⟩,
    f_is_figure := ⟨_, _, fun_mk l_is_figure c_is_figure k_is_figure, PySem.W.mg_of X G a_is_figure, (fun_mk (st := s_is_figure) l_is_figure c_is_figure k_is_figure).binds (ps := ["base", "thing"]) (fun _ _ _ _ _ _ us hl => match us, hl with | [_, _], _ => rfl)⟩,
    f_are_figures := ⟨_, _, fun_mk l_are_figures c_are_figures k_are_figures, PySem.W.mg_of X G a_are_figures, (fun_mk (st := s_are_figures) l_are_figures c_are_figures k_are_figures).binds (ps := ["base", "thing"]) (fun _ _ _ _ _ _ us hl => match us, hl with | [_, _], _ => rfl)⟩,
    f_is_stretch := ⟨_, _, fun_mk l_is_stretch c_is_stretch k_is_stretch, PySem.W.mg_of X G a_is_stretch, (fun_mk (st := s_is_stretch) l_is_stretch c_is_stretch k_is_stretch).binds (ps := ["base", "thing"]) (fun _ _ _ _ _ _ us hl => match us, hl with | [_, _], _ => rfl)⟩,
    f_is_rule := ⟨_, _, fun_mk l_is_rule c_is_rule k_is_rule, PySem.W.mg_of X G a_is_rule, (fun_mk (st := s_is_rule) l_is_rule c_is_rule k_is_rule).binds (ps := ["thing"]) (fun _ _ _ _ _ _ us hl => match us, hl with | [_], _ => rfl)⟩,
    f_need_rule := ⟨_, _, fun_mk l_need_rule c_need_rule k_need_rule, PySem.W.mg_of X G a_need_rule, (fun_mk (st := s_need_rule) l_need_rule c_need_rule k_need_rule).binds (ps := ["thing"]) (fun _ _ _ _ _ _ us hl => match us, hl with | [_], _ => rfl)⟩,
    f_stands_in := ⟨_, _, fun_mk l_stands_in c_stands_in k_stands_in, PySem.W.mg_of X G a_stands_in, (fun_mk (st := s_stands_in) l_stands_in c_stands_in k_stands_in).binds (ps := ["stretch", "figures"]) (fun _ _ _ _ _ _ us hl => match us, hl with | [_, _], _ => rfl)⟩,
    f_lacks_all := ⟨_, _, fun_mk l_lacks_all c_lacks_all k_lacks_all, PySem.W.mg_of X G a_lacks_all, (fun_mk (st := s_lacks_all) l_lacks_all c_lacks_all k_lacks_all).binds (ps := ["rule", "figures"]) (fun _ _ _ _ _ _ us hl => match us, hl with | [_, _], _ => rfl)⟩,
    f_stands_of := ⟨_, _, fun_mk l_stands_of c_stands_of k_stands_of, PySem.W.mg_of X G a_stands_of, (fun_mk (st := s_stands_of) l_stands_of c_stands_of k_stands_of).binds (ps := ["rule"]) (fun _ _ _ _ _ _ us hl => match us, hl with | [_], _ => rfl)⟩,
    f_all_stands := ⟨_, _, fun_mk l_all_stands c_all_stands k_all_stands, PySem.W.mg_of X G a_all_stands, (fun_mk (st := s_all_stands) l_all_stands c_all_stands k_all_stands).binds (ps := ["rule"]) (fun _ _ _ _ _ _ us hl => match us, hl with | [_], _ => rfl)⟩,
    f_ends_of := ⟨_, _, fun_mk l_ends_of c_ends_of k_ends_of, PySem.W.mg_of X G a_ends_of, (fun_mk (st := s_ends_of) l_ends_of c_ends_of k_ends_of).binds (ps := ["rule", "figures"]) (fun _ _ _ _ _ _ us hl => match us, hl with | [_, _], _ => rfl)⟩,
    f_stand_of := ⟨_, _, fun_mk l_stand_of c_stand_of k_stand_of, PySem.W.mg_of X G a_stand_of, (fun_mk (st := s_stand_of) l_stand_of c_stand_of k_stand_of).binds (ps := ["rule", "figures"]) (fun _ _ _ _ _ _ us hl => match us, hl with | [_, _], _ => rfl)⟩,
    f_stand_behind := ⟨_, _, fun_mk l_stand_behind c_stand_behind k_stand_behind, PySem.W.mg_of X G a_stand_behind, (fun_mk (st := s_stand_behind) l_stand_behind c_stand_behind k_stand_behind).binds (ps := ["rule", "figures"]) (fun _ _ _ _ _ _ us hl => match us, hl with | [_, _], _ => rfl)⟩,
    f_step_from := ⟨_, _, fun_mk l_step_from c_step_from k_step_from, PySem.W.mg_of X G a_step_from, (fun_mk (st := s_step_from) l_step_from c_step_from k_step_from).binds (ps := ["rule", "stand", "figure"]) (fun _ _ _ _ _ _ us hl => match us, hl with | [_, _, _], _ => rfl)⟩,
    f__law_caught := ⟨_, _, fun_mk l__law_caught c__law_caught k__law_caught, PySem.W.mg_of X G a__law_caught, (fun_mk (st := s__law_caught) l__law_caught c__law_caught k__law_caught).binds (ps := ["door", "rule", "one", "figure"]) (fun _ _ _ _ _ _ us hl => match us, hl with | [_, _, _, _], _ => rfl)⟩,
    f__law_kinds := ⟨_, _, fun_mk l__law_kinds c__law_kinds k__law_kinds, PySem.W.mg_of X G a__law_kinds, (fun_mk (st := s__law_kinds) l__law_kinds c__law_kinds k__law_kinds).binds (ps := ["caught", "due"]) (fun _ _ _ _ _ _ us hl => match us, hl with | [_, _], _ => rfl)⟩,
    f__law_right := ⟨_, _, fun_mk l__law_right c__law_right k__law_right, PySem.W.mg_of X G a__law_right, (fun_mk (st := s__law_right) l__law_right c__law_right k__law_right).binds (ps := ["door", "rule", "one", "figure", "due"]) (fun _ _ _ _ _ _ us hl => match us, hl with | [_, _, _, _, _], _ => rfl)⟩,
    f__law_some_rule := ⟨_, _, fun_mk l__law_some_rule c__law_some_rule k__law_some_rule, PySem.W.mg_of X G a__law_some_rule, (fun_mk (st := s__law_some_rule) l__law_some_rule c__law_some_rule k__law_some_rule).binds (ps := ["deck"]) (fun _ _ _ _ _ _ us hl => match us, hl with | [_], _ => rfl)⟩,
    f_law := ⟨_, _, fun_mk l_law c_law k_law, PySem.W.mg_of X G a_law, (fun_mk (st := s_law) l_law c_law k_law).binds (ps := ["script"]) (fun _ _ _ _ _ _ us hl => match us, hl with | [_], _ => rfl)⟩,
    c_LEAST_BASE := ⟨t_LEAST_BASE, PySem.W.mg_of X G g_LEAST_BASE⟩,
    c_MOST_BASE := ⟨t_MOST_BASE, PySem.W.mg_of X G g_MOST_BASE⟩,
    c_MOST_FIGURES := ⟨t_MOST_FIGURES, PySem.W.mg_of X G g_MOST_FIGURES⟩,
    c_MOST_STRETCHES := ⟨t_MOST_STRETCHES, PySem.W.mg_of X G g_MOST_STRETCHES⟩,
    er := erTxt_mk e_all (fun e => by cases e <;> first | exact PySem.W.mg_of X G g_NoBase | exact PySem.W.mg_of X G g_NoNumber | exact PySem.W.mg_of X G g_NoFigures | exact PySem.W.mg_of X G g_NoRule | exact PySem.W.mg_of X G g_NoStand | exact PySem.W.mg_of X G g_NoGood | exact PySem.W.mg_of X G g_Endless | exact PySem.W.mg_of X G g_NoRules | exact PySem.W.mg_of X G g_NoStretch | exact PySem.W.mg_of X G g_TooMany | exact PySem.W.mg_of X G g_NoText | exact PySem.W.mg_of X G g_NoName | exact PySem.W.mg_of X G g_NoRow) (PySem.W.mg_of X G g_LackError),
    z_ValueError := PySem.W.mg_none_of X G z_ValueError,
    z_bool := PySem.W.mg_none_of X G z_bool,
    z_dict := PySem.W.mg_none_of X G z_dict,
    z_enumerate := PySem.W.mg_none_of X G z_enumerate,
    z_int := PySem.W.mg_none_of X G z_int,
    z_isinstance := PySem.W.mg_none_of X G z_isinstance,
    z_len := PySem.W.mg_none_of X G z_len,
    z_list := PySem.W.mg_none_of X G z_list,
    z_max := PySem.W.mg_none_of X G z_max,
    z_min := PySem.W.mg_none_of X G z_min,
    z_range := PySem.W.mg_none_of X G z_range,
    z_repr := PySem.W.mg_none_of X G z_repr,
    z_sorted := PySem.W.mg_none_of X G z_sorted,
    z_tuple := PySem.W.mg_none_of X G z_tuple }
  exact ⟨T.f_law.fd, fun s v => .of_eq rfl, fun base _ _ hbs => ok_law T hbs⟩
end My
open PySem PySem.W PyProof.Rows
set_option maxHeartbeats 0 in
theorem PySem.Challenge.cw_lackstretch_k09_no_rules_no_stands_no_fi_holds : PySem.Challenge.rw_lackstretch_k09_no_rules_no_stands_no_fi.Holds := by
  w_on; o_law; k_head; (case hw => w_witness2)
  k_fill
  refine My.walk_ofG (l := PySem.Challenge.rw_lackstretch_k09_no_rules_no_stands_no_fi) (n := 63) (k := 10) (x := "script") (CX := fun _ => L2.CX0) (sp := fun w => My.sp_law _) rfl (by decide) rfl ⟨rfl, by decide, by decide⟩ (by decide +kernel) (fun w h Y => PySem.W.kIn_of Y) ?F (fun _ _ a ns hl _ hS => ⟨a, ns, rfl, hS, My.law_true ns, fun _ => rfl⟩) (fun _ _ _ _ _ h => h)
  case F =>
    intro w mg fa h KX G hmg
    refine' My.all_mk KX G hmg ?a__law_lacks ?l__law_lacks ?c__law_lacks ?k__law_lacks ?a__law_all ?l__law_all ?c__law_all ?k__law_all ?a__law_deck ?l__law_deck ?c__law_deck ?k__law_deck ?a__law_draw ?l__law_draw ?c__law_draw ?k__law_draw ?a__law_is_rule ?l__law_is_rule ?c__law_is_rule ?k__law_is_rule ?a__law_is_stand ?l__law_is_stand ?c__law_is_stand ?k__law_is_stand ?a__law_no_base ?l__law_no_base ?c__law_no_base ?k__law_no_base ?a__law_odd_figure ?l__law_odd_figure ?c__law_odd_figure ?k__law_odd_figure ?a__law_no_rule ?l__law_no_rule ?c__law_no_rule ?k__law_no_rule ?a__law_no_stand ?l__law_no_stand ?c__law_no_stand ?k__law_no_stand ?a__law_odd_figures ?l__law_odd_figures ?c__law_odd_figures ?k__law_odd_figures ?a_is_whole ?l_is_whole ?c_is_whole ?k_is_whole ?a_is_base ?l_is_base ?c_is_base ?k_is_base ?a_is_figure ?l_is_figure ?c_is_figure ?k_is_figure ?a_are_figures ?l_are_figures ?c_are_figures ?k_are_figures ?a_is_stretch ?l_is_stretch ?c_is_stretch ?k_is_stretch ?a_is_rule ?l_is_rule ?c_is_rule ?k_is_rule ?a_need_rule ?l_need_rule ?c_need_rule ?k_need_rule ?a_stands_in ?l_stands_in ?c_stands_in ?k_stands_in ?a_lacks_all ?l_lacks_all ?c_lacks_all ?k_lacks_all ?a_stands_of ?l_stands_of ?c_stands_of ?k_stands_of ?a_all_stands ?l_all_stands ?c_all_stands ?k_all_stands ?a_ends_of ?l_ends_of ?c_ends_of ?k_ends_of ?a_stand_of ?l_stand_of ?c_stand_of ?k_stand_of ?a_stand_behind ?l_stand_behind ?c_stand_behind ?k_stand_behind ?a_step_from ?l_step_from ?c_step_from ?k_step_from ?a__law_caught ?l__law_caught ?c__law_caught ?k__law_caught ?a__law_kinds ?l__law_kinds ?c__law_kinds ?k__law_kinds ?a__law_right ?l__law_right ?c__law_right ?k__law_right ?a__law_some_rule ?l__law_some_rule ?c__law_some_rule ?k__law_some_rule ?a_law ?l_law ?c_law ?k_law ?g_LEAST_BASE ?g_MOST_BASE ?g_MOST_FIGURES ?g_MOST_STRETCHES ?g_LackError ?g_NoBase ?g_NoNumber ?g_NoFigures ?g_NoRule ?g_NoStand ?g_NoGood ?g_Endless ?g_NoRules ?g_NoStretch ?g_TooMany ?g_NoText ?g_NoName ?g_NoRow ?e_all ?z_ValueError ?z_bool ?z_dict ?z_enumerate ?z_int ?z_isinstance ?z_len ?z_list ?z_max ?z_min ?z_range ?z_repr ?z_sorted ?z_tuple
    (case a__law_lacks => k_is); (case l__law_lacks => k_is); (case c__law_lacks => k_is); (case k__law_lacks => k_is); (case a__law_all => k_is); (case l__law_all => k_is); (case c__law_all => k_is); (case k__law_all => k_is); (case a__law_deck => k_is); (case l__law_deck => k_is); (case c__law_deck => k_is); (case k__law_deck => k_is); (case a__law_draw => k_is); (case l__law_draw => k_is); (case c__law_draw => k_is); (case k__law_draw => k_is); (case a__law_is_rule => k_is); (case l__law_is_rule => k_is); (case c__law_is_rule => k_is); (case k__law_is_rule => k_is); (case a__law_is_stand => k_is); (case l__law_is_stand => k_is); (case c__law_is_stand => k_is); (case k__law_is_stand => k_is); (case a__law_no_base => k_is); (case l__law_no_base => k_is); (case c__law_no_base => k_is); (case k__law_no_base => k_is); (case a__law_odd_figure => k_is); (case l__law_odd_figure => k_is); (case c__law_odd_figure => k_is); (case k__law_odd_figure => k_is); (case a__law_no_rule => k_is); (case l__law_no_rule => k_is); (case c__law_no_rule => k_is); (case k__law_no_rule => k_is); (case a__law_no_stand => k_is); (case l__law_no_stand => k_is); (case c__law_no_stand => k_is); (case k__law_no_stand => k_is); (case a__law_odd_figures => k_is); (case l__law_odd_figures => k_is); (case c__law_odd_figures => k_is); (case k__law_odd_figures => k_is); (case a_is_whole => k_is); (case l_is_whole => k_is); (case c_is_whole => k_is); (case k_is_whole => k_is); (case a_is_base => k_is); (case l_is_base => k_is); (case c_is_base => k_is); (case k_is_base => k_is); (case a_is_figure => k_is); (case l_is_figure => k_is); (case c_is_figure => k_is); (case k_is_figure => k_is); (case a_are_figures => k_is); (case l_are_figures => k_is); (case c_are_figures => k_is); (case k_are_figures => k_is); (case a_is_stretch => k_is); (case l_is_stretch => k_is); (case c_is_stretch => k_is); (case k_is_stretch => k_is); (case a_is_rule => k_is); (case l_is_rule => k_is); (case c_is_rule => k_is); (case k_is_rule => k_is); (case a_need_rule => k_is); (case l_need_rule => k_is); (case c_need_rule => k_is); (case k_need_rule => k_is); (case a_stands_in => k_is); (case l_stands_in => k_is); (case c_stands_in => k_is); (case k_stands_in => k_is); (case a_lacks_all => k_is); (case l_lacks_all => k_is); (case c_lacks_all => k_is); (case k_lacks_all => k_is); (case a_stands_of => k_is); (case l_stands_of => k_is); (case c_stands_of => k_is); (case k_stands_of => k_is); (case a_all_stands => k_is); (case l_all_stands => k_is); (case c_all_stands => k_is); (case k_all_stands => k_is); (case a_ends_of => k_is); (case l_ends_of => k_is); (case c_ends_of => k_is); (case k_ends_of => k_is); (case a_stand_of => k_is); (case l_stand_of => k_is); (case c_stand_of => k_is); (case k_stand_of => k_is); (case a_stand_behind => k_is); (case l_stand_behind => k_is); (case c_stand_behind => k_is); (case k_stand_behind => k_is); (case a_step_from => k_is); (case l_step_from => k_is); (case c_step_from => k_is); (case k_step_from => k_is); (case a__law_caught => k_is); (case l__law_caught => k_is); (case c__law_caught => k_is); (case k__law_caught => k_is); (case a__law_kinds => k_is); (case l__law_kinds => k_is); (case c__law_kinds => k_is); (case k__law_kinds => k_is); (case a__law_right => k_is); (case l__law_right => k_is); (case c__law_right => k_is); (case k__law_right => k_is); (case a__law_some_rule => k_is); (case l__law_some_rule => k_is); (case c__law_some_rule => k_is); (case k__law_some_rule => k_is); (case a_law => k_is); (case l_law => k_is); (case c_law => k_is); (case k_law => k_is); (case g_LEAST_BASE => k_is); (case g_MOST_BASE => k_is); (case g_MOST_FIGURES => k_is); (case g_MOST_STRETCHES => k_is); (case g_LackError => k_is); (case g_NoBase => k_is); (case g_NoNumber => k_is); (case g_NoFigures => k_is); (case g_NoRule => k_is); (case g_NoStand => k_is); (case g_NoGood => k_is); (case g_Endless => k_is); (case g_NoRules => k_is); (case g_NoStretch => k_is); (case g_TooMany => k_is); (case g_NoText => k_is); (case g_NoName => k_is); (case g_NoRow => k_is); (case e_all => kernel_rfl); (case z_ValueError => k_is); (case z_bool => k_is); (case z_dict => k_is); (case z_enumerate => k_is); (case z_int => k_is); (case z_isinstance => k_is); (case z_len => k_is); (case z_list => k_is); (case z_max => k_is); (case z_min => k_is); (case z_range => k_is); (case z_repr => k_is); (case z_sorted => k_is); (case z_tuple => k_is)
