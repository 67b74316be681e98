import PyProof.Rows.All
import Wide.All
import OpenK.AllK
import Wide.FinOn
import HandS.ForMost
import HandS.Wide
import HandS.WideMore
import HandS.Style
import HandS.Evl
import HandS.Deep
import HandS.SortOrd
import HandS.IsInst
import HandS.TupLe
import HandS.TupAny
import HandS.Conv
import HandS.More
import KE.SortData
import KE.DataCmp
import HandS.Text
import HandS.Dict
import HandS.Iter
import PyProof.ReprRoads
import HandS.Exc
import HandS.ExcOwn
import HandS.ExcIs
import HandS.ExcValue
import HandS.WordsExc
import HandS.Walk
import HandS.Replace
import HandS.DictTup
import KE.KDictSum
import KE.KDictWalk
import KE.DataFind
import PySem.Challenge.RW_lackstretch_k38_texts_that_write_none
set_option Elab.async false
set_option linter.all false
set_option maxRecDepth 100000
set_option maxHeartbeats 4000000
/-! ### my base: typed data in the heap -/
namespace My
open PySem PySem.Spec PyProof.Rows L2

/-! #### data that stands in a frozen heap -/
mutual
inductive RD (F : Hp) : V → PyData → Prop
  | non : RD F .non .none
  | bl (b : Bool) : RD F (.bl b) (.bool b)
  | int (i : Int) : RD F (.int i) (.int i)
  | str (x : Str) : RD F (.str x) (.str x)
  | lst {a : Addr} {us : List V} {ds : List PyData} : F a = some (.lst us) → RDs F us ds → RD F (.ref a) (.list ds)
  | tup {a : Addr} {us : List V} {ds : List PyData} : F a = some (.tup us) → RDs F us ds → RD F (.ref a) (.tuple ds)
  | dic {a : Addr} {kvs : List (Key × V)} {ds : List (PyData × PyData)} : F a = some (.dK kvs) → RKs F kvs ds → RD F (.ref a) (.dict ds)
inductive RDs (F : Hp) : List V → List PyData → Prop
  | nil : RDs F [] []
  | cons {v : V} {us : List V} {d : PyData} {ds : List PyData} : RD F v d → RDs F us ds → RDs F (v :: us) (d :: ds)
inductive RKs (F : Hp) : List (Key × V) → List (PyData × PyData) → Prop
  | nil : RKs F [] []
  | int {i : Int} {v : V} {d : PyData} {kvs : List (Key × V)} {ds : List (PyData × PyData)} : RD F v d → RKs F kvs ds → RKs F ((.inl i, v) :: kvs) ((.int i, d) :: ds)
  | str {x : Str} {v : V} {d : PyData} {kvs : List (Key × V)} {ds : List (PyData × PyData)} : RD F v d → RKs F kvs ds → RKs F ((.inr x, v) :: kvs) ((.str x, d) :: ds)
end

def Sub (F H : Hp) : Prop := ∀ a o, F a = some o → H a = some o
theorem Sub.refl (H : Hp) : Sub H H := fun _ _ h => h
theorem Sub.trans {H H1 H2 : Hp} (a : Sub H H1) (b : Sub H1 H2) : Sub H H2 := fun x o h => b x o (a x o h)
theorem Sub.new {H : Hp} {p : Addr} {o : HO} (h : H p = none) : Sub H (upd H p o) := fun a u e => by
  rw [upd_ne (ne_of_none e h)]; exact e
theorem Sub.upd {F H : Hp} {p : Addr} {o : HO} (s : Sub F H) : Sub (upd F p o) (upd H p o) := fun a u e => by
  by_cases h : a = p
  · subst h; rw [upd_same] at e ⊢; exact e
  · rw [upd_ne h] at e ⊢; exact s a u e
theorem Sub.mut {F H : Hp} {p : Addr} {o : HO} (s : Sub F H) (h : F p = none) : Sub F (L2.upd H p o) := fun a u e => by
  rw [upd_ne (ne_of_none e h)]; exact s a u e
theorem Sub.none {F H : Hp} {p : Addr} (s : Sub F H) (h : H p = none) : F p = none := by
  cases e : F p with
  | none => rfl
  | some o => rw [s p o e] at h; cases h

mutual
theorem RD.mono {F N : Hp} (s : Sub F N) : ∀ {d : PyData} {v : V}, RD F v d → RD N v d
  | _, _, .non => .non
  | _, _, .bl b => .bl b
  | _, _, .int i => .int i
  | _, _, .str x => .str x
  | _, _, .lst h r => .lst (s _ _ h) (RDs.mono s r)
  | _, _, .tup h r => .tup (s _ _ h) (RDs.mono s r)
  | _, _, .dic h r => .dic (s _ _ h) (RKs.mono s r)
theorem RDs.mono {F N : Hp} (s : Sub F N) : ∀ {ds : List PyData} {us : List V}, RDs F us ds → RDs N us ds
  | _, _, .nil => .nil
  | _, _, .cons h r => .cons (RD.mono s h) (RDs.mono s r)
theorem RKs.mono {F N : Hp} (s : Sub F N) : ∀ {ds : List (PyData × PyData)} {us : List (Key × V)}, RKs F us ds → RKs N us ds
  | _, _, .nil => .nil
  | _, _, .int h r => .int (RD.mono s h) (RKs.mono s r)
  | _, _, .str h r => .str (RD.mono s h) (RKs.mono s r)
end
mutual
theorem RD.dpL {F H : Hp} {K : PySem.W.Frag} (s : Sub F H) : ∀ {d : PyData} {v : V}, d.canLay0 = true → RD F v d → Dp K H v d
  | _, _, _, .non => .non
  | _, _, _, .bl b => .bl b
  | _, _, _, .int i => .int i
  | _, _, _, .str x => .str x
  | _, _, l, .lst h r => .lst (.inl (.inl (s _ _ h))) (RDs.dpL s (by simpa [PyData.canLay0] using l) r)
  | _, _, l, .tup h r => .tup (.inl (.inl (s _ _ h))) (RDs.dpL s (by simpa [PyData.canLay0] using l) r)
  | _, _, l, .dic h r => by simp [PyData.canLay0] at l
theorem RDs.dpL {F H : Hp} {K : PySem.W.Frag} (s : Sub F H) : ∀ {ds : List PyData} {us : List V}, PyData.canLayAll0 ds = true → RDs F us ds → DpAll K H us ds
  | _, _, _, .nil => .nil
  | _, _, l, .cons h r => by
    simp only [PyData.canLayAll0, Bool.and_eq_true] at l
    exact .cons (RD.dpL s l.1 h) (RDs.dpL s l.2 r)
end
theorem RDs.len {F : Hp} : ∀ {us : List V} {ds : List PyData}, RDs F us ds → us.length = ds.length
  | _, _, .nil => rfl
  | _, _, .cons _ r => by simp [RDs.len r]
theorem RDs.append {F : Hp} : ∀ {us ws : List V} {ds es : List PyData}, RDs F us ds → RDs F ws es → RDs F (us ++ ws) (ds ++ es)
  | _, _, _, _, .nil, s => s
  | _, _, _, _, .cons h r, s => .cons h (RDs.append r s)
theorem RDs.get {F : Hp} : ∀ {us : List V} {ds : List PyData} {i : Nat} {d : PyData}, RDs F us ds → ds[i]? = some d → ∃ u, us[i]? = some u ∧ RD F u d
  | _, _, _, _, .nil, e => by simp at e
  | _, _, 0, _, .cons h _, e => by simp at e; subst e; exact ⟨_, rfl, h⟩
  | _, _, i + 1, _, .cons _ r, e => by
    obtain ⟨u, h1, h2⟩ := RDs.get (i := i) r (by simpa using e)
    exact ⟨u, by simpa using h1, h2⟩
theorem RDs.get' {F : Hp} {us : List V} {ds : List PyData} {i : Nat} {u : V} (r : RDs F us ds) (e : us[i]? = some u) : ∃ d, ds[i]? = some d ∧ RD F u d := by
  have hl := r.len
  have h1 : i < us.length := (List.getElem?_eq_some_iff.mp e).1
  obtain ⟨u', e', h⟩ := r.get (i := i) (d := ds[i]'(by omega)) (List.getElem?_eq_getElem (by omega))
  rw [e] at e'; cases e'
  exact ⟨_, List.getElem?_eq_getElem (by omega), h⟩
theorem RDs.take {F : Hp} : ∀ {us : List V} {ds : List PyData} (n : Nat), RDs F us ds → RDs F (us.take n) (ds.take n)
  | _, _, 0, _ => by simp; exact .nil
  | _, _, _ + 1, .nil => .nil
  | _, _, n + 1, .cons h r => .cons h (RDs.take n r)
theorem RDs.drop {F : Hp} : ∀ {us : List V} {ds : List PyData} (n : Nat), RDs F us ds → RDs F (us.drop n) (ds.drop n)
  | _, _, 0, r => r
  | _, _, _ + 1, .nil => .nil
  | _, _, n + 1, .cons _ r => RDs.drop n r
theorem RDs.reverse {F : Hp} {us : List V} {ds : List PyData} (r : RDs F us ds) : RDs F us.reverse ds.reverse := by
  induction us generalizing ds with
  | nil => cases r; exact .nil
  | cons u us ih =>
    cases r with
    | cons h r => rw [List.reverse_cons, List.reverse_cons]; exact (ih r).append (.cons h .nil)
theorem RDs.set {F : Hp} : ∀ {us : List V} {ds : List PyData} {u : V} {d : PyData} (n : Nat), RDs F us ds → RD F u d → RDs F (us.set n u) (ds.set n d)
  | _, _, _, _, _, .nil, _ => .nil
  | _, _, _, _, 0, .cons _ r, h => .cons h r
  | _, _, _, _, n + 1, .cons h' r, h => .cons h' (RDs.set n r h)
theorem RDs.eraseIdx {F : Hp} : ∀ {us : List V} {ds : List PyData} (n : Nat), RDs F us ds → RDs F (us.eraseIdx n) (ds.eraseIdx n)
  | _, _, _, .nil => by simp; exact .nil
  | _, _, 0, .cons _ r => r
  | _, _, n + 1, .cons h r => .cons h (RDs.eraseIdx n r)

/-! #### typed data -/
class TD (α : Type) where
  d : α → PyData
/-- .. of a bounded depth, without dicts -/
class TB (α : Type) [TD α] where
  dep : Nat
  lay : ∀ x : α, (TD.d x).canLay0 = true
  dle : ∀ x : α, (TD.d x).depth ≤ dep
instance : TD Int := ⟨.int⟩
instance : TD Bool := ⟨.bool⟩
instance : TD Unit := ⟨fun _ => .none⟩
instance : TD Str := ⟨.str⟩
instance : TD PyData := ⟨fun x => x⟩
instance {α : Type} [TD α] : TD (List α) := ⟨fun xs => .list (xs.map TD.d)⟩
instance {α β : Type} [TD α] [TD β] : TD (α × β) := ⟨fun p => .tuple [TD.d p.1, TD.d p.2]⟩
instance {α : Type} [TD α] : TD (Option α) := ⟨fun o => match o with | some x => TD.d x | none => .none⟩
instance : TB Int := ⟨0, fun _ => by show PyData.canLay0 (.int _) = true; rfl, fun _ => by show PyData.depth (.int _) ≤ 0; exact Nat.zero_le _⟩
instance : TB Bool := ⟨0, fun _ => by show PyData.canLay0 (.bool _) = true; rfl, fun _ => by show PyData.depth (.bool _) ≤ 0; exact Nat.zero_le _⟩
instance : TB Unit := ⟨0, fun _ => by show PyData.canLay0 (.none) = true; rfl, fun _ => by show PyData.depth (.none) ≤ 0; exact Nat.zero_le _⟩
theorem layAll {α : Type} [TD α] [TB α] : ∀ xs : List α, PyData.canLayAll0 (xs.map TD.d) = true
  | [] => by simp [PyData.canLayAll0]
  | x :: xs => by simp [PyData.canLayAll0, TB.lay x, layAll xs]
theorem depAll {α : Type} [TD α] [TB α] : ∀ xs : List α, PyData.depthAll (xs.map TD.d) ≤ TB.dep α
  | [] => by simp [PyData.depthAll]
  | x :: xs => by
    have h1 := depAll xs
    have h2 := TB.dle x
    simp only [List.map_cons, PyData.depthAll]
    omega
instance {α : Type} [TD α] [TB α] : TB (List α) := ⟨TB.dep α + 1, fun xs => by show PyData.canLay0 (.list _) = true; simp only [PyData.canLay0]; exact layAll xs, fun xs => by
  have := depAll xs
  show PyData.depth (.list _) ≤ _
  simp only [PyData.depth]; omega⟩
instance {α β : Type} [TD α] [TB α] [TD β] [TB β] : TB (α × β) := ⟨TB.dep α + TB.dep β + 1, fun p => by show PyData.canLay0 (.tuple [_, _]) = true; simp [PyData.canLay0, PyData.canLayAll0, TB.lay], fun p => by
  have h1 := TB.dle p.1
  have h2 := TB.dle p.2
  show PyData.depth (.tuple [_, _]) ≤ _
  simp only [PyData.depth, PyData.depthAll]; omega⟩
instance {α : Type} [TD α] [TB α] : TB (Option α) := ⟨TB.dep α, fun o => by cases o; exact rfl; exact TB.lay (α := α) _, fun o => by cases o; exact Nat.zero_le _; exact TB.dle (α := α) _⟩
abbrev R {α : Type} [TD α] (F : Hp) (v : V) (x : α) : Prop := RD F v (TD.d x)
abbrev Rs {α : Type} [TD α] (F : Hp) (us : List V) (xs : List α) : Prop := RDs F us (xs.map TD.d)


theorem TD.shaped {α : Type} [TD α] [TB α] (h : TB.dep α ≤ 60) (x : α) : SeqAt.shaped (TD.d x) = true := by
  have h1 := TB.dle x
  show ((TD.d x).canLay0 && decide ((TD.d x).depth ≤ 64)) = true
  rw [Bool.and_eq_true]
  exact ⟨TB.lay x, decide_eq_true (by omega)⟩
class TE' (α : Type) [TD α] where
  eqv : ∀ x y : α, PyData.eqv (TD.d x) (TD.d y) = true ↔ x = y
def eqT {α : Type} [TD α] (x y : α) : Bool := PyData.eqv (TD.d x) (TD.d y)
def memT {α : Type} [TD α] (x : α) (xs : List α) : Bool := xs.any fun y => eqT y x
theorem eqT_iff {α : Type} [TD α] [TE' α] {x y : α} : eqT x y = true ↔ x = y := TE'.eqv x y
theorem eqT_no {α : Type} [TD α] [TE' α] {x y : α} : eqT x y = false ↔ x ≠ y := by rw [← Bool.not_eq_true, eqT_iff]
theorem memT_iff {α : Type} [TD α] [TE' α] {x : α} {xs : List α} : memT x xs = true ↔ x ∈ xs := by
  unfold memT
  rw [List.any_eq_true]
  exact ⟨fun ⟨y, h1, h2⟩ => by rw [← eqT_iff.mp h2]; exact h1, fun h => ⟨x, h, eqT_iff.mpr rfl⟩⟩
theorem memT_no {α : Type} [TD α] [TE' α] {x : α} {xs : List α} : memT x xs = false ↔ x ∉ xs := by rw [← Bool.not_eq_true, memT_iff]
theorem eqvT {α : Type} [TD α] (x y : α) : PyData.eqv (TD.d x) (TD.d y) = eqT x y := rfl
instance : TE' Int := ⟨fun x y => by show (x == y) = true ↔ _; simp⟩
instance : TE' Bool := ⟨fun x y => by show (x == y) = true ↔ _; simp⟩
instance : TE' Str := ⟨fun x y => by show (x == y) = true ↔ _; simp⟩
instance : TE' Unit := ⟨fun x y => by simp [TD.d, PyData.eqv]⟩
theorem eqvAll_map {α : Type} [TD α] [TE' α] : ∀ xs ys : List α, PyData.eqvAll (xs.map TD.d) (ys.map TD.d) = true ↔ xs = ys
  | [], [] => by simp [PyData.eqvAll]
  | [], y :: ys => by simp [PyData.eqvAll]
  | x :: xs, [] => by simp [PyData.eqvAll]
  | x :: xs, y :: ys => by
    simp only [List.map_cons, PyData.eqvAll, Bool.and_eq_true, eqvAll_map xs ys, TE'.eqv, List.cons.injEq]
instance {α : Type} [TD α] [TE' α] : TE' (List α) := ⟨fun xs ys => by
  show PyData.eqv (.list _) (.list _) = true ↔ _
  simp only [PyData.eqv]; exact eqvAll_map xs ys⟩
instance {α β : Type} [TD α] [TE' α] [TD β] [TE' β] : TE' (α × β) := ⟨fun p q => by
  show PyData.eqv (.tuple [_, _]) (.tuple [_, _]) = true ↔ _
  obtain ⟨a, b⟩ := p; obtain ⟨c, e⟩ := q
  simp [PyData.eqv, PyData.eqvAll, TE'.eqv]⟩
/-- data that is never None -/
class NN (α : Type) [TD α] where
  nn : ∀ x : α, (PyData.eqv (TD.d x) .none = false ∧ PyData.eqv .none (TD.d x) = false) ∧ TD.d x ≠ .none
instance : NN Int := ⟨fun _ => ⟨⟨rfl, rfl⟩, fun h => nomatch h⟩⟩
instance : NN Str := ⟨fun _ => ⟨⟨rfl, rfl⟩, fun h => nomatch h⟩⟩
instance : NN Bool := ⟨fun _ => ⟨⟨rfl, rfl⟩, fun h => nomatch h⟩⟩
instance {α : Type} [TD α] : NN (List α) := ⟨fun _ => ⟨⟨rfl, rfl⟩, fun h => nomatch h⟩⟩
instance {α β : Type} [TD α] [TD β] : NN (α × β) := ⟨fun _ => ⟨⟨rfl, rfl⟩, fun h => nomatch h⟩⟩
instance {α : Type} [TD α] [TE' α] [NN α] : TE' (Option α) := ⟨fun p q => by
  cases p with
  | none => cases q with
    | none => show PyData.eqv .none .none = true ↔ _; simp [PyData.eqv]
    | some y => show PyData.eqv .none (TD.d y) = true ↔ _; rw [(NN.nn y).1.2]; simp
  | some x => cases q with
    | none => show PyData.eqv (TD.d x) .none = true ↔ _; rw [(NN.nn x).1.1]; simp
    | some y => show PyData.eqv (TD.d x) (TD.d y) = true ↔ _; rw [TE'.eqv]; simp⟩

/-! #### how heaps grow -/
abbrev NA : Addr → Prop := fun _ => False
structure Gr (A : Addr → Prop) (F H N H' : Hp) : Prop where
  keep : ∀ a o, ¬ A a → H a = some o → H' a = some o
  there : ∀ a, H a ≠ none → H' a ≠ none
  ex : Sub F N
  sub : Sub N H'
  own : ∀ a, H a ≠ none → F a = none → N a = none
section
variable {A : Addr → Prop} {F0 H0 F H N H' : Hp} {p : Addr} {o : HO} {us : List V}
theorem Gr.refl (s : Sub F H) : Gr A F H F H := ⟨fun _ _ _ h => h, fun _ h => h, Sub.refl F, s, fun _ _ h => h⟩
theorem Gr.trans (G : Gr A F0 H0 F H) (g : Gr A F H N H') : Gr A F0 H0 N H' :=
  ⟨fun a o na h => g.keep a o na (G.keep a o na h), fun a h => g.there a (G.there a h), G.ex.trans g.ex, g.sub, fun a h f => g.own a (G.there a h) (G.own a h f)⟩
theorem Gr.na (g : Gr NA F H N H') : Gr A F H N H' := ⟨fun a o _ h => g.keep a o id h, g.there, g.ex, g.sub, g.own⟩
theorem Gr.step (G : Gr A F0 H0 F H) (g : Gr NA F H N H') : Gr A F0 H0 N H' := G.trans g.na
theorem Gr.fresh (G : Gr A F0 H0 F H) (hp : H p = none) : H0 p = none := by
  cases e : H0 p with
  | none => rfl
  | some o => exact absurd hp (G.there p (by rw [e]; exact (fun z => nomatch z)))
theorem Gr.new (s : Sub F H) (hp : H p = none) : Gr NA F H (upd F p o) (upd H p o) :=
  ⟨fun a u _ h => Sub.new hp a u h, fun a h => by
    cases e : H a with
    | none => exact absurd e h
    | some u => rw [Sub.new hp a u e]; exact (fun z => nomatch z), Sub.new (s.none hp), s.upd, fun a h f => by
    have : a ≠ p := fun z => by subst z; exact h hp
    rw [upd_ne this]; exact f⟩
theorem Gr.newO (s : Sub F H) (hp : H p = none) : Gr NA F H F (upd H p o) :=
  ⟨fun a u _ h => Sub.new hp a u h, fun a h => by
    cases e : H a with
    | none => exact absurd e h
    | some u => rw [Sub.new hp a u e]; exact (fun z => nomatch z), Sub.refl F, s.trans (Sub.new hp), fun a h f => f⟩
theorem Gr.mut (G : Gr A F0 H0 F H) (h0 : H0 p = none) (f : F p = none) : Gr A F0 H0 F (upd H p o) :=
  ⟨fun a u na h => by rw [upd_ne (ne_of_none h h0)]; exact G.keep a u na h, fun a h => by
    by_cases e : a = p
    · subst e; rw [upd_same]; exact (fun z => nomatch z)
    · rw [upd_ne e]; exact G.there a h, G.ex, G.sub.mut f, G.own⟩
theorem Gr.frz (G : Gr A F0 H0 F H) (ho : H p = some o) (h0 : H0 p = none) (f : F p = none) : Gr A F0 H0 (upd F p o) H :=
  ⟨G.keep, G.there, G.ex.trans (Sub.new f), fun a u e => by
    by_cases z : a = p
    · subst z; rw [upd_same] at e; cases e; exact ho
    · rw [upd_ne z] at e; exact G.sub a u e, fun a h e => by
    have : a ≠ p := fun z => by subst z; exact h h0
    rw [upd_ne this]; exact G.own a h e⟩
/-- a flat answer: the frozen part may stay as it was -/
theorem Gr.flat {Fc : Hp} (g : Gr NA Fc H N H') (s : Sub F H) : Gr NA F H F H' := ⟨g.keep, g.there, Sub.refl F, fun a o e => g.keep a o id (s a o e), fun _ _ f => f⟩
/-- an owned list -/
theorem Gr.flatA {Fc : Hp} (g : Gr A Fc H N H') (s : Sub F H) (nf : ∀ a, A a → F a = none) : Gr A F H F H' := ⟨g.keep, g.there, Sub.refl F, fun a o e => g.keep a o (fun h => by rw [nf a h] at e; exact nomatch e) (s a o e), fun _ _ f => f⟩
structure Ow (H0 F H : Hp) (p : Addr) (us : List V) : Prop where
  at_ : H p = some (.lst us)
  nf : F p = none
  n0 : H0 p = none
theorem Ow.new (G : Gr A F0 H0 F H) (hp : H p = none) : Ow H0 F (upd H p (.lst us)) p us := ⟨upd_same, G.sub.none hp, G.fresh hp⟩
theorem Ow.step (w : Ow H0 F H p us) (g : Gr NA F H N H') : Ow H0 N H' p us := ⟨g.keep p _ id w.at_, g.own p (by rw [w.at_]; exact (fun z => nomatch z)) w.nf, w.n0⟩
theorem Ow.mut {ws : List V} (w : Ow H0 F H p us) : Ow H0 F (upd H p (.lst ws)) p ws := ⟨upd_same, w.nf, w.n0⟩
theorem Ow.other {q : Addr} {ws : List V} (w : Ow H0 F H p us) (h : q ≠ p) : Ow H0 F (upd H q (.lst ws)) p us := ⟨by rw [upd_ne h.symm]; exact w.at_, w.nf, w.n0⟩
theorem Ow.ne_new {q : Addr} (w : Ow H0 F H p us) (hq : H q = none) : p ≠ q := ne_of_none w.at_ hq
theorem Ow.mutG (w : Ow H0 F H p us) (G : Gr A F0 H0 F H) : Gr A F0 H0 F (upd H p o) := G.mut w.n0 w.nf
theorem Ow.frz (w : Ow H0 F H p us) (G : Gr A F0 H0 F H) : Gr A F0 H0 (upd F p (.lst us)) H := G.frz w.at_ w.n0 w.nf
theorem Ow.sub (w : Ow H0 F H p us) (s : Sub F H) : Sub (upd F p (.lst us)) H := fun a u e => by
    by_cases z : a = p
    · subst z; rw [upd_same] at e; cases e; exact w.at_
    · rw [upd_ne z] at e; exact s a u e
theorem Ow.ex (w : Ow H0 F H p us) : Sub F (upd F p (.lst us)) := Sub.new w.nf
end

/-! #### taking facts apart -/
section
variable {α β : Type} [TD α] [TD β] {F H : Hp} {v : V}
theorem int_of {x : Int} (h : R F v x) : v = .int x := by cases h; rfl
theorem bl_of {x : Bool} (h : R F v x) : v = .bl x := by cases h; rfl
theorem non_of {x : Unit} (h : R F v x) : v = .non := by cases h; rfl
theorem lst_of {xs : List α} (h : R F v xs) : ∃ a us, v = .ref a ∧ F a = some (.lst us) ∧ Rs F us xs := by
  cases h with | lst h r => exact ⟨_, _, rfl, h, r⟩
theorem lst_ref {a : Addr} {xs : List α} (h : R F (.ref a) xs) : ∃ us, F a = some (.lst us) ∧ Rs F us xs := by
  obtain ⟨b, us, e, fa, fr⟩ := lst_of h
  cases e
  exact ⟨us, fa, fr⟩
theorem tup2_of {p : α × β} (h : R F v p) : ∃ a v1 v2, v = .ref a ∧ F a = some (.tup [v1, v2]) ∧ R F v1 p.1 ∧ R F v2 p.2 := by
  cases h with | tup h r => cases r with | cons h1 r => cases r with | cons h2 r => cases r; exact ⟨_, _, _, rfl, h, h1, h2⟩
theorem mk_lst {a : Addr} {us : List V} {xs : List α} (h : F a = some (.lst us)) (r : Rs F us xs) : R F (.ref a) xs := .lst h r
theorem mk_tup2 {a : Addr} {v1 v2 : V} {p : α × β} (h : F a = some (.tup [v1, v2])) (h1 : R F v1 p.1) (h2 : R F v2 p.2) : R F (.ref a) p := .tup h (.cons h1 (.cons h2 .nil))
theorem Rs_len {us : List V} {xs : List α} (r : Rs F us xs) : us.length = xs.length := by rw [r.len, List.length_map]
theorem Rs_nil : Rs (α := α) F [] [] := .nil
theorem Rs_cons {u : V} {us : List V} {x : α} {xs : List α} (h : R F u x) (r : Rs F us xs) : Rs F (u :: us) (x :: xs) := .cons h r
theorem Rs_app {us ws : List V} {xs ys : List α} (r : Rs F us xs) (s : Rs F ws ys) : Rs F (us ++ ws) (xs ++ ys) := by
  unfold Rs; rw [List.map_append]; exact r.append s
theorem Rs_snoc {us : List V} {u : V} {xs : List α} {x : α} (r : Rs F us xs) (h : R F u x) : Rs F (us ++ [u]) (xs ++ [x]) := Rs_app r (.cons h .nil)
theorem Rs_rev {us : List V} {xs : List α} (r : Rs F us xs) : Rs F us.reverse xs.reverse := by
  unfold Rs; rw [List.map_reverse]; exact r.reverse
theorem Rs_mono {N : Hp} {us : List V} {xs : List α} (s : Sub F N) (r : Rs F us xs) : Rs N us xs := RDs.mono s r
theorem Rs_int {us : List V} {xs : List Int} (r : Rs F us xs) : us = xs.map V.int := by
  induction xs generalizing us with
  | nil => cases r; rfl
  | cons x xs ih => cases r with | cons h r => cases h; rw [List.map_cons, ih r]
theorem int_Rs : ∀ xs : List Int, Rs F (xs.map V.int) xs
  | [] => .nil
  | x :: xs => .cons (.int x) (int_Rs xs)
end
/-- xs[i], the item and its fact -/
def ixOk {α : Type} (xs : List α) (i : Int) (x : α) : Prop := atI xs i = some x
theorem Rs_at {α : Type} [TD α] {F : Hp} {us : List V} {xs : List α} (r : Rs F us xs) {i : Int} {x : α} (h : atI xs i = some x) : ∃ u, atI us i = some u ∧ R F u x := by
  unfold atI at h ⊢
  rw [Rs_len r]
  cases e : ixN xs.length i with
  | none => rw [e] at h; cases h
  | some k =>
    rw [e] at h
    have h' : xs[k]? = some x := h
    obtain ⟨u, h1, h2⟩ := RDs.get (i := k) (d := TD.d x) r (by rw [List.getElem?_map, h']; rfl)
    exact ⟨u, h1, h2⟩

/-! #### mirrors: loops -/
def forK {S α ρ : Type} (f : S → α → (S → Option ρ) → Option ρ) : List α → S → (S → Option ρ) → Option ρ
  | [], s, K => K s
  | x :: xs, s, K => f s x fun s' => forK f xs s' K
def whileK {S ρ : Type} (f : S → (S → Option ρ) → Option ρ) : Nat → S → Option ρ
  | 0, _ => none
  | m + 1, s => f s (whileK f m)
def fuel : Nat := 1000000
theorem forK_c {S α ρ : Type} {f : S → α → (S → Option ρ) → Option ρ} {x : α} {xs : List α} {s : S} {K : S → Option ρ} {r : ρ} (h : forK f (x :: xs) s K = some r) : f s x (fun s' => forK f xs s' K) = some r := h
theorem forK_n {S α ρ : Type} {f : S → α → (S → Option ρ) → Option ρ} {s : S} {K : S → Option ρ} {r : ρ} (h : forK f [] s K = some r) : K s = some r := h
theorem whileK_s {S ρ : Type} {f : S → (S → Option ρ) → Option ρ} {m : Nat} {s : S} {r : ρ} (h : whileK f (m + 1) s = some r) : f s (whileK f m) = some r := h
def irange (lo hi : Int) : List Int := (List.range (hi - lo).toNat).map fun i : Nat => lo + (i : Int)
section
variable {α ρ : Type} {c : Prop} [Decidable c] {a b : Option ρ} {r : ρ}
theorem itep (h : (if c then a else b) = some r) (hc : c) : a = some r := by rw [if_pos hc] at h; exact h
theorem iten (h : (if c then a else b) = some r) (hc : ¬ c) : b = some r := by rw [if_neg hc] at h; exact h
theorem guardp (h : (if c then a else none) = some r) : c ∧ a = some r := by
  by_cases hc : c
  · exact ⟨hc, itep h hc⟩
  · rw [if_neg hc] at h; cases h
theorem bindp {x : Option α} {f : α → Option ρ} (h : x.bind f = some r) : ∃ y, x = some y ∧ f y = some r := by
  cases x with
  | none => cases h
  | some y => exact ⟨y, rfl, h⟩
theorem ifD {c : Bool} {A B : Prop} (h1 : c = true → A) (h2 : c = false → B) : if c = true then A else B := by
  cases c with
  | true => rw [if_pos rfl]; exact h1 rfl
  | false => rw [if_neg Bool.false_ne_true]; exact h2 rfl
theorem dT {c : Prop} [Decidable c] (h : decide c = true) : c := of_decide_eq_true h
theorem dF {c : Prop} [Decidable c] (h : decide c = false) : ¬ c := of_decide_eq_false h
theorem ndT {c : Prop} [Decidable c] (h : (!decide c) = true) : ¬ c := of_decide_eq_false (by rw [Bool.not_eq_true'] at h; exact h)
theorem ndF {c : Prop} [Decidable c] (h : (!decide c) = false) : c := of_decide_eq_true (by rw [Bool.not_eq_false'] at h; exact h)
theorem bF {c : Bool} (h : c = false) : ¬ c = true := by rw [h]; exact Bool.false_ne_true
end

/-! #### loops read -/
section
variable {K : PySem.W.Frag} {g : TG} {tb : TS} {D : Ends} {σ : L2.St} {H : Hp} {α : Type} [TD α]
theorem while_m {c : TT} (W : Nat → L2.St → Hp → Prop) (m : Nat) (h0 : W m σ H) (hz : ∀ σ H, ¬ W 0 σ H)
    (hs : ∀ m σ H, W (m + 1) σ H → c σ H fun b H1 => if b = true then tb { D with nx := W m, ct := W m, bk := D.nx } σ H1 else D.nx σ H1) (mono : ∀ σ H Q Q', (∀ b H1, Q b H1 → Q' b H1) → c σ H Q → c σ H Q') : tWhile c tb D σ H := by
  refine ⟨W, ⟨m, h0⟩, fun m σ H h => ?_⟩
  cases m with
  | zero => exact absurd h (hz σ H)
  | succ m =>
    refine mono σ H _ _ (fun b H1 q => ?_) (hs m σ H h)
    cases b with
    | true => exact ⟨W m, fun σ' H' h => ⟨m, Nat.lt_succ_self m, h⟩, q⟩
    | false => exact q
theorem while_n {c : TT} (W : Nat → L2.St → Hp → Prop) (m : Nat) (h0 : W m σ H) (hz : ∀ σ H, ¬ W 0 σ H)
    (hs : ∀ m σ H, W (m + 1) σ H → c σ H fun b H1 => if b = true then ∃ N : L2.St → Hp → Prop, (∀ σ' H', N σ' H' → ∃ m', m' < m + 1 ∧ W m' σ' H') ∧ tb { D with nx := N, ct := N, bk := D.nx } σ H1 else D.nx σ H1) : tWhile c tb D σ H := by
  refine ⟨W, ⟨m, h0⟩, fun m σ H h => ?_⟩
  cases m with
  | zero => exact absurd h (hz σ H)
  | succ m => exact hs m σ H h
theorem drop_cons {α : Type} {xs : List α} {i : Nat} {x : α} (h : xs[i]? = some x) : xs.drop i = x :: xs.drop (i + 1) := by
  obtain ⟨h1, h2⟩ := List.getElem?_eq_some_iff.mp h
  rw [← h2]; exact List.drop_eq_getElem_cons h1
theorem for_lst {a : Addr} {us : List V} {xs : List α} {F : Hp} (W : List α → L2.St → Hp → Prop) (fr : Rs F us xs) (h0 : W xs σ H) (hf : ∀ ts σ H, W ts σ H → H a = some (.lst us))
    (hs : ∀ x ts v σ H, R F v x → W (x :: ts) σ H → g v σ H fun σ2 H2 => tb { D with nx := W ts, ct := W ts, bk := D.nx } σ2 H2) (hd : ∀ σ H, W [] σ H → D.nx σ H) :
    ∃ W : Nat → Nat → L2.St → Hp → Prop, (∃ m, W 0 m σ H) ∧ ∀ i m σ H, W i m σ H →
      ((Itl K a).stop i H ∧ D.nx σ H) ∨ ((Itl K a).go i H ∧ ∃ N : L2.St → Hp → Prop, (∀ σ' H', N σ' H' → ∃ m', m' < m ∧ W (i + 1) m' σ' H') ∧ ∀ x H', (Itl K a).yld i H x H' → g x σ H' fun σ2 H2 => tb { D with nx := N, ct := N, bk := D.nx } σ2 H2) := by
  have hl := Rs_len fr
  refine for_list (xs := us) (fun i σ H => W (xs.drop i) σ H) (by rw [List.drop_zero]; exact h0) (fun i σ H _ h => .inl (.inl (hf _ σ H h))) (fun i v σ H e h => ?_) fun σ H h => ?_
  · obtain ⟨d, e1, e2⟩ := fr.get' e
    have h1 : i < xs.length := by have := (List.getElem?_eq_some_iff.mp e).1; omega
    have e3 : xs[i]? = some xs[i] := List.getElem?_eq_getElem h1
    rw [List.getElem?_map, e3] at e1
    cases e1
    have h' : W (xs.drop i) σ H := h
    rw [drop_cons e3] at h'
    exact hs _ _ v σ H e2 h'
  · have h' : W (xs.drop us.length) σ H := h
    rw [hl, List.drop_length] at h'
    exact hd σ H h'
theorem irange_len (lo hi : Int) : (irange lo hi).length = (hi - lo).toNat := by unfold irange; simp
theorem irange_get {lo hi : Int} {i : Nat} (h : i < (hi - lo).toNat) : (irange lo hi)[i]? = some (lo + i) := by unfold irange; simp [h]
def irangeC (lo hi c : Int) : List Int := (List.range (Builtin.Range.rangeSize lo hi c).toNat).map fun i : Nat => lo + (i : Int) * c
theorem irangeC_len (lo hi c : Int) : (irangeC lo hi c).length = (Builtin.Range.rangeSize lo hi c).toNat := by unfold irangeC; simp
theorem irangeC_get {lo hi c : Int} {i : Nat} (h : i < (Builtin.Range.rangeSize lo hi c).toNat) : (irangeC lo hi c)[i]? = some (lo + (i : Int) * c) := by unfold irangeC; simp [h]
def RgD (i j c : Int) : Prop := c ≠ 0 ∧ c.natAbs < 1073741824 ∧ Builtin.Range.small i j c = true ∧ 0 ≤ Builtin.Range.rangeSize i j c
instance (i j c : Int) : Decidable (RgD i j c) := inferInstanceAs (Decidable (_ ∧ _))
theorem RgD.ok {i j c : Int} (h : RgD i j c) : RgC i j c (Builtin.Range.rangeSize i j c).toNat := ⟨h.1, h.2.1, h.2.2.1, (Int.toNat_of_nonneg h.2.2.2).symm⟩
theorem for_rngC {lo hi c : Int} (W : List Int → L2.St → Hp → Prop) (h0 : W (irangeC lo hi c) σ H)
    (hs : ∀ x ts σ H, W (x :: ts) σ H → g (.int x) σ H fun σ2 H2 => tb { D with nx := W ts, ct := W ts, bk := D.nx } σ2 H2) (hd : ∀ σ H, W [] σ H → D.nx σ H) :
    ∃ W : Nat → Nat → L2.St → Hp → Prop, (∃ m, W 0 m σ H) ∧ ∀ i m σ H, W i m σ H →
      ((Itc lo c (Builtin.Range.rangeSize lo hi c).toNat).stop i H ∧ D.nx σ H) ∨ ((Itc lo c (Builtin.Range.rangeSize lo hi c).toNat).go i H ∧ ∃ N : L2.St → Hp → Prop, (∀ σ' H', N σ' H' → ∃ m', m' < m ∧ W (i + 1) m' σ' H') ∧ ∀ x H', (Itc lo c (Builtin.Range.rangeSize lo hi c).toNat).yld i H x H' → g x σ H' fun σ2 H2 => tb { D with nx := N, ct := N, bk := D.nx } σ2 H2) := by
  refine for_rangeC (fun i σ H => W ((irangeC lo hi c).drop i) σ H) (by rw [List.drop_zero]; exact h0) (fun i σ H hi' h => ?_) fun σ H h => ?_
  · have h' : W ((irangeC lo hi c).drop i) σ H := h
    rw [drop_cons (irangeC_get hi')] at h'
    exact hs _ _ σ H h'
  · have h' : W ((irangeC lo hi c).drop (Builtin.Range.rangeSize lo hi c).toNat) σ H := h
    rw [← irangeC_len, List.drop_length] at h'
    exact hd σ H h'
theorem for_rng {lo hi : Int} {n : Nat} (hn : n = (hi - lo).toNat) (W : List Int → L2.St → Hp → Prop) (h0 : W (irange lo hi) σ H)
    (hs : ∀ x ts σ H, W (x :: ts) σ H → g (.int x) σ H fun σ2 H2 => tb { D with nx := W ts, ct := W ts, bk := D.nx } σ2 H2) (hd : ∀ σ H, W [] σ H → D.nx σ H) :
    ∃ W : Nat → Nat → L2.St → Hp → Prop, (∃ m, W 0 m σ H) ∧ ∀ i m σ H, W i m σ H →
      ((Itr lo n).stop i H ∧ D.nx σ H) ∨ ((Itr lo n).go i H ∧ ∃ N : L2.St → Hp → Prop, (∀ σ' H', N σ' H' → ∃ m', m' < m ∧ W (i + 1) m' σ' H') ∧ ∀ x H', (Itr lo n).yld i H x H' → g x σ H' fun σ2 H2 => tb { D with nx := N, ct := N, bk := D.nx } σ2 H2) := by
  subst hn
  refine for_range (fun i σ H => W ((irange lo hi).drop i) σ H) (by rw [List.drop_zero]; exact h0) (fun i σ H hi' h => ?_) fun σ H h => ?_
  · have h' : W ((irange lo hi).drop i) σ H := h
    rw [drop_cons (irange_get hi')] at h'
    exact hs _ _ σ H h'
  · have h' : W ((irange lo hi).drop (hi - lo).toNat) σ H := h
    rw [← irange_len, List.drop_length] at h'
    exact hd σ H h'
variable {tt : TT} {te : TE} {vs : List Nat} {H1 : Hp} {Dl : Addr} {Qd : Hp → Prop}
theorem lc_lst {a : Addr} {us : List V} {xs : List α} {F : Hp} (W : List α → Hp → Prop) (fr : Rs F us xs) (h0 : W xs (upd H1 Dl (.lst []))) (hf : ∀ ts H, W ts H → H a = some (.lst us))
    (hs : ∀ x ts v H, R F v x → W (x :: ts) H → g v (wipe σ vs) H fun σ2 H2 => wipe σ2 vs = wipe σ vs ∧ tt σ2 H2 fun b H3 =>
        if b = true then te σ2 H3 fun y H4 => ∃ acc, H4 Dl = some (HO.lst acc) ∧ acc.length < sizeLine ∧ W ts (upd H4 Dl (HO.lst (acc ++ [y]))) else W ts H3) (hd : ∀ H, W [] H → Qd H) :
    ∃ W : Nat → Nat → Hp → Prop, (∃ m, W 0 m (upd H1 Dl (HO.lst []))) ∧ ∀ (i m : Nat) (H : Hp), W i m H → (Itl K a).stop i H ∧ Qd H ∨
      (Itl K a).go i H ∧ ∃ Nx : Hp → Prop, (∀ (H' : Hp), Nx H' → ∃ m', m' < m ∧ W (i + 1) m' H') ∧ ∀ (x : V) (H' : Hp), (Itl K a).yld i H x H' →
        g x (wipe σ vs) H' fun σ2 H2 => wipe σ2 vs = wipe σ vs ∧ tt σ2 H2 fun b H3 => if b = true then te σ2 H3 fun y H4 => ∃ acc, H4 Dl = some (HO.lst acc) ∧ acc.length < sizeLine ∧ Nx (upd H4 Dl (HO.lst (acc ++ [y]))) else Nx H3 := by
  have hl := Rs_len fr
  refine lc_list (xs := us) (fun i H => W (xs.drop i) H) (by rw [List.drop_zero]; exact h0) (fun i H _ h => .inl (.inl (hf _ H h))) (fun i v H e h => ?_) fun H h => ?_
  · obtain ⟨d, e1, e2⟩ := fr.get' e
    have h1 : i < xs.length := by have := (List.getElem?_eq_some_iff.mp e).1; omega
    have e3 : xs[i]? = some xs[i] := List.getElem?_eq_getElem h1
    rw [List.getElem?_map, e3] at e1
    cases e1
    have h' : W (xs.drop i) H := h
    rw [drop_cons e3] at h'
    exact hs _ _ v H e2 h'
  · have h' : W (xs.drop us.length) H := h
    rw [hl, List.drop_length] at h'
    exact hd H h'
/-- with which value it is -/
theorem lc_lstM {a : Addr} {us : List V} {xs : List α} {F : Hp} (W : List α → Hp → Prop) (fr : Rs F us xs) (h0 : W xs (upd H1 Dl (.lst []))) (hf : ∀ ts H, W ts H → H a = some (.lst us))
    (hs : ∀ x ts v H, R F v x → v ∈ us → W (x :: ts) H → g v (wipe σ vs) H fun σ2 H2 => wipe σ2 vs = wipe σ vs ∧ tt σ2 H2 fun b H3 =>
        if b = true then te σ2 H3 fun y H4 => ∃ acc, H4 Dl = some (HO.lst acc) ∧ acc.length < sizeLine ∧ W ts (upd H4 Dl (HO.lst (acc ++ [y]))) else W ts H3) (hd : ∀ H, W [] H → Qd H) :
    ∃ W : Nat → Nat → Hp → Prop, (∃ m, W 0 m (upd H1 Dl (HO.lst []))) ∧ ∀ (i m : Nat) (H : Hp), W i m H → (Itl K a).stop i H ∧ Qd H ∨
      (Itl K a).go i H ∧ ∃ Nx : Hp → Prop, (∀ (H' : Hp), Nx H' → ∃ m', m' < m ∧ W (i + 1) m' H') ∧ ∀ (x : V) (H' : Hp), (Itl K a).yld i H x H' →
        g x (wipe σ vs) H' fun σ2 H2 => wipe σ2 vs = wipe σ vs ∧ tt σ2 H2 fun b H3 => if b = true then te σ2 H3 fun y H4 => ∃ acc, H4 Dl = some (HO.lst acc) ∧ acc.length < sizeLine ∧ Nx (upd H4 Dl (HO.lst (acc ++ [y]))) else Nx H3 := by
  have hl := Rs_len fr
  refine lc_list (xs := us) (fun i H => W (xs.drop i) H) (by rw [List.drop_zero]; exact h0) (fun i H _ h => .inl (.inl (hf _ H h))) (fun i v H e h => ?_) fun H h => ?_
  · obtain ⟨d, e1, e2⟩ := fr.get' e
    have h1 : i < xs.length := by have := (List.getElem?_eq_some_iff.mp e).1; omega
    have e3 : xs[i]? = some xs[i] := List.getElem?_eq_getElem h1
    rw [List.getElem?_map, e3] at e1
    cases e1
    have h' : W (xs.drop i) H := h
    rw [drop_cons e3] at h'
    exact hs _ _ v H e2 (List.mem_of_getElem? e) h'
  · have h' : W (xs.drop us.length) H := h
    rw [hl, List.drop_length] at h'
    exact hd H h'
theorem lc_rng {lo hi : Int} {n : Nat} (hn : n = (hi - lo).toNat) (W : List Int → Hp → Prop) (h0 : W (irange lo hi) (upd H1 Dl (.lst [])))
    (hs : ∀ x ts H, W (x :: ts) H → g (.int x) (wipe σ vs) H fun σ2 H2 => wipe σ2 vs = wipe σ vs ∧ tt σ2 H2 fun b H3 =>
        if b = true then te σ2 H3 fun y H4 => ∃ acc, H4 Dl = some (HO.lst acc) ∧ acc.length < sizeLine ∧ W ts (upd H4 Dl (HO.lst (acc ++ [y]))) else W ts H3) (hd : ∀ H, W [] H → Qd H) :
    ∃ W : Nat → Nat → Hp → Prop, (∃ m, W 0 m (upd H1 Dl (HO.lst []))) ∧ ∀ (i m : Nat) (H : Hp), W i m H → (Itr lo n).stop i H ∧ Qd H ∨
      (Itr lo n).go i H ∧ ∃ Nx : Hp → Prop, (∀ (H' : Hp), Nx H' → ∃ m', m' < m ∧ W (i + 1) m' H') ∧ ∀ (x : V) (H' : Hp), (Itr lo n).yld i H x H' →
        g x (wipe σ vs) H' fun σ2 H2 => wipe σ2 vs = wipe σ vs ∧ tt σ2 H2 fun b H3 => if b = true then te σ2 H3 fun y H4 => ∃ acc, H4 Dl = some (HO.lst acc) ∧ acc.length < sizeLine ∧ Nx (upd H4 Dl (HO.lst (acc ++ [y]))) else Nx H3 := by
  subst hn
  refine lc_range (fun i H => W ((irange lo hi).drop i) H) (by rw [List.drop_zero]; exact h0) (fun i H hi' h => ?_) fun H h => ?_
  · have h' : W ((irange lo hi).drop i) H := h
    rw [drop_cons (irange_get hi')] at h'
    exact hs _ _ H h'
  · have h' : W ((irange lo hi).drop (hi - lo).toNat) H := h
    rw [← irange_len, List.drop_length] at h'
    exact hd H h'
end

/-! #### operators of my own -/
section
variable {X : Cx}
def rEqT (α : Type) [TD α] [TE' α] : R2 := fun x y H Q => ∃ (F : Hp) (a b : α), Sub F H ∧ R F x a ∧ R F y b ∧ Q (.bl (eqT a b)) H
def rNeT (α : Type) [TD α] [TE' α] : R2 := fun x y H Q => ∃ (F : Hp) (a b : α), Sub F H ∧ R F x a ∧ R F y b ∧ Q (.bl (!eqT a b)) H
theorem op_eqT {α : Type} [TD α] [TB α] [TE' α] (hd : TB.dep α ≤ 60) (hu : X.A.units + 64 < cLine) : OpR X (compareOp .Eq) (rEqT α) := by
  intro pins s σ H x y v u Q I rx ry h
  obtain ⟨F, a, b, sb, ha, hb, q⟩ := h
  exact op_eqD hu pins s σ H x y v u Q I rx ry ⟨_, _, ha.dpL sb (TB.lay a), hb.dpL sb (TB.lay b), TD.shaped hd a, TD.shaped hd b, by rw [eqvT]; exact q⟩
theorem op_neT {α : Type} [TD α] [TB α] [TE' α] (hd : TB.dep α ≤ 60) (hu : X.A.units + 64 < cLine) : OpR X (compareOp .NotEq) (rNeT α) := by
  intro pins s σ H x y v u Q I rx ry h
  obtain ⟨F, a, b, sb, ha, hb, q⟩ := h
  exact op_neD hu pins s σ H x y v u Q I rx ry ⟨_, _, ha.dpL sb (TB.lay a), hb.dpL sb (TB.lay b), TD.shaped hd a, TD.shaped hd b, by rw [eqvT]; exact q⟩
theorem any_eq {α : Type} [TD α] (x : α) (xs : List α) : ((xs.map TD.d).any fun z => PyData.eqv z (TD.d x)) = memT x xs := by
  unfold memT
  rw [List.any_map]
  rfl
def rInT (α : Type) [TD α] [TE' α] : R2 := fun x y H Q => ∃ (F : Hp) (a : α) (b : List α), Sub F H ∧ R F x a ∧ R F y b ∧ Q (.bl (memT a b)) H
def rNiT (α : Type) [TD α] [TE' α] : R2 := fun x y H Q => ∃ (F : Hp) (a : α) (b : List α), Sub F H ∧ R F x a ∧ R F y b ∧ Q (.bl (!memT a b)) H
theorem op_inT {α : Type} [TD α] [TB α] [TE' α] (hd : TB.dep α ≤ 50) (hu : X.A.units + 65 < cLine) : OpR X (compareOp .In) (rInT α) := by
  intro pins s σ H x y v u Q I rx ry h
  obtain ⟨F, a, b, sb, ha, hb, q⟩ := h
  exact op_inD hu pins s σ H x y v u Q I rx ry ⟨_, _, ha.dpL sb (TB.lay a), hb.dpL sb (TB.lay b), TD.shaped (by omega) a, TD.shaped (α := List α) (by show TB.dep α + 1 ≤ 60; omega) b, by rw [any_eq]; exact q⟩
theorem op_niT {α : Type} [TD α] [TB α] [TE' α] (hd : TB.dep α ≤ 50) (hu : X.A.units + 65 < cLine) : OpR X (compareOp .NotIn) (rNiT α) := by
  intro pins s σ H x y v u Q I rx ry h
  obtain ⟨F, a, b, sb, ha, hb, q⟩ := h
  exact op_notInD hu pins s σ H x y v u Q I rx ry ⟨_, _, ha.dpL sb (TB.lay a), hb.dpL sb (TB.lay b), TD.shaped (by omega) a, TD.shaped (α := List α) (by show TB.dep α + 1 ≤ 60; omega) b, by rw [any_eq]; exact q⟩
end
theorem hu64 {A : Around} {k : Nat} (hr : Room k A) : A.units + 64 < cLine := by have := hr.un; omega
theorem hu65 {A : Around} {k : Nat} (hr : Room k A) : A.units + 65 < cLine := by have := hr.un; omega
theorem szl {n : Nat} (h : n < 16777216) : n < sizeLine := by rw [sizeLine_eq]; exact h
theorem szle {n : Nat} (h : n ≤ 16777216) : n ≤ sizeLine := by rw [sizeLine_eq]; exact h

/-- a divisor, two factors that the model carries -/
def Dv (j : Int) : Prop := 0 < j ∧ j.natAbs.log2 < 9000
instance (j : Int) : Decidable (Dv j) := inferInstanceAs (Decidable (_ ∧ _))
theorem Dv.w {i j : Int} (h : Dv j) : CDivW i j := h
theorem Dv.p {j : Int} (h : Dv j) : 0 < j := h.1
theorem Dv.of {j : Int} (h : 0 < j) (h2 : j < 2 ^ 9000) : Dv j := by
  refine ⟨h, ?_⟩
  have e : j.natAbs < 2 ^ 9000 := by omega
  rw [Nat.log2_lt (by omega)]; exact e
def Mv (i j : Int) : Prop := i.natAbs.log2 + j.natAbs.log2 < 1000000
instance (i j : Int) : Decidable (Mv i j) := inferInstanceAs (Decidable (_ < _))
theorem Mv.w {i j : Int} (h : Mv i j) : CMulW i j := h


/-! #### readings opened one layer -/
section
variable {K : PySem.W.Frag} {σ : L2.St} {H : Hp} {D : Ends} {t u : TS} {te ta tb tc : TE} {tt tu : TT} {g : TG} {r r' : R2} {Q : VK} {QB : Bool → Hp → Prop} {QA : List V → Hp → Prop} {tA : TA}
theorem x_seq (h : t { D with nx := u D } σ H) : tSeq t u D σ H := h
theorem x_yes (h : QB true H) : tYes σ H QB := h
theorem x_nopart {QO : Option Int → Hp → Prop} (h : QO none H) : tNoPart σ H QO := h
theorem x_c {v : V} (h : Q v H) : tC v σ H Q := h
theorem x_gn {i : Nat} {v : V} {QS : L2.St → Hp → Prop} (h : QS (σ.set i (some v)) H) : gName i v σ H QS := h
theorem x_next (h : D.nx σ H) : tNext D σ H := h
theorem x_par {i j : Nat} (h : tA σ H fun vs H1 => ∃ v w, vs = [v, w] ∧ D.nx ((σ.set i (some v)).set j (some w)) H1) : tPar i j tA D σ H := h
theorem x_if (h : tt σ H fun b H1 => if b = true then t D σ H1 else u D σ H1) : tIfS tt t u D σ H := h
theorem x_asg (h : te σ H fun x H1 => g x σ H1 D.nx) : tAsg te g D σ H := h
theorem x_drop (h : te σ H fun _ H1 => D.nx σ H1) : tDrop te D σ H := h
theorem x_ret (h : te σ H D.rt) : tRet te D σ H := h
theorem x_op (h : ta σ H fun x H1 => tb σ H1 fun y H2 => r x y H2 Q) : tOp r ta tb σ H Q := h
theorem x_un {r : V → Hp → VK → Prop} (h : ta σ H fun x H1 => r x H1 Q) : tUn r ta σ H Q := h
theorem x_cmp {p : Int → Int → Bool} (h : ta σ H fun x H1 => tb σ H1 fun y H2 => ∃ i j, x = .int i ∧ y = .int j ∧ Q (.bl (p i j)) H2) : tCmp p ta tb σ H Q := h
theorem x_cons {tr : TA} (h : ta σ H fun x H1 => tr σ H1 fun xs H2 => QA (x :: xs) H2) : tCons ta tr σ H QA := h
theorem x_lst (h : tA σ H fun xs H1 => xs.length ≤ sizeLine ∧ ∀ p, H1 p = none → Q (.ref p) (upd H1 p (.lst xs))) : tLst tA σ H Q := h
theorem x_tup (h : tA σ H fun xs H1 => xs.length ≤ sizeLine ∧ ∀ p, H1 p = none → Q (.ref p) (upd H1 p (.tup xs))) : tTup tA σ H Q := h
theorem x_call {sp : Sp} {dvs : List V} {E : XK} (h : tA σ H fun vs H1 => sp (vs ++ dvs) H1 Q E) : tCall sp dvs E tA σ H Q := h
theorem x_cb {r : List V → Hp → VK → Prop} (h : tA σ H fun vs H1 => r vs H1 Q) : tCB r tA σ H Q := h
theorem x_B (h : te σ H fun x H1 => ∃ c, x = .bl c ∧ QB c H1) : tB te σ H QB := h
theorem x_test (h : te σ H fun x H1 => ∃ c, x = .bl c ∧ QB c H1) : tTest te σ H QB := h
theorem x_not (h : tt σ H fun c H1 => QB (!c) H1) : tNot tt σ H QB := h
theorem x_and (h : tt σ H fun c H1 => if c = true then tu σ H1 QB else QB false H1) : tAnd tt tu σ H QB := h
theorem x_or (h : tt σ H fun c H1 => if c = true then QB true H1 else tu σ H1 QB) : tOr tt tu σ H QB := h
theorem x_andV (h : ta σ H fun x H1 => ∃ c, x = .bl c ∧ if c = true then tb σ H1 Q else Q (.bl false) H1) : tAndV ta tb σ H Q := h
theorem x_orV (h : ta σ H fun x H1 => ∃ c, x = .bl c ∧ if c = true then Q (.bl true) H1 else tb σ H1 Q) : tOrV ta tb σ H Q := h
theorem x_notV (h : ta σ H fun x H1 => ∃ c, x = .bl c ∧ Q (.bl (!c)) H1) : tNotV ta σ H Q := h
theorem x_chain (h : ta σ H fun x H1 => tb σ H1 fun y H2 => r x y H2 fun z H3 => ∃ k, z = .bl k ∧ (if k = true then tc σ H3 fun w' H4 => r' y w' H4 Q else Q (.bl false) H3)) : tChain r r' ta tb tc σ H Q := h
theorem x_ife (h : tt σ H fun c H1 => if c = true then ta σ H1 Q else tb σ H1 Q) : tIf tt ta tb σ H Q := h
theorem x_sl {r : V → Option Int → Option Int → Hp → VK → Prop} {tl th : TO} (h : te σ H fun x H1 => tl σ H1 fun l H2 => th σ H2 fun u H3 => r x l u H3 Q) : tSl r te tl th σ H Q := h
theorem x_part {QO : Option Int → Hp → Prop} (h : te σ H fun x H1 => ∃ i, x = .int i ∧ QO (some i) H1) : tPart te σ H QO := h
theorem x_revL (h : te σ H fun x H1 => ∃ a xs, x = .ref a ∧ SqL K H1 a xs ∧ ∀ p, H1 p = none → Q (.ref p) (upd H1 p (.lst xs.reverse))) : tRevL K te σ H Q := h
theorem x_bm {T : String} {r : V → List V → Hp → VK → Prop} (h : te σ H fun x H1 => tyV K T x H1 ∧ tA σ H1 fun xs H2 => r x xs H2 Q) : tBM K T r te tA σ H Q := h
theorem x_bm0 {T : String} {r : V → List V → Hp → VK → Prop} (h : te σ H fun x H1 => tyV K T x H1 ∧ r x [] H1 Q) : tBM0 K T r te σ H Q := h
theorem x_isN (h : ta σ H fun x H1 => Q (.bl (decide (x = .non))) H1) : tIsN ta σ H Q := h
theorem x_notN (h : ta σ H fun x H1 => Q (.bl (!decide (x = .non))) H1) : tNotN ta σ H Q := h
theorem x_isN' (h : ta σ H fun x H1 => ∃ b, decide (x = .non) = b ∧ Q (.bl b) H1) : tIsN ta σ H Q := by
  have e : (fun (x : V) (H1 : Hp) => ∃ b, decide (x = .non) = b ∧ Q (.bl b) H1) = fun x H1 => Q (.bl (decide (x = .non))) H1 := funext fun x => funext fun H1 => propext ⟨fun ⟨b, e, q⟩ => by rw [e]; exact q, fun q => ⟨_, rfl, q⟩⟩
  rw [e] at h
  exact h
theorem x_notN' (h : ta σ H fun x H1 => ∃ b, (!decide (x = .non)) = b ∧ Q (.bl b) H1) : tNotN ta σ H Q := by
  have e : (fun (x : V) (H1 : Hp) => ∃ b, (!decide (x = .non)) = b ∧ Q (.bl b) H1) = fun x H1 => Q (.bl (!decide (x = .non))) H1 := funext fun x => funext fun H1 => propext ⟨fun ⟨b, e, q⟩ => by rw [e]; exact q, fun q => ⟨_, rfl, q⟩⟩
  rw [e] at h
  exact h
theorem x_rng1 {R : It → Hp → Prop} (h : tA σ H fun vs H1 => ∃ j : Int, vs = [.int j] ∧ -(2 ^ 62) ≤ j ∧ j < 2 ^ 62 ∧ R (Itr 0 j.toNat) H1) : iRng1 tA σ H R := h
theorem x_rng2 {R : It → Hp → Prop} (h : tA σ H fun vs H1 => ∃ i j : Int, vs = [.int i, .int j] ∧ (-(2 ^ 62) ≤ i ∧ i < 2 ^ 62 ∧ -(2 ^ 62) ≤ j ∧ j < 2 ^ 62) ∧ R (Itr i (j - i).toNat) H1) : iRng2 tA σ H R := h
theorem x_rng3 {R : It → Hp → Prop} (h : tA σ H fun vs H1 => ∃ (i j c : Int) (n : Nat), vs = [.int i, .int j, .int c] ∧ RgC i j c n ∧ R (Itc i c n) H1) : iRng3 tA σ H R := h
theorem x_iter {R : It → Hp → Prop} (h : te σ H fun x H1 => ∃ a, x = .ref a ∧ (∃ xs, SqL K H1 a xs) ∧ R (Itl K a) H1) : iList K te σ H R := h
theorem x_for {wi : TI} (h : wi σ H fun J H1 => ∃ W : Nat → Nat → L2.St → Hp → Prop, (∃ m, W 0 m σ H1) ∧ ∀ i m σ H, W i m σ H →
  (J.stop i H ∧ D.nx σ H) ∨ (J.go i H ∧ ∃ N : L2.St → Hp → Prop, (∀ σ' H', N σ' H' → ∃ m', m' < m ∧ W (i + 1) m' σ' H') ∧ ∀ x H', J.yld i H x H' → g x σ H' fun σ2 H2 => t { D with nx := N, ct := N, bk := D.nx } σ2 H2)) : tFor wi g t D σ H := h
theorem x_lc {wi : TI} {vs : List Nat} (h : wi σ H fun J H1 => ∀ Dl, H1 Dl = none → ∃ W : Nat → Nat → Hp → Prop, (∃ m, W 0 m (upd H1 Dl (.lst []))) ∧ ∀ i m H, W i m H → J.stop i H ∧ Q (.ref Dl) H ∨ J.go i H ∧ ∃ Nx : Hp → Prop, (∀ (H' : Hp), Nx H' → ∃ m', m' < m ∧ W (i + 1) m' H') ∧ ∀ (x : V) (H' : Hp), J.yld i H x H' →
        g x (wipe σ vs) H' fun σ2 H2 => wipe σ2 vs = wipe σ vs ∧ tt σ2 H2 fun b H3 => if b = true then te σ2 H3 fun y H4 => ∃ acc, H4 Dl = some (HO.lst acc) ∧ acc.length < sizeLine ∧ Nx (upd H4 Dl (HO.lst (acc ++ [y]))) else Nx H3) : tLc wi g tt te vs σ H Q := h
end

/-! #### order and sorted, of data of one type -/
class SO (α : Type) [TD α] where
  alike : ∀ x y : α, PySem.W.alike (TD.d x) (TD.d y) = true
  nn : ∀ x : α, TD.d x ≠ .none
  kind : (∀ x : α, ∃ y r, TD.d x = .tuple (y :: r)) ∨ ∀ (x : α) xs, TD.d x ≠ .tuple xs
instance : SO Int := ⟨fun _ _ => by simp [TD.d, PySem.W.alike], (fun _ h => nomatch h), .inr fun _ _ h => nomatch h⟩
theorem alikeAll_of {α : Type} [TD α] [SO α] : ∀ xs ys : List α, PySem.W.alikeAll (xs.map TD.d) (ys.map TD.d) = true
  | [], _ => by simp [PySem.W.alikeAll]
  | _ :: _, [] => by simp [PySem.W.alikeAll]
  | x :: xs, y :: ys => by
    rw [List.map_cons, List.map_cons, PySem.W.alikeAll, alikeAll_of xs ys, SO.alike]; rfl
instance {α : Type} [TD α] [SO α] : SO (List α) := ⟨fun xs ys => by
  show PySem.W.alike (.list _) (.list _) = true
  rw [PySem.W.alike]; exact alikeAll_of xs ys, (fun _ h => nomatch h), .inr fun _ _ h => nomatch h⟩
instance {α β : Type} [TD α] [SO α] [TD β] [SO β] : SO (α × β) := ⟨fun p q => by
  show PySem.W.alike (.tuple [_, _]) (.tuple [_, _]) = true
  simp [PySem.W.alike, PySem.W.alikeAll, SO.alike], (fun _ h => nomatch h), .inl fun p => ⟨_, _, rfl⟩⟩
def ltT {α : Type} [TD α] (x y : α) : Bool := PySem.W.dataLt (TD.d x) (TD.d y)
def sortT {α : Type} [TD α] (xs : List α) : List α := xs.mergeSort (PySem.W.dataLe false TD.d)
theorem sortT_len {α : Type} [TD α] (xs : List α) : (sortT xs).length = xs.length := List.length_mergeSort _
def rGeT (α : Type) [TD α] : R2 := fun x y H Q => ∃ (F : Hp) (a b : α), Sub F H ∧ R F x a ∧ R F y b ∧ Q (.bl (!ltT a b)) H
def rLeT' (α : Type) [TD α] : R2 := fun x y H Q => ∃ (F : Hp) (a b : α), Sub F H ∧ R F x a ∧ R F y b ∧ Q (.bl (!ltT b a)) H
def rLtT' (α : Type) [TD α] : R2 := fun x y H Q => ∃ (F : Hp) (a b : α), Sub F H ∧ R F x a ∧ R F y b ∧ Q (.bl (ltT a b)) H
def rGtT (α : Type) [TD α] : R2 := fun x y H Q => ∃ (F : Hp) (a b : α), Sub F H ∧ R F x a ∧ R F y b ∧ Q (.bl (ltT b a)) H
section
variable {X : Cx} {α : Type} [TD α] [TB α] [SO α]
theorem op_geT' (hd : TB.dep α ≤ 60) (hu : X.A.units + 64 < cLine) : OpR X (compareOp .GtE) (rGeT α) := by
  intro pins s σ H x y v u Q I rx ry h
  obtain ⟨F, a, b, sb, ha, hb, q⟩ := h
  obtain ⟨as, r1⟩ := Dp.reads I _ x v (ha.dpL (K := X.K) sb (TB.lay a)) rx
  obtain ⟨bs, r2⟩ := Dp.reads I _ y u (hb.dpL (K := X.K) sb (TB.lay b)) ry
  have h1 := TB.dle a
  exact PySem.W.ge_data r1 r2 (SO.alike a b) (SO.nn a) (by omega) ⟨.bl _, H, I, rfl, q⟩
theorem op_leT' (hd : TB.dep α ≤ 60) (hu : X.A.units + 64 < cLine) : OpR X (compareOp .LtE) (rLeT' α) := by
  intro pins s σ H x y v u Q I rx ry h
  obtain ⟨F, a, b, sb, ha, hb, q⟩ := h
  obtain ⟨as, r1⟩ := Dp.reads I _ x v (ha.dpL (K := X.K) sb (TB.lay a)) rx
  obtain ⟨bs, r2⟩ := Dp.reads I _ y u (hb.dpL (K := X.K) sb (TB.lay b)) ry
  have h1 := TB.dle a
  exact PySem.W.le_data r1 r2 (SO.alike a b) (SO.nn a) (by omega) ⟨.bl _, H, I, rfl, q⟩
theorem op_ltT' (hd : TB.dep α ≤ 60) (hu : X.A.units + 64 < cLine) : OpR X (compareOp .Lt) (rLtT' α) := by
  intro pins s σ H x y v u Q I rx ry h
  obtain ⟨F, a, b, sb, ha, hb, q⟩ := h
  obtain ⟨as, r1⟩ := Dp.reads I _ x v (ha.dpL (K := X.K) sb (TB.lay a)) rx
  obtain ⟨bs, r2⟩ := Dp.reads I _ y u (hb.dpL (K := X.K) sb (TB.lay b)) ry
  have h1 := TB.dle a
  exact PySem.W.lt_data r1 r2 (SO.alike a b) (SO.nn a) (by omega) ⟨.bl _, H, I, rfl, q⟩
theorem op_gtT' (hd : TB.dep α ≤ 60) (hu : X.A.units + 64 < cLine) : OpR X (compareOp .Gt) (rGtT α) := by
  intro pins s σ H x y v u Q I rx ry h
  obtain ⟨F, a, b, sb, ha, hb, q⟩ := h
  obtain ⟨as, r1⟩ := Dp.reads I _ x v (ha.dpL (K := X.K) sb (TB.lay a)) rx
  obtain ⟨bs, r2⟩ := Dp.reads I _ y u (hb.dpL (K := X.K) sb (TB.lay b)) ry
  have h1 := TB.dle a
  exact PySem.W.gt_data r1 r2 (SO.alike a b) (SO.nn a) (by omega) ⟨.bl _, H, I, rfl, q⟩
/-- the values stand for the items -/
theorem each_of {F : Hp} : ∀ {us : List V} {vs : List Value} {xs : List α}, Vals us vs → Rs F us xs → PySem.W.EachIs (fun v x => ∃ u, RelV u v ∧ R F u x) vs xs
  | _, _, [], r, q => by
    cases q
    cases r; exact .nil
  | _, _, x :: xs, r, q => by
    cases q with
    | cons h1 h2 => cases r with | cons r1 r2 => exact .cons ⟨_, r1, h1⟩ (each_of r2 h2)
theorem of_each {F : Hp} : ∀ {vs : List Value} {xs : List α}, PySem.W.EachIs (fun v x => ∃ u, RelV u v ∧ R F u x) vs xs → ∃ us, Vals us vs ∧ Rs F us xs
  | _, _, .nil => ⟨[], .nil, .nil⟩
  | _, _, .cons ⟨u, h1, h2⟩ t => by
    obtain ⟨us, a, b⟩ := of_each t
    exact ⟨u :: us, .cons h1 a, .cons h2 b⟩
def rSortedT (α : Type) [TD α] : List V → Hp → VK → Prop := fun vs H Q => ∃ (a : Addr) (us : List V) (F : Hp) (xs : List α), vs = [.ref a] ∧ H a = some (.lst us) ∧ Sub F H ∧ Rs F us xs ∧ xs.length ≤ 16777216 ∧
  ∀ p ws, H p = none → Rs F ws (sortT xs) → Q (.ref p) (upd H p (.lst ws))
theorem call_sortedT (hd : TB.dep α ≤ 60) (hu : X.A.units + 200 < cLine) : CallR X (.builtin "sorted") (rSortedT α) := by
  intro pins s σ H vs us0 Q I r h
  obtain ⟨a, us, F, xs, rfl, ha, sb, hr, hl, q⟩ := h
  have hS : SqL X.K H a us := .inl (.inl ha)
  obtain ⟨its, rv, hli, _⟩ := I.list hS
  rw [Vals.ref1 r]
  have e1 := each_of rv hr
  have reads : PySem.W.EachIs (fun v x => ∃ as, Reads s.heap v (TD.d x) as) its xs := e1.mono fun v x ⟨u, r1, r2⟩ => Dp.reads I _ u v (r2.dpL (K := X.K) sb (TB.lay x)) r1
  refine PySem.W.sorted_data (enc := TD.d) (R := fun v x => ∃ u, RelV u v ∧ R F u x) hli.isList e1 reads (PySem.W.AllAlike.of SO.alike) ?_ (by rw [sizeLine_eq]; exact hl) (fun x _ => ?_) fun out hlen eo => ?_
  · rcases SO.kind (α := α) with k | k
    · exact PySem.W.Sortable.tuples k
    · exact PySem.W.Sortable.others fun x => ⟨SO.nn x, k x⟩
  · have h1 := TB.dle x
    omega
  · obtain ⟨ws, w1, w2⟩ := of_each eo
    obtain ⟨ep, he'⟩ := PyProof.Rows.sortedAll_at s.heap its out.toArray
    have hz : ws.length ≤ sizeLine := by rw [Rs_len w2, sizeLine_eq]; show (sortT xs).length ≤ _; rw [sortT_len]; exact hl
    exact ⟨.ref _, upd H (s.heap.objs.size + 1) (.lst ws), I.laid (t' := s.toks) (fun _ _ => PyProof.Rows.sortedAll_old) (Nat.le_succ _) ⟨hz, out, ep, w1, he'⟩, rfl, q _ ws (I.hok.fresh (Nat.le_succ _)) w2⟩
end
theorem hu200 {A : Around} {k : Nat} (hr : Room (k + 1) A) : A.units + 200 < cLine := by have := hr.un; omega
theorem hu200' {A : Around} {k : Nat} (hr : Room k A) : A.units + 200 < cLine := by have := hr.un; omega

/-! #### readings at a K that is written -/
section
variable {X : Cx}
def rLenT (K : PySem.W.Frag) : List V → Hp → VK → Prop := fun xs H Q => ∃ p ys, xs = [V.ref p] ∧ (SqL K H p ys ∨ SqT K H p ys) ∧ Q (.int ys.length) H
theorem call_lenT : CallR X (.builtin "len") (rLenT X.K) := call_len_seq
def rListT (K : PySem.W.Frag) : List V → Hp → VK → Prop := fun xs H Q => ∃ p ys, xs = [V.ref p] ∧ (SqL K H p ys ∨ SqT K H p ys) ∧ ∀ l, H l = none → Q (.ref l) (upd H l (.lst ys))
theorem call_listT : CallR X (.type "list") (rListT X.K) := call_list_of
end

/-! #### simple expressions by a term -/
theorem gr_ex {F H H2 : Hp} (s : Sub F H) (e : Evl.Ex H H2) : Gr NA F H F H2 :=
  ⟨fun a o _ h => e a o h, fun a h => by
    cases q : H a with
    | none => exact absurd q h
    | some o => rw [e a o q]; exact (fun z => nomatch z), Sub.refl F, s.trans e, fun _ _ f => f⟩
theorem useEv {te : TE} {σ : L2.St} {H : Hp} {Q : VK} (v : V) (h : Evl.Ev te σ H v) (k : ∀ H2, Evl.Ex H H2 → Q v H2) : te σ H Q := h H (Evl.Ex.refl H) Q k
theorem useT {tt : TT} {σ : L2.St} {H : Hp} {Q : Bool → Hp → Prop} (b : Bool) (h : Evl.EvT tt σ H b) (k : ∀ H2, Evl.Ex H H2 → Q b H2) : tt σ H Q := h H (Evl.Ex.refl H) Q k
section
variable {K : PySem.W.Frag} {σ : L2.St} {H F : Hp} {ta tb : TE} {α : Type} [TD α]
theorem ev_cmp {p : Int → Int → Bool} {i j : Int} (ha : Evl.Ev ta σ H (.int i)) (hb : Evl.Ev tb σ H (.int j)) : Evl.Ev (tCmp p ta tb) σ H (.bl (p i j)) := fun H1 e Q q =>
  ha H1 e _ fun H2 e2 => hb H2 (e.trans e2) _ fun H3 e3 => ⟨i, j, rfl, rfl, q H3 (e2.trans e3)⟩
theorem isN_opt [NN α] {v : V} {o : Option α} (h : R F v o) : decide (v = .non) = o.isNone := by
  cases o with
  | none => cases (show RD F v .none from h); rfl
  | some x =>
    have h' : RD F v (TD.d x) := h
    have hn : v ≠ .non := fun e => by
      subst e
      generalize hd : TD.d x = d at h'
      cases h'
      exact (NN.nn x).2 hd
    rw [decide_eq_false hn]; rfl
theorem ev_isN [NN α] {v : V} {o : Option α} (ha : Evl.Ev ta σ H v) (h : R F v o) : Evl.Ev (tIsN ta) σ H (.bl o.isNone) := fun H1 e Q q =>
  ha H1 e _ fun H2 e2 => by
    show Q (.bl (decide (v = .non))) H2
    rw [isN_opt h]; exact q H2 e2
theorem ev_notN [NN α] {v : V} {o : Option α} (ha : Evl.Ev ta σ H v) (h : R F v o) : Evl.Ev (tNotN ta) σ H (.bl (!o.isNone)) := fun H1 e Q q =>
  ha H1 e _ fun H2 e2 => by
    show Q (.bl (!decide (v = .non))) H2
    rw [isN_opt h]; exact q H2 e2
theorem ev_eqVar [TE' α] {v w : V} {x y : α} (ha : Evl.Ev ta σ H v) (hb : Evl.Ev tb σ H w) (hx : R H v x) (hy : R H w y) : Evl.Ev (tOp (rEqT α) ta tb) σ H (.bl (eqT x y)) := fun H1 e Q q =>
  ha H1 e _ fun H2 e2 => hb H2 (e.trans e2) _ fun H3 e3 => ⟨H3, x, y, Sub.refl _, hx.mono ((e.trans e2).trans e3), hy.mono ((e.trans e2).trans e3), q H3 (e2.trans e3)⟩
theorem ev_neqVar [TE' α] {v w : V} {x y : α} (ha : Evl.Ev ta σ H v) (hb : Evl.Ev tb σ H w) (hx : R H v x) (hy : R H w y) : Evl.Ev (tOp (rNeT α) ta tb) σ H (.bl (!eqT x y)) := fun H1 e Q q =>
  ha H1 e _ fun H2 e2 => hb H2 (e.trans e2) _ fun H3 e3 => ⟨H3, x, y, Sub.refl _, hx.mono ((e.trans e2).trans e3), hy.mono ((e.trans e2).trans e3), q H3 (e2.trans e3)⟩
theorem ev_eqNil [TE' α] {v : V} {x : List α} (ha : Evl.Ev ta σ H v) (hx : R H v x) : Evl.Ev (tOp (rEqT (List α)) ta (tLst tNil)) σ H (.bl (eqT x [])) := fun H1 e Q q =>
  ha H1 e _ fun H2 e2 => ⟨Nat.zero_le _, fun p hp => ⟨_, x, [], Sub.refl _, hx.mono ((e.trans e2).trans (Evl.Ex.new hp)), mk_lst upd_same Rs_nil, q _ (e2.trans (Evl.Ex.new hp))⟩⟩
theorem ev_neqNil [TE' α] {v : V} {x : List α} (ha : Evl.Ev ta σ H v) (hx : R H v x) : Evl.Ev (tOp (rNeT (List α)) ta (tLst tNil)) σ H (.bl (!eqT x [])) := fun H1 e Q q =>
  ha H1 e _ fun H2 e2 => ⟨Nat.zero_le _, fun p hp => ⟨_, x, [], Sub.refl _, hx.mono ((e.trans e2).trans (Evl.Ex.new hp)), mk_lst upd_same Rs_nil, q _ (e2.trans (Evl.Ex.new hp))⟩⟩
theorem ev_lenT {a : Addr} {us : List V} {xs : List α} (ha : Evl.Ev ta σ H (.ref a)) (h : H a = some (.lst us)) (r : Rs F us xs) :
    Evl.Ev (tCB (rLenT K) (tCons ta tNil)) σ H (.int (xs.length : Int)) := fun H1 e Q q =>
  ha H1 e _ fun H2 e2 => ⟨a, us, rfl, .inl (.inl (.inl (e2 _ _ (e _ _ h)))), by rw [Rs_len r]; exact q H2 e2⟩
end
section
variable {A : Addr → Prop} {F0 H0 F H N H' : Hp} {p : Addr} {o : HO} {us : List V}
theorem Ow.frzo {q : Addr} {ws : List V} (w : Ow H0 F H p us) (h : p ≠ q) (x : Ow H0 F H q ws) : Ow H0 (upd F q (.lst ws)) H p us := ⟨w.at_, by rw [upd_ne h]; exact w.nf, w.n0⟩
end
/-! #### slices, stores -/
def cutT {α : Type} (xs : List α) (lo hi : Option Int) : List α := (xs.drop (HT.sIx xs.length 0 lo)).take (HT.sIx xs.length xs.length hi - HT.sIx xs.length 0 lo)
section
variable {F : Hp} {α : Type} [TD α] {us : List V} {xs : List α}
theorem Rs_take (n : Nat) (r : Rs F us xs) : Rs F (us.take n) (xs.take n) := by unfold Rs; rw [List.map_take]; exact r.take n
theorem Rs_drop (n : Nat) (r : Rs F us xs) : Rs F (us.drop n) (xs.drop n) := by unfold Rs; rw [List.map_drop]; exact r.drop n
theorem Rs_cut {lo hi : Option Int} (r : Rs F us xs) : Rs F (cutV us lo hi) (cutT xs lo hi) := by
  unfold cutV cutT; rw [Rs_len r]; exact Rs_take _ (Rs_drop _ r)
theorem Rs_set {u : V} {x : α} {j : Nat} (r : Rs F us xs) (h : R F u x) : Rs F (us.set j u) (xs.set j x) := by unfold Rs; rw [List.map_set]; exact r.set j h
theorem Rs_ins {u : V} {x : α} {n : Nat} (r : Rs F us xs) (h : R F u x) : Rs F (us.take n ++ [u] ++ us.drop n) (xs.take n ++ [x] ++ xs.drop n) := Rs_app (Rs_app (Rs_take n r) (Rs_cons h Rs_nil)) (Rs_drop n r)
theorem Rs_rep (r : Rs F us xs) : ∀ {n : Nat}, Rs F (List.replicate n us).flatten (List.replicate n xs).flatten
  | 0 => .nil
  | n + 1 => by rw [List.replicate_succ, List.replicate_succ, List.flatten_cons, List.flatten_cons]; exact Rs_app r (Rs_rep r)
end
def Rg1 (j : Int) : Prop := -(2 ^ 62) ≤ j ∧ j < 2 ^ 62
instance (j : Int) : Decidable (Rg1 j) := inferInstanceAs (Decidable (_ ∧ _))
theorem Rg1.lo {j : Int} (h : Rg1 j) : -(2 ^ 62) ≤ j := h.1
theorem Rg1.hi {j : Int} (h : Rg1 j) : j < 2 ^ 62 := h.2
def Rg2 (i j : Int) : Prop := -(2 ^ 62) ≤ i ∧ i < 2 ^ 62 ∧ -(2 ^ 62) ≤ j ∧ j < 2 ^ 62
instance (i j : Int) : Decidable (Rg2 i j) := inferInstanceAs (Decidable (_ ∧ _))
theorem Rg2.ok {i j : Int} (h : Rg2 i j) : -(2 ^ 62) ≤ i ∧ i < 2 ^ 62 ∧ -(2 ^ 62) ≤ j ∧ j < 2 ^ 62 := h
def InsOk (n : Nat) (i : Int) : Prop := n < 16777216 ∧ 0 ≤ i ∧ i < 2 ^ 63
instance (n : Nat) (i : Int) : Decidable (InsOk n i) := inferInstanceAs (Decidable (_ ∧ _))
theorem InsOk.a {n : Nat} {i : Int} (h : InsOk n i) : n < 16777216 := h.1
theorem InsOk.b {n : Nat} {i : Int} (h : InsOk n i) : 0 ≤ i := h.2.1
theorem InsOk.c {n : Nat} {i : Int} (h : InsOk n i) : i < 2 ^ 63 := h.2.2
def Rv (n : Nat) (k : Int) : Prop := (-(2 ^ 63) ≤ k ∧ k < 2 ^ 63) ∧ n * k.toNat ≤ 16777216
instance (n : Nat) (k : Int) : Decidable (Rv n k) := inferInstanceAs (Decidable (_ ∧ _))
theorem Rv.lo {n : Nat} {k : Int} (h : Rv n k) : -(2 ^ 63) ≤ k := h.1.1
theorem Rv.hi {n : Nat} {k : Int} (h : Rv n k) : k < 2 ^ 63 := h.1.2
theorem Rv.sz {n : Nat} {k : Int} (h : Rv n k) : n * k.toNat ≤ 16777216 := h.2
theorem no_none {P : Prop} {α : Type} {r : α} (h : none = some r) : P := nomatch h
theorem ret_true {b : Bool} {Q : VK} {H : Hp} (hm : some b = some true) (q : ∀ H', Q (.bl true) H') : Q (.bl b) H := by cases hm; exact q H
theorem pairp {α β : Type} {a c : α} {b d : β} (h : some (a, b) = some (c, d)) : a = c ∧ b = d := by cases h; exact ⟨rfl, rfl⟩

/-! #### a fresh answer is ours -/
def Fz (H : Hp) (v : V) : Prop := ∀ a, v = .ref a → H a = none
theorem own_of {A B : Addr → Prop} {α : Type} [TD α] {F0 H0 F H N H2 : Hp} {a : Addr} {us : List V} {xs : List α} (G : Gr A F0 H0 F H) (g : Gr B F H N H2) (z : H a = none) (h : N a = some (.lst us)) : Ow H0 F H2 a us :=
  ⟨g.sub _ _ h, G.sub.none z, G.fresh z⟩
theorem Rs_flatI {N F : Hp} {us : List V} {xs : List Int} (r : Rs N us xs) : Rs F us xs := by rw [Rs_int r]; exact int_Rs xs
theorem Rs_flatB {N F : Hp} : ∀ {us : List V} {xs : List Bool}, Rs N us xs → Rs F us xs
  | _, [], r => by cases r; exact .nil
  | _, x :: xs, r => by cases r with | cons h r => cases h; exact .cons (.bl _) (Rs_flatB r)

/-! #### a fresh answer with a list within -/
def NestFz (H N : Hp) (v : V) : Prop := ∀ t b p, v = .ref t → N t = some (.tup [b, .ref p]) → H p = none
def eraseP (N : Hp) (p : Addr) : Hp := fun a => if a = p then none else N a
theorem eraseP_ne {N : Hp} {p a : Addr} (h : a ≠ p) : eraseP N p a = N a := if_neg h
theorem eraseP_same {N : Hp} {p : Addr} : eraseP N p p = none := if_pos rfl
theorem Gr.eraseP {A : Addr → Prop} {F H N H2 : Hp} {p : Addr} (g : Gr A F H N H2) (s : Sub F H) (z : H p = none) : Gr A F H (eraseP N p) H2 :=
  ⟨g.keep, g.there, fun a o e => by
    have : a ≠ p := fun q => by rw [q, s.none z] at e; exact nomatch e
    rw [eraseP_ne this]; exact g.ex a o e, fun a o e => by
    by_cases q : a = p
    · rw [q, eraseP_same] at e; exact nomatch e
    · rw [eraseP_ne q] at e; exact g.sub a o e, fun a h f => by
    by_cases q : a = p
    · rw [q]; exact eraseP_same
    · rw [eraseP_ne q]; exact g.own a h f⟩
theorem own_ofN {A B : Addr → Prop} {F0 H0 F H N H2 : Hp} {a : Addr} {us : List V} (G : Gr A F0 H0 F H) (g : Gr B F H N H2) (z : H a = none) (h : N a = some (.lst us)) : Ow H0 (eraseP N a) H2 a us :=
  ⟨g.sub _ _ h, eraseP_same, G.fresh z⟩
theorem eraseP_tup {N : Hp} {p t : Addr} {us xs : List V} (h : N t = some (.tup xs)) (k : N p = some (.lst us)) : eraseP N p t = some (.tup xs) := by
  rw [eraseP_ne (fun q => by rw [q, k] at h; exact nomatch h)]; exact h
theorem Rs_eraseP {N : Hp} {p : Addr} {us : List V} {xs : List (List Int)} (k : N p = some (.lst us)) (r : Rs N us xs) : Rs (eraseP N p) us xs := by
  have one : ∀ (u : V) (x : List Int), u ∈ us → R N u x → R (eraseP N p) u x := by
    intro u x hu h
    obtain ⟨a, ws, rfl, fa, fr⟩ := lst_of h
    have e := Rs_int fr
    have hne : a ≠ p := fun q => by
      rw [q, k] at fa
      have fa : us = ws := by cases fa; rfl
      rw [fa, e] at hu
      obtain ⟨i, _, hi⟩ := List.mem_map.mp hu
      exact nomatch hi
    exact mk_lst (by rw [eraseP_ne hne]; exact fa) (Rs_flatI fr)
  have all : ∀ (vs : List V) (ys : List (List Int)), (∀ u ∈ vs, u ∈ us) → Rs N vs ys → Rs (eraseP N p) vs ys := by
    intro vs ys
    induction ys generalizing vs with
    | nil => intro _ r; cases r; exact .nil
    | cons y ys ih =>
      intro hs r
      cases r with
      | cons h r => exact Rs_cons (one _ _ (hs _ List.mem_cons_self) h) (ih _ (fun u hu => hs u (List.mem_cons_of_mem _ hu)) r)
  exact all us xs (fun u h => h) r
def PopOk (n : Nat) (i : Int) : Prop := 0 ≤ i ∧ i < n ∧ i < 2 ^ 63
instance (n : Nat) (i : Int) : Decidable (PopOk n i) := inferInstanceAs (Decidable (_ ∧ _))
theorem PopOk.ix {n : Nat} {i : Int} (h : PopOk n i) : seqIndex? i n = some i.toNat := by
  obtain ⟨h0, h1, _⟩ := h
  unfold seqIndex?
  simp [h0, h1] <;> omega
theorem PopOk.get {i : Int} {us : List V} (h : PopOk us.length i) : ∃ y, us[i.toNat]? = some y := ⟨_, List.getElem?_eq_getElem (by have := h.1; have := h.2.1; omega)⟩
theorem PopOk.lo {n : Nat} {i : Int} (h : PopOk n i) : -(2 ^ 63) ≤ i := by have := h.1; omega
theorem Rs_popAt {α : Type} [TD α] {F : Hp} {us : List V} {xs : List α} (r : Rs F us xs) {k : Nat} : Rs F (us.eraseIdx k) (xs.eraseIdx k) := by
  rw [List.eraseIdx_eq_take_drop_succ, List.eraseIdx_eq_take_drop_succ]
  exact Rs_app (Rs_take _ r) (Rs_drop _ r)

/-! #### the deck of the laws' draws -/
abbrev DkS := List (Int × Int × Int) × Int
def Deck (A : Addr → Prop) (H : Hp) (dk : Addr) (st : DkS) : Prop := ∃ (P : Addr) (pas : List Addr), H dk = some (.lst [.ref P, .int st.2]) ∧ H P = some (.lst (pas.map V.ref)) ∧
  Paired (fun pa (p : Int × Int × Int) => H pa = some (.lst [.int p.1, .int p.2.1, .int p.2.2])) pas st.1 ∧ (∀ a, A a ↔ a = dk ∨ a = P ∨ a ∈ pas) ∧ dk ≠ P ∧ dk ∉ pas ∧ P ∉ pas ∧ pas.Nodup
theorem paired_mono {α β : Type} {F G : α → β → Prop} {l : List α} {m : List β} (p : Paired F l m) (f : ∀ a b, a ∈ l → F a b → G a b) : Paired G l m := by
  induction p with
  | nil => exact .nil
  | cons h _ ih => exact .cons (f _ _ List.mem_cons_self h) (ih fun a b ha => f a b (List.mem_cons_of_mem _ ha))
theorem Deck.keep {A : Addr → Prop} {H H' : Hp} {dk : Addr} {st : DkS} (d : Deck A H dk st) (k : ∀ a o, A a → H a = some o → H' a = some o) : Deck A H' dk st := by
  obtain ⟨P, pas, h1, h2, h3, hA, r⟩ := d
  exact ⟨P, pas, k _ _ ((hA _).mpr (.inl rfl)) h1, k _ _ ((hA _).mpr (.inr (.inl rfl))) h2, paired_mono h3 fun a b ha h => k _ _ ((hA _).mpr (.inr (.inr ha))) h, hA, r⟩
theorem paired_left {α β : Type} {F : α → β → Prop} : ∀ {l : List α} {m : List β} {a : α}, Paired F l m → a ∈ l → ∃ b, F a b
  | _, _, _, .nil, h => nomatch h
  | _, _, a, .cons (a := x) h t, hm => by
    rcases List.mem_cons.mp hm with e | e
    · subst e; exact ⟨_, h⟩
    · exact paired_left t e
theorem Deck.there {A : Addr → Prop} {H : Hp} {dk a : Addr} {st : DkS} (d : Deck A H dk st) (h : A a) : H a ≠ none := by
  obtain ⟨P, pas, h1, h2, h3, hA, r⟩ := d
  rcases (hA a).mp h with e | e | e
  · subst e; rw [h1]; exact (fun z => nomatch z)
  · subst e; rw [h2]; exact (fun z => nomatch z)
  · obtain ⟨p, hp⟩ := paired_left h3 e
    rw [hp]; exact (fun z => nomatch z)
structure DkAt (A : Addr → Prop) (H0 F H : Hp) (dk : Addr) (st : DkS) : Prop where
  at_ : Deck A H dk st
  nf : ∀ a, A a → F a = none
  n0 : ∀ a, A a → H0 a ≠ none
section
variable {A : Addr → Prop} {F0 H0 F H N H' : Hp} {p dk : Addr} {o : HO} {us : List V} {st st2 : DkS}
theorem DkAt.mk0 (h : Deck A H dk st) (f : ∀ a, A a → F a = none) : DkAt A H F H dk st := ⟨h, f, fun _ => h.there⟩
theorem DkAt.step (d : DkAt A H0 F H dk st) (g : Gr NA F H N H') : DkAt A H0 N H' dk st := ⟨d.at_.keep fun a o _ h => g.keep a o id h, fun a h => g.own a (d.at_.there h) (d.nf a h), d.n0⟩
theorem DkAt.stepA (d : DkAt A H0 F H dk st) (g : Gr A F H N H') (x : Deck A H' dk st2) : DkAt A H0 N H' dk st2 := ⟨x, fun a h => g.own a (d.at_.there h) (d.nf a h), d.n0⟩
theorem DkAt.out (d : DkAt A H0 F H dk st) (w : Ow H0 F H p us) : ¬ A p := fun h => d.n0 p h w.n0
theorem DkAt.mut {ws : List V} (d : DkAt A H0 F H dk st) (w : Ow H0 F H p us) : DkAt A H0 F (upd H p (.lst ws)) dk st :=
  ⟨d.at_.keep fun a o h e => by rw [upd_ne (show a ≠ p from fun z => d.out w (by rw [← z]; exact h))]; exact e, d.nf, d.n0⟩
theorem DkAt.frz (d : DkAt A H0 F H dk st) (w : Ow H0 F H p us) : DkAt A H0 (upd F p (.lst us)) H dk st :=
  ⟨d.at_, fun a h => by rw [upd_ne (show a ≠ p from fun z => d.out w (by rw [← z]; exact h))]; exact d.nf a h, d.n0⟩
theorem Ow.stepA (w : Ow H0 F H p us) (g : Gr A F H N H') (h : ¬ A p) : Ow H0 N H' p us := ⟨g.keep p _ h w.at_, g.own p (by rw [w.at_]; exact (fun z => nomatch z)) w.nf, w.n0⟩
theorem Gr.mutA (G : Gr A F0 H0 F H) (h : A p) (f : F p = none) : Gr A F0 H0 F (upd H p o) :=
  ⟨fun a u na e => by rw [upd_ne (show a ≠ p from fun z => na (by rw [z]; exact h))]; exact G.keep a u na e, fun a e => by
    by_cases z : a = p
    · subst z; rw [upd_same]; exact (fun z => nomatch z)
    · rw [upd_ne z]; exact G.there a e, G.ex, G.sub.mut f, G.own⟩
end
/-! #### a list that is handed in and grown -/
abbrev HdS := List (Option (List Int) × Option (List Int))
def Held {α : Type} [TD α] (A : Addr → Prop) (F H : Hp) (dk : Addr) (st : List α) : Prop := (∃ us, H dk = some (.lst us) ∧ Rs F us st) ∧ F dk = none ∧ ∀ a, A a ↔ a = dk
structure HdAt {α : Type} [TD α] (A : Addr → Prop) (H0 F H : Hp) (dk : Addr) (st : List α) : Prop where
  at_ : ∃ us, H dk = some (.lst us) ∧ Rs F us st
  nf : F dk = none
  n0 : H0 dk ≠ none
  ia : ∀ a, A a ↔ a = dk
section
variable {A : Addr → Prop} {F0 H0 F H N H' : Hp} {p q dk : Addr} {o : HO} {us : List V} {α : Type} [TD α] {st : List α}
theorem HdAt.mk0 (h : Held A F H dk st) : HdAt A H F H dk st := ⟨h.1, h.2.1, by obtain ⟨⟨us, e, _⟩, _⟩ := h; rw [e]; exact (fun z => nomatch z), h.2.2⟩
theorem HdAt.held (h : HdAt A H0 F H dk st) : Held A F H dk st := ⟨h.at_, h.nf, h.ia⟩
theorem HdAt.step (d : HdAt A H0 F H dk st) (g : Gr NA F H N H') : HdAt A H0 N H' dk st := by
  obtain ⟨us, e, r⟩ := d.at_
  exact ⟨⟨us, g.keep dk _ id e, Rs_mono g.ex r⟩, g.own dk (by rw [e]; exact (fun z => nomatch z)) d.nf, d.n0, d.ia⟩
theorem HdAt.out (d : HdAt A H0 F H dk st) (w : Ow H0 F H p us) : p ≠ dk := fun e => d.n0 (by rw [← e]; exact w.n0)
theorem HdAt.mut {ws : List V} (d : HdAt A H0 F H dk st) (w : Ow H0 F H p us) : HdAt A H0 F (upd H p (.lst ws)) dk st := by
  obtain ⟨us, e, r⟩ := d.at_
  exact ⟨⟨us, by rw [upd_ne (d.out w).symm]; exact e, r⟩, d.nf, d.n0, d.ia⟩
theorem HdAt.frz (d : HdAt A H0 F H dk st) (w : Ow H0 F H p us) : HdAt A H0 (upd F p (.lst us)) H dk st := by
  obtain ⟨vs, e, r⟩ := d.at_
  exact ⟨⟨vs, e, Rs_mono w.ex r⟩, by rw [upd_ne (d.out w).symm]; exact d.nf, d.n0, d.ia⟩
theorem HdAt.app {v : V} {x : α} (d : HdAt A H0 F H dk st) (r : Rs F us st) (h : R F v x) : HdAt A H0 F (upd H dk (.lst (us ++ [v]))) dk (st ++ [x]) :=
  ⟨⟨_, upd_same, Rs_snoc r h⟩, d.nf, d.n0, d.ia⟩
theorem Gr.transO (G : Gr A F0 H0 F H) (g : Gr (fun a => a = p) F H N H') (h0 : H0 p = none) : Gr A F0 H0 N H' :=
  ⟨fun a o na e => g.keep a o (fun z => by rw [z, h0] at e; exact nomatch e) (G.keep a o na e), fun a e => g.there a (G.there a e), G.ex.trans g.ex, g.sub, fun a e f => g.own a (G.there a e) (G.own a e f)⟩
theorem DkAt.stepO {st : DkS} (d : DkAt A H0 F H dk st) (g : Gr (fun a => a = p) F H N H') (h0 : H0 p = none) : DkAt A H0 N H' dk st :=
  ⟨d.at_.keep fun a o h e => g.keep a o (fun z => d.n0 a h (by rw [z]; exact h0)) e, fun a h => g.own a (d.at_.there h) (d.nf a h), d.n0⟩
theorem Fz.up {v : V} (G : Gr A F0 H0 F H) (z : Fz H v) : Fz H0 v := fun a e => G.fresh (z a e)
end
theorem nonO_of {α : Type} [TD α] {F : Hp} {v : V} (h : R F v (none : Option α)) : v = .non := by cases (show RD F v .none from h); rfl
def optE {α ρ : Type} (o : Option α) (n : Option ρ) (s : α → Option ρ) : Option ρ := match o with | none => n | some x => s x
theorem optE_cases {α ρ : Type} {o : Option α} {n : Option ρ} {s : α → Option ρ} {z : ρ} (h : optE o n s = some z) : (o = none ∧ n = some z) ∨ ∃ x, o = some x ∧ s x = some z := by
  cases o with
  | none => exact .inl ⟨rfl, h⟩
  | some x => exact .inr ⟨x, rfl, h⟩

/-! #### a deck and a list that is handed in and grown, together -/
def AH (A : Addr → Prop) (h : Addr) : Addr → Prop := fun a => A a ∨ a = h
def HeldQ (A : Addr → Prop) (F H : Hp) (hd : Addr) (st : HdS) : Prop := (∃ us, H hd = some (.lst us) ∧ Rs F us st) ∧ F hd = none ∧ ¬ A hd
/-- the list that was handed in: it is changed in place, and stood ahead -/
structure OwP (A : Addr → Prop) (H0 F H : Hp) (p : Addr) (us : List V) : Prop where
  at_ : H p = some (.lst us)
  nf : F p = none
  n0 : H0 p ≠ none
  na : ¬ A p
section
variable {A : Addr → Prop} {F0 H0 F H N H' : Hp} {p q dk : Addr} {o : HO} {us ws : List V} {st st2 : DkS}
theorem OwP.step (w : OwP A H0 F H p us) (g : Gr NA F H N H') : OwP A H0 N H' p us := ⟨g.keep p _ id w.at_, g.own p (by rw [w.at_]; exact (fun z => nomatch z)) w.nf, w.n0, w.na⟩
theorem OwP.stepA (w : OwP A H0 F H p us) (g : Gr A F H N H') : OwP A H0 N H' p us := ⟨g.keep p _ w.na w.at_, g.own p (by rw [w.at_]; exact (fun z => nomatch z)) w.nf, w.n0, w.na⟩
theorem OwP.mut {xs : List V} (w : OwP A H0 F H p us) : OwP A H0 F (upd H p (.lst xs)) p xs := ⟨upd_same, w.nf, w.n0, w.na⟩
theorem OwP.other {xs : List V} (w : OwP A H0 F H p us) (h : q ≠ p) : OwP A H0 F (upd H q (.lst xs)) p us := ⟨by rw [upd_ne h.symm]; exact w.at_, w.nf, w.n0, w.na⟩
theorem OwP.ne_new (w : OwP A H0 F H p us) (hq : H q = none) : p ≠ q := ne_of_none w.at_ hq
theorem OwP.ne (w : OwP A H0 F H p us) (x : Ow H0 F H q ws) : p ≠ q := fun e => w.n0 (by rw [e]; exact x.n0)
theorem OwP.mutG (w : OwP A H0 F H p us) (G : Gr (AH A p) F0 H0 F H) : Gr (AH A p) F0 H0 F (upd H p o) := G.mutA (.inr rfl) w.nf
theorem OwP.frzo (w : OwP A H0 F H p us) (x : Ow H0 F H q ws) : OwP A H0 (upd F q (.lst ws)) H p us := ⟨w.at_, by rw [upd_ne (w.ne x)]; exact w.nf, w.n0, w.na⟩
theorem OwP.mk0 {hst : HdS} (h : HeldQ A F H p hst) : ∃ us, OwP A H F H p us ∧ Rs F us hst := by
  obtain ⟨⟨us, e, r⟩, nf, na⟩ := h
  exact ⟨us, ⟨e, nf, by rw [e]; exact (fun z => nomatch z), na⟩, r⟩
theorem OwP.held {hst : HdS} (w : OwP A H0 F H p us) (r : Rs F us hst) : HeldQ A F H p hst := ⟨⟨us, w.at_, r⟩, w.nf, w.na⟩
theorem Gr.wid (g : Gr A F H N H') : Gr (AH A p) F H N H' := ⟨fun a o na h => g.keep a o (fun z => na (.inl z)) h, g.there, g.ex, g.sub, g.own⟩
theorem Gr.widR (g : Gr (fun a => a = p) F H N H') : Gr (AH A p) F H N H' := ⟨fun a o na h => g.keep a o (fun z => na (.inr z)) h, g.there, g.ex, g.sub, g.own⟩
theorem Gr.transAH (G : Gr A F0 H0 F H) (g : Gr (AH A p) F H N H') (h0 : H0 p = none) : Gr A F0 H0 N H' :=
  ⟨fun a o na e => g.keep a o (fun z => z.elim na fun z => by rw [z, h0] at e; exact nomatch e) (G.keep a o na e), fun a e => g.there a (G.there a e), G.ex.trans g.ex, g.sub, fun a e f => g.own a (G.there a e) (G.own a e f)⟩
theorem DkAt.mutP {xs : List V} (d : DkAt A H0 F H dk st) (w : OwP A H0 F H p us) : DkAt A H0 F (upd H p (.lst xs)) dk st :=
  ⟨d.at_.keep fun a o h e => by rw [upd_ne (show a ≠ p from fun z => w.na (by rw [← z]; exact h))]; exact e, d.nf, d.n0⟩
theorem DkAt.stepP (d : DkAt A H0 F H dk st) (g : Gr (fun a => a = p) F H N H') (na : ¬ A p) : DkAt A H0 N H' dk st :=
  ⟨d.at_.keep fun a o h e => g.keep a o (fun z => na (by rw [← z]; exact h)) e, fun a h => g.own a (d.at_.there h) (d.nf a h), d.n0⟩
theorem DkAt.stepAH (d : DkAt A H0 F H dk st) (g : Gr (AH A p) F H N H') (x : Deck A H' dk st2) : DkAt A H0 N H' dk st2 := ⟨x, fun a h => g.own a (d.at_.there h) (d.nf a h), d.n0⟩
end
/-! #### sorted, and which values it is of -/
def rSortedM (α : Type) [TD α] : List V → Hp → VK → Prop := fun vs H Q => ∃ (a : Addr) (us : List V) (F : Hp) (xs : List α), vs = [.ref a] ∧ H a = some (.lst us) ∧ Sub F H ∧ Rs F us xs ∧ xs.length ≤ 16777216 ∧
  ∀ p ws, H p = none → Rs F ws (sortT xs) → (∀ w ∈ ws, w ∈ us) → Q (.ref p) (upd H p (.lst ws))

section
variable {X : Cx} {α : Type} [TD α] [TB α] [SO α]
theorem each_ofM {F : Hp} {ms : List V} : ∀ {us : List V} {vs : List Value} {xs : List α}, (∀ u ∈ us, u ∈ ms) → Vals us vs → Rs F us xs → PySem.W.EachIs (fun v x => ∃ u, RelV u v ∧ R F u x ∧ u ∈ ms) vs xs
  | _, _, [], _, r, q => by
    cases q
    cases r; exact .nil
  | _, _, x :: xs, hm, r, q => by
    cases q with
    | cons h1 h2 => cases r with | cons r1 r2 => exact .cons ⟨_, r1, h1, hm _ List.mem_cons_self⟩ (each_ofM (fun u hu => hm u (List.mem_cons_of_mem _ hu)) r2 h2)
theorem of_eachM {F : Hp} {ms : List V} : ∀ {vs : List Value} {xs : List α}, PySem.W.EachIs (fun v x => ∃ u, RelV u v ∧ R F u x ∧ u ∈ ms) vs xs → ∃ us, Vals us vs ∧ Rs F us xs ∧ ∀ u ∈ us, u ∈ ms
  | _, _, .nil => ⟨[], .nil, .nil, fun _ h => absurd h List.not_mem_nil⟩
  | _, _, .cons ⟨u, h1, h2, h3⟩ t => by
    obtain ⟨us, a, b, c⟩ := of_eachM t
    exact ⟨u :: us, .cons h1 a, .cons h2 b, fun w hw => (List.mem_cons.mp hw).elim (fun e => by rw [e]; exact h3) (c w)⟩
theorem call_sortedM (hd : TB.dep α ≤ 60) (hu : X.A.units + 200 < cLine) : CallR X (.builtin "sorted") (rSortedM α) := by
  intro pins s σ H vs us0 Q I r h
  obtain ⟨a, us, F, xs, rfl, ha, sb, hr, hl, q⟩ := h
  have hS : SqL X.K H a us := .inl (.inl ha)
  obtain ⟨its, rv, hli, _⟩ := I.list hS
  rw [Vals.ref1 r]
  have e1 := each_ofM (ms := us) (fun _ h => h) rv hr
  have reads : PySem.W.EachIs (fun v x => ∃ as, Reads s.heap v (TD.d x) as) its xs := e1.mono fun v x ⟨u, r1, r2, _⟩ => Dp.reads I _ u v (r2.dpL (K := X.K) sb (TB.lay x)) r1
  refine PySem.W.sorted_data (enc := TD.d) (R := fun v x => ∃ u, RelV u v ∧ R F u x ∧ u ∈ us) hli.isList e1 reads (PySem.W.AllAlike.of SO.alike) ?_ (by rw [sizeLine_eq]; exact hl) (fun x _ => ?_) fun out hlen eo => ?_
  · rcases SO.kind (α := α) with k | k
    · exact PySem.W.Sortable.tuples k
    · exact PySem.W.Sortable.others fun x => ⟨SO.nn x, k x⟩
  · have h1 := TB.dle x
    omega
  · obtain ⟨ws, w1, w2, w3⟩ := of_eachM eo
    obtain ⟨ep, he'⟩ := PyProof.Rows.sortedAll_at s.heap its out.toArray
    have hz : ws.length ≤ sizeLine := by rw [Rs_len w2, sizeLine_eq]; show (sortT xs).length ≤ _; rw [sortT_len]; exact hl
    exact ⟨.ref _, upd H (s.heap.objs.size + 1) (.lst ws), I.laid (t' := s.toks) (fun _ _ => PyProof.Rows.sortedAll_old) (Nat.le_succ _) ⟨hz, out, ep, w1, he'⟩, rfl, q _ ws (I.hok.fresh (Nat.le_succ _)) w2 w3⟩
end

/-- one draw -/
def mixD (x t many : Int) : Int :=
  let a := (x % 99999999977 + 700001 * t) % 99999999947
  let b := a * a % 99999999821
  let c := b * (b + 19) % 9999999967
  c / 13 % many
def _law_draw (st : DkS) (many : Int) : Option (Int × DkS) :=
  if Dv many then
    (st.1[(st.2 % (st.1.length : Int)).toNat]?).bind fun p =>
      if p.2.1 = 1 ∧ 0 < p.1 then some (p.1 % many, (st.1.set (st.2 % (st.1.length : Int)).toNat (p.1 / many, p.2.1, p.2.2), st.2 + 1))
      else some (mixD p.1 (p.2.2 + 1) many, (st.1.set (st.2 % (st.1.length : Int)).toNat (p.1, p.2.1, p.2.2 + 1), st.2 + 1))
  else none
def poolOf (cells : List Int) (k : Nat) : Int × Int × Int :=
  let cell := cells.getD k 0
  (cell, (if decide ((10 : Int) ^ (18 : Int).toNat ≤ cell) = true then 1 else 0), 31 * (k : Int))
def deckLen (cells : List Int) : Nat := max 1 (min 63 cells.length)
def mkDeck (cells : List Int) : DkS := ((List.range (deckLen cells)).map (poolOf cells), 0)

/-! #### a constant of the module -/
structure CAt (mg : Str → Option Value) (nm : Str) (i : Int) where
  t : Tok
  g : mg nm = some (.int i t)

/-! #### a def of the text, where it stands -/
structure FnAt (K : PySem.W.Frag) (mg : Str → Option Value) (nm : Str) (st : Stmt) (ps : List Str) where
  f : Addr
  fd : FuncData
  F : Fun K nm nm st f fd
  g : mg nm = some (.ref f)
  b : Binds K fd ps []
end My

namespace My
open PySem PySem.Spec PyProof.Rows L2
/-! #### data whose lists are all new -/
mutual
inductive RN (H0 F : Hp) : V → PyData → Prop
  | non : RN H0 F .non .none
  | bl (b : Bool) : RN H0 F (.bl b) (.bool b)
  | int (i : Int) : RN H0 F (.int i) (.int i)
  | str (x : Str) : RN H0 F (.str x) (.str x)
  | lst {a : Addr} {us : List V} {ds : List PyData} : H0 a = none → F a = some (.lst us) → RNs H0 F us ds → RN H0 F (.ref a) (.list ds)
  | tup {a : Addr} {us : List V} {ds : List PyData} : F a = some (.tup us) → RNs H0 F us ds → RN H0 F (.ref a) (.tuple ds)
inductive RNs (H0 F : Hp) : List V → List PyData → Prop
  | nil : RNs H0 F [] []
  | cons {v : V} {us : List V} {d : PyData} {ds : List PyData} : RN H0 F v d → RNs H0 F us ds → RNs H0 F (v :: us) (d :: ds)
end
mutual
theorem RN.rd {H0 F : Hp} : ∀ {d : PyData} {v : V}, RN H0 F v d → RD F v d
  | _, _, .non => .non
  | _, _, .bl b => .bl b
  | _, _, .int i => .int i
  | _, _, .str x => .str x
  | _, _, .lst _ h r => .lst h (RNs.rds r)
  | _, _, .tup h r => .tup h (RNs.rds r)
theorem RNs.rds {H0 F : Hp} : ∀ {ds : List PyData} {us : List V}, RNs H0 F us ds → RDs F us ds
  | _, _, .nil => .nil
  | _, _, .cons h r => .cons (RN.rd h) (RNs.rds r)
end
mutual
theorem RN.mono {H0 F N : Hp} (s : Sub F N) : ∀ {d : PyData} {v : V}, RN H0 F v d → RN H0 N v d
  | _, _, .non => .non
  | _, _, .bl b => .bl b
  | _, _, .int i => .int i
  | _, _, .str x => .str x
  | _, _, .lst n h r => .lst n (s _ _ h) (RNs.mono s r)
  | _, _, .tup h r => .tup (s _ _ h) (RNs.mono s r)
theorem RNs.mono {H0 F N : Hp} (s : Sub F N) : ∀ {ds : List PyData} {us : List V}, RNs H0 F us ds → RNs H0 N us ds
  | _, _, .nil => .nil
  | _, _, .cons h r => .cons (RN.mono s h) (RNs.mono s r)
end
mutual
/-- new ahead of a later heap, new ahead of an earlier one -/
theorem RN.up {H1 H0 F : Hp} (s : ∀ a, H1 a = none → H0 a = none) : ∀ {d : PyData} {v : V}, RN H1 F v d → RN H0 F v d
  | _, _, .non => .non
  | _, _, .bl b => .bl b
  | _, _, .int i => .int i
  | _, _, .str x => .str x
  | _, _, .lst n h r => .lst (s _ n) h (RNs.up s r)
  | _, _, .tup h r => .tup h (RNs.up s r)
theorem RNs.up {H1 H0 F : Hp} (s : ∀ a, H1 a = none → H0 a = none) : ∀ {ds : List PyData} {us : List V}, RNs H1 F us ds → RNs H0 F us ds
  | _, _, .nil => .nil
  | _, _, .cons h r => .cons (RN.up s h) (RNs.up s r)
end
theorem RNs.append {H0 F : Hp} : ∀ {us ws : List V} {ds es : List PyData}, RNs H0 F us ds → RNs H0 F ws es → RNs H0 F (us ++ ws) (ds ++ es)
  | _, _, _, _, .nil, s => s
  | _, _, _, _, .cons h r, s => .cons h (RNs.append r s)
mutual
theorem RN.of {H0 F : Hp} : ∀ {d d' : PyData} {v : V}, RN H0 F v d' → RD F v d → RN H0 F v d
  | _, _, _, .non, r => by cases r; exact .non
  | _, _, _, .bl b, r => by cases r; exact .bl b
  | _, _, _, .int i, r => by cases r; exact .int i
  | _, _, _, .str x, r => by cases r; exact .str x
  | _, _, _, .lst n h q, r => by
    cases r with
    | lst h' q' => rw [h] at h'; cases h'; exact .lst n h (RNs.of q q')
    | tup h' q' => rw [h] at h'; cases h'
    | dic h' q' => rw [h] at h'; cases h'
  | _, _, _, .tup h q, r => by
    cases r with
    | dic h' q' => rw [h] at h'; cases h'
    | lst h' q' => rw [h] at h'; cases h'
    | tup h' q' => rw [h] at h'; cases h'; exact .tup h (RNs.of q q')
theorem RNs.of {H0 F : Hp} : ∀ {ds ds' : List PyData} {us : List V}, RNs H0 F us ds' → RDs F us ds → RNs H0 F us ds
  | _, _, _, .nil, r => by cases r; exact .nil
  | _, _, _, .cons h q, r => by cases r with | cons h' q' => exact .cons (RN.of h h') (RNs.of q q')
end
theorem RNs.mem {H0 F : Hp} : ∀ {us : List V} {ds : List PyData} {u : V}, RNs H0 F us ds → u ∈ us → ∃ d, RN H0 F u d
  | _, _, _, .nil, h => absurd h List.not_mem_nil
  | _, _, u, .cons h r, hm => by
    rcases List.mem_cons.mp hm with e | e
    · subst e; exact ⟨_, h⟩
    · exact RNs.mem r e
theorem RNs.sub {H0 F : Hp} {us : List V} {ds : List PyData} (r : RNs H0 F us ds) : ∀ {ws : List V} {es : List PyData}, (∀ w ∈ ws, w ∈ us) → RDs F ws es → RNs H0 F ws es
  | _, _, _, .nil => .nil
  | _, _, k, .cons h q => by
    obtain ⟨d, hd⟩ := r.mem (k _ List.mem_cons_self)
    exact .cons (hd.of h) (RNs.sub r (fun w hw => k w (List.mem_cons_of_mem _ hw)) q)
abbrev NR {α : Type} [TD α] (H0 F : Hp) (v : V) (x : α) : Prop := RN H0 F v (TD.d x)
abbrev NRs {α : Type} [TD α] (H0 F : Hp) (us : List V) (xs : List α) : Prop := RNs H0 F us (xs.map TD.d)
section
variable {α β : Type} [TD α] [TD β] {H0 F N : Hp} {v u : V} {us ws : List V} {xs ys : List α} {x : α}
theorem NR_lst_of (h : NR H0 F v xs) : ∃ a us, v = .ref a ∧ F a = some (.lst us) ∧ NRs H0 F us xs ∧ H0 a = none := by
  cases h with | lst n h r => exact ⟨_, _, rfl, h, r, n⟩
theorem NR_tup2_of {p : α × β} (h : NR H0 F v p) : ∃ a v1 v2, v = .ref a ∧ F a = some (.tup [v1, v2]) ∧ NR H0 F v1 p.1 ∧ NR H0 F v2 p.2 := by
  cases h with | tup h r => cases r with | cons h1 r => cases r with | cons h2 r => cases r; exact ⟨_, _, _, rfl, h, h1, h2⟩
theorem NRs_nil : NRs (α := α) H0 F [] [] := .nil
theorem NRs_cons (h : NR H0 F u x) (r : NRs H0 F us xs) : NRs H0 F (u :: us) (x :: xs) := .cons h r
theorem NRs_snoc (r : NRs H0 F us xs) (h : NR H0 F u x) : NRs H0 F (us ++ [u]) (xs ++ [x]) := by
  unfold NRs; rw [List.map_append]; exact RNs.append r (.cons h .nil)
theorem NRs_mono (s : Sub F N) (r : NRs H0 F us xs) : NRs H0 N us xs := RNs.mono s r
theorem NRs_rs (r : NRs H0 F us xs) : Rs F us xs := RNs.rds r
theorem NR_r (r : NR H0 F v x) : R F v x := RN.rd r
theorem NRs_sub (r : NRs H0 F us xs) (k : ∀ w ∈ ws, w ∈ us) (q : Rs F ws ys) : NRs H0 F ws ys := RNs.sub r k q
theorem NRs_mem (r : NRs H0 F us xs) (k : u ∈ us) (q : R F u x) : NR H0 F u x := by
  obtain ⟨d, hd⟩ := RNs.mem r k
  exact hd.of q
theorem NRs_flatI {us : List V} {xs : List Int} (r : Rs F us xs) : NRs H0 F us xs := by
  induction xs generalizing us with
  | nil => cases r; exact .nil
  | cons x xs ih => cases r with | cons h r => cases h; exact .cons (.int _) (ih r)
theorem mkN_lst {a : Addr} (n : H0 a = none) (h : F a = some (.lst us)) (r : NRs H0 F us xs) : NR H0 F (.ref a) xs := .lst n h r
theorem mkN_tup2 {a : Addr} {v1 v2 : V} {p : α × β} (h : F a = some (.tup [v1, v2])) (h1 : NR H0 F v1 p.1) (h2 : NR H0 F v2 p.2) : NR H0 F (.ref a) p := .tup h (.cons h1 (.cons h2 .nil))
theorem NRs_cut {lo hi : Option Int} (r : NRs H0 F us xs) : NRs H0 F (cutV us lo hi) (cutT xs lo hi) :=
  NRs_sub r (fun w hw => by unfold cutV at hw; exact List.mem_of_mem_drop (List.mem_of_mem_take hw)) (Rs_cut (NRs_rs r))
end

/-! #### a list of lists that is all ours -/
structure OwL (H0 F H : Hp) (p : Addr) (as : List Addr) (xs : List (List Int)) : Prop where
  at_ : H p = some (.lst (as.map V.ref))
  it : Paired (fun a (x : List Int) => H a = some (.lst (x.map V.int))) as xs
  nd : (p :: as).Nodup
  nf : ∀ a ∈ p :: as, F a = none
  n0 : ∀ a ∈ p :: as, H0 a = none
theorem prd_mono {α β : Type} {F G : α → β → Prop} {l : List α} {m : List β} (p : Paired F l m) (f : ∀ a b, a ∈ l → F a b → G a b) : Paired G l m := paired_mono p f
theorem prd_get {α β : Type} {F : α → β → Prop} : ∀ {l : List α} {m : List β} {i : Nat} {b : β}, Paired F l m → m[i]? = some b → ∃ a, l[i]? = some a ∧ F a b
  | _, _, _, _, .nil, e => by simp at e
  | _, _, 0, _, .cons h _, e => by simp at e; subst e; exact ⟨_, rfl, h⟩
  | _, _, i + 1, _, .cons _ t, e => by
    obtain ⟨a, h1, h2⟩ := prd_get (i := i) t (by simpa using e)
    exact ⟨a, by simpa using h1, h2⟩
theorem prd_getL {α β : Type} {F : α → β → Prop} : ∀ {l : List α} {m : List β} {i : Nat} {a : α}, Paired F l m → l[i]? = some a → ∃ b, m[i]? = some b ∧ F a b
  | _, _, _, _, .nil, e => by simp at e
  | _, _, 0, _, .cons h _, e => by simp at e; subst e; exact ⟨_, rfl, h⟩
  | _, _, i + 1, _, .cons _ t, e => by
    obtain ⟨a, h1, h2⟩ := prd_getL (i := i) t (by simpa using e)
    exact ⟨a, by simpa using h1, h2⟩
theorem prd_len {α β : Type} {F : α → β → Prop} : ∀ {l : List α} {m : List β}, Paired F l m → l.length = m.length
  | _, _, .nil => rfl
  | _, _, .cons _ t => by simp [prd_len t]
theorem prd_left {α β : Type} {F : α → β → Prop} : ∀ {l : List α} {m : List β} {a : α}, Paired F l m → a ∈ l → ∃ b, b ∈ m ∧ F a b
  | _, _, _, .nil, h => absurd h List.not_mem_nil
  | _, _, a, .cons h t, hm => by
    rcases List.mem_cons.mp hm with e | e
    · subst e; exact ⟨_, List.mem_cons_self, h⟩
    · obtain ⟨b, hb, hf⟩ := prd_left t e
      exact ⟨b, List.mem_cons_of_mem _ hb, hf⟩
theorem prd_set {α β : Type} {F G : α → β → Prop} : ∀ {l : List α} {m : List β} {i : Nat} {a : α} {b : β}, Paired F l m → l[i]? = some a → l.Nodup → (∀ a' b', a' ∈ l → a' ≠ a → F a' b' → G a' b') → G a b → Paired G l (m.set i b)
  | _, _, _, _, _, .nil, e, _, _, _ => by simp at e
  | _, _, 0, a, b, .cons (a := x) h t, e, nd, f, g => by
    simp at e; subst e
    refine .cons g ?_
    have nd' := List.nodup_cons.mp nd
    exact paired_mono t fun a' b' ha hF => f a' b' (List.mem_cons_of_mem _ ha) (fun z => nd'.1 (z ▸ ha)) hF
  | _, _, i + 1, a, b, .cons (a := x) h t, e, nd, f, g => by
    have nd' := List.nodup_cons.mp nd
    have e' := e
    simp at e'
    refine .cons (f _ _ List.mem_cons_self (fun z => ?_) h) (prd_set (i := i) t e' nd'.2 (fun a' b' ha => f a' b' (List.mem_cons_of_mem _ ha)) g)
    rw [z] at nd'
    exact nd'.1 (List.mem_of_getElem? e')
theorem prd_snoc {α β : Type} {F : α → β → Prop} {a : α} {b : β} : ∀ {l : List α} {m : List β}, Paired F l m → F a b → Paired F (l ++ [a]) (m ++ [b])
  | _, _, .nil, h => .cons h .nil
  | _, _, .cons g t, h => .cons g (prd_snoc t h)
theorem map_int_inj {x y : List Int} (h : x.map V.int = y.map V.int) : x = y := by
  induction x generalizing y with
  | nil => cases y with
    | nil => rfl
    | cons => cases h
  | cons a x ih => cases y with
    | nil => cases h
    | cons b y =>
      rw [List.map_cons, List.map_cons, List.cons.injEq] at h
      obtain ⟨h1, h2⟩ := h
      cases h1
      rw [ih h2]
theorem addrs_of {H0 F : Hp} : ∀ {us : List V} {xs : List (List Int)}, NRs H0 F us xs → ∃ as : List Addr, us = as.map V.ref ∧ Paired (fun a (x : List Int) => F a = some (.lst (x.map V.int)) ∧ H0 a = none) as xs
  | _, [], r => by cases r; exact ⟨[], rfl, .nil⟩
  | _, x :: xs, r => by
    cases r with
    | cons h r =>
      obtain ⟨as, rfl, p⟩ := addrs_of (xs := xs) r
      obtain ⟨a, ws, rfl, fa, fr, n⟩ := NR_lst_of h
      exact ⟨a :: as, rfl, .cons ⟨by rw [fa, Rs_int (NRs_rs fr)], n⟩ p⟩
theorem nodup_prd {F : Hp} {H0 : Hp} : ∀ {as : List Addr} {xs : List (List Int)}, Paired (fun a (x : List Int) => F a = some (.lst (x.map V.int)) ∧ H0 a = none) as xs → xs.Nodup → as.Nodup
  | _, _, .nil, _ => List.nodup_nil
  | _, _, .cons h t, nd => by
    have nd' := List.nodup_cons.mp nd
    refine List.nodup_cons.mpr ⟨fun hm => ?_, nodup_prd t nd'.2⟩
    obtain ⟨y, hy, e, _⟩ := prd_left t hm
    rw [h.1] at e
    have e2 := HO.lst.inj (Option.some.inj e)
    rw [map_int_inj e2] at nd'
    exact nd'.1 hy
section
variable {A B : Addr → Prop} {F0 H0 F H N H' : Hp} {p q dk : Addr} {as : List Addr} {us ws : List V} {xs : List (List Int)} {x y : List Int} {st st2 : DkS} {o : HO}
theorem OwL.of (G : Gr A F0 H0 F H) (g : Gr B F H N H') (r : NR H N (.ref p) xs) (nd : xs.Nodup) : ∃ as, OwL H0 F H' p as xs ∧ ∀ a ∈ p :: as, H a = none := by
  obtain ⟨p', us, e, fa, fr, np⟩ := NR_lst_of r
  cases e
  obtain ⟨as, rfl, pr⟩ := addrs_of fr
  have fz : ∀ a ∈ p :: as, H a = none := fun a ha => by
    rcases List.mem_cons.mp ha with e | e
    · rw [e]; exact np
    · obtain ⟨_, _, _, n⟩ := prd_left pr e
      exact n
  refine ⟨as, ⟨g.sub _ _ fa, paired_mono pr fun a x _ h => g.sub _ _ h.1, List.nodup_cons.mpr ⟨fun hm => ?_, nodup_prd pr nd⟩, fun a ha => G.sub.none (fz a ha), fun a ha => G.fresh (fz a ha)⟩, fz⟩
  obtain ⟨x, _, e, _⟩ := prd_left pr hm
  rw [fa] at e
  have e2 := HO.lst.inj (Option.some.inj e)
  cases as with
  | nil => exact absurd hm List.not_mem_nil
  | cons b as =>
    cases x with
    | nil => cases e2
    | cons i x => cases (List.cons.inj e2).1
theorem OwL.mem (w : OwL H0 F H p as xs) {a : Addr} (h : a ∈ as) : ∃ x : List Int, H a = some (.lst (x.map V.int)) := by
  obtain ⟨x, _, e⟩ := prd_left w.it h
  exact ⟨x, e⟩
theorem OwL.some_ (w : OwL H0 F H p as xs) : ∀ a ∈ p :: as, H a ≠ none := fun a ha => by
  rcases List.mem_cons.mp ha with e | e
  · rw [e, w.at_]; exact (fun z => nomatch z)
  · obtain ⟨x, e⟩ := w.mem e
    rw [e]; exact (fun z => nomatch z)
theorem OwL.len (w : OwL H0 F H p as xs) : as.length = xs.length := prd_len w.it
theorem OwL.keep (w : OwL H0 F H p as xs) (k : ∀ a o, a ∈ p :: as → H a = some o → H' a = some o) (nf : ∀ a ∈ p :: as, N a = none) : OwL H0 N H' p as xs :=
  ⟨k _ _ List.mem_cons_self w.at_, paired_mono w.it fun a x ha h => k _ _ (List.mem_cons_of_mem _ ha) h, w.nd, nf, w.n0⟩
theorem OwL.step (w : OwL H0 F H p as xs) (g : Gr NA F H N H') : OwL H0 N H' p as xs := w.keep (fun a o _ h => g.keep a o id h) fun a ha => g.own a (w.some_ a ha) (w.nf a ha)
theorem OwL.stepA (w : OwL H0 F H p as xs) (g : Gr A F H N H') (h : ∀ a ∈ p :: as, ¬ A a) : OwL H0 N H' p as xs := w.keep (fun a o ha e => g.keep a o (h a ha) e) fun a ha => g.own a (w.some_ a ha) (w.nf a ha)
theorem OwL.other (w : OwL H0 F H p as xs) (h : q ∉ p :: as) : OwL H0 F (upd H q (.lst ws)) p as xs := w.keep (fun a o ha e => by rw [upd_ne (show a ≠ q from fun z => h (by rw [← z]; exact ha))]; exact e) w.nf
theorem OwL.frzo (w : OwL H0 F H p as xs) (h : q ∉ p :: as) (x : Ow H0 F H q ws) : OwL H0 (upd F q (.lst ws)) H p as xs := w.keep (fun _ _ _ e => e) fun a ha => by rw [upd_ne (show a ≠ q from fun z => h (by rw [← z]; exact ha))]; exact w.nf a ha
theorem OwL.ne_new (w : OwL H0 F H p as xs) (hq : H q = none) : q ∉ p :: as := fun h => w.some_ q h hq
theorem Gr.subN (g : Gr NA F H N H') : Sub H H' := fun a o e => g.keep a o id e
theorem OwL.ne_push {r : Addr} (h : r ∉ p :: as) (k : r ≠ q) : r ∉ p :: (as ++ [q]) := fun hm => by
  rcases List.mem_cons.mp hm with e | e
  · exact h (by rw [e]; exact List.mem_cons_self)
  · rcases List.mem_append.mp e with e | e
    · exact h (List.mem_cons_of_mem _ e)
    · exact k (List.mem_singleton.mp e)
theorem Ow.ne_fz {l : List Addr} (w : Ow H0 F H q us) (fz : ∀ a ∈ l, H a = none) : q ∉ l := fun h => by have := fz q h; rw [w.at_] at this; cases this
theorem OwP.ne_l {hd : Addr} (w : OwP A H0 F H hd us) (x : OwL H0 N H' p as xs) : hd ∉ p :: as := fun h => w.n0 (x.n0 hd h)
theorem DkAt.outL (d : DkAt A H0 F H dk st) (w : OwL H0 F H p as xs) : ∀ a ∈ p :: as, ¬ A a := fun a ha h => d.n0 a h (w.n0 a ha)
theorem OwL.read (w : OwL H0 F H p as xs) : Rs H (as.map V.ref) xs := by
  have : ∀ {as : List Addr} {xs : List (List Int)}, Paired (fun a (x : List Int) => H a = some (.lst (x.map V.int))) as xs → Rs H (as.map V.ref) xs := by
    intro as xs pr
    induction pr with
    | nil => exact .nil
    | cons h _ ih => exact .cons (mk_lst h (int_Rs _)) ih
  exact this w.it
theorem OwL.rd (w : OwL H0 F H p as xs) : R H (.ref p) xs := mk_lst w.at_ w.read
theorem OwL.item (w : OwL H0 F H p as xs) {j : Nat} {a : Addr} (ha : as[j]? = some a) (hx : xs[j]? = some x) : H a = some (.lst (x.map V.int)) := by
  obtain ⟨b, e, h⟩ := prd_get w.it hx
  rw [ha] at e; cases e; exact h
theorem OwL.ix (w : OwL H0 F H p as xs) {i : Int} (h : atI xs i = some x) : ∃ (j : Nat) (a : Addr), ixN xs.length i = some j ∧ xs[j]? = some x ∧ as[j]? = some a ∧ atI (as.map V.ref) i = some (.ref a) := by
  unfold atI at h
  cases e : ixN xs.length i with
  | none => rw [e] at h; cases h
  | some j =>
    rw [e] at h
    have h' : xs[j]? = some x := h
    obtain ⟨a, e2, _⟩ := prd_get w.it h'
    refine ⟨j, a, rfl, h', e2, ?_⟩
    unfold atI
    rw [List.length_map, w.len, e]
    show (as.map V.ref)[j]? = _
    rw [List.getElem?_map, e2]; rfl
theorem OwL.ix2 (w : OwL H0 F H p as xs) {i : Int} (h : atI xs i = some x) : ∃ a : Addr, xs[(ixN xs.length i).getD 0]? = some x ∧ as[(ixN xs.length i).getD 0]? = some a ∧ atI (as.map V.ref) i = some (.ref a) := by
  obtain ⟨j, a, e, h1, h2, h3⟩ := w.ix h
  exact ⟨a, by rw [e]; exact h1, by rw [e]; exact h2, h3⟩
theorem OwL.set_get (w : OwL H0 F H p as xs) {j : Nat} {a : Addr} (ha : as[j]? = some a) : (xs.set j y)[j]? = some y := by
  have h := (List.getElem?_eq_some_iff.mp ha).1
  rw [w.len] at h
  rw [List.getElem?_set_self h]
theorem OwL.cut {lo hi : Option Int} (w : OwL H0 F (upd H q (.lst (cutV (as.map V.ref) lo hi))) p as xs) : R (upd H q (.lst (cutV (as.map V.ref) lo hi))) (.ref q) (cutT xs lo hi) := mk_lst upd_same (Rs_cut w.read)
theorem OwL.memA {j : Nat} {a : Addr} (ha : as[j]? = some a) : a ∈ p :: as := List.mem_cons_of_mem _ (List.mem_of_getElem? ha)
theorem OwL.put (w : OwL H0 F H p as xs) {j : Nat} {a : Addr} (ha : as[j]? = some a) (hu : us = y.map V.int) : OwL H0 F (upd H a (.lst us)) p as (xs.set j y) := by
  subst hu
  have nd := List.nodup_cons.mp w.nd
  have hm := List.mem_of_getElem? ha
  refine ⟨by rw [upd_ne (show p ≠ a from fun z => nd.1 (by rw [z]; exact hm))]; exact w.at_, prd_set w.it ha nd.2 (fun a' b' _ ne h => by rw [upd_ne ne]; exact h) upd_same, w.nd, w.nf, w.n0⟩
theorem OwL.mutG (w : OwL H0 F H p as xs) {a : Addr} (ha : a ∈ p :: as) (G : Gr A F0 H0 F H) : Gr A F0 H0 F (upd H a o) := G.mut (w.n0 a ha) (w.nf a ha)
theorem OwL.ne_it {a : Addr} (h : q ∉ p :: as) (ha : a ∈ p :: as) : a ≠ q := fun z => h (by rw [← z]; exact ha)
theorem OwL.push (w : OwL H0 F H p as xs) (x : Ow H0 F H q us) (h : q ∉ p :: as) (r : Rs N us y) : OwL H0 F (upd H p (.lst (as.map V.ref ++ [.ref q]))) p (as ++ [q]) (xs ++ [y]) := by
  have nd := List.nodup_cons.mp w.nd
  have hq := x.at_
  rw [Rs_int r] at hq
  have mm : ∀ a, a ∈ p :: (as ++ [q]) → a ∈ p :: as ∨ a = q := fun a ha => by
    rcases List.mem_cons.mp ha with e | e
    · exact .inl (by rw [e]; exact List.mem_cons_self)
    · rcases List.mem_append.mp e with e | e
      · exact .inl (List.mem_cons_of_mem _ e)
      · exact .inr (List.mem_singleton.mp e)
  have hpq : q ≠ p := fun z => h (by rw [z]; exact List.mem_cons_self)
  have hqa : q ∉ as := fun z => h (List.mem_cons_of_mem _ z)
  refine ⟨by rw [upd_same, List.map_append]; rfl, prd_snoc (paired_mono w.it fun a b ha e => by rw [upd_ne (show a ≠ p from fun z => nd.1 (by rw [← z]; exact ha))]; exact e) (by rw [upd_ne hpq]; exact hq), ?_, fun a ha => (mm a ha).elim (w.nf a) fun e => by rw [e]; exact x.nf, fun a ha => (mm a ha).elim (w.n0 a) fun e => by rw [e]; exact x.n0⟩
  refine List.nodup_cons.mpr ⟨fun hm => ?_, List.nodup_append.mpr ⟨nd.2, by simp, fun a ha b hb e => hqa (by rw [← List.mem_singleton.mp hb, ← e]; exact ha)⟩⟩
  rcases List.mem_append.mp hm with e | e
  · exact nd.1 e
  · exact hpq (List.mem_singleton.mp e).symm
theorem OwL.clear (w : OwL H0 F H p as xs) : OwL H0 F (upd H p (.lst [])) p [] [] :=
  ⟨upd_same, .nil, by simp, fun a ha => w.nf a (by rw [List.mem_singleton.mp ha]; exact List.mem_cons_self), fun a ha => w.n0 a (by rw [List.mem_singleton.mp ha]; exact List.mem_cons_self)⟩
theorem DkAt.mutL (d : DkAt A H0 F H dk st) (w : OwL H0 F H p as xs) {a : Addr} (ha : a ∈ p :: as) : DkAt A H0 F (upd H a (.lst ws)) dk st :=
  ⟨d.at_.keep fun b o h e => by rw [upd_ne (show b ≠ a from fun z => d.outL w a ha (by rw [← z]; exact h))]; exact e, d.nf, d.n0⟩
end
section
variable {K : PySem.W.Frag} {g : TG} {tb : TS} {D : Ends} {σ : L2.St} {H : Hp}
theorem range_get {n j : Nat} (h : j < n) : (List.range n)[j]? = some j := by simp [h]
theorem for_ll {a : Addr} {as : List Addr} (W : List Nat → L2.St → Hp → Prop) (h0 : W (List.range as.length) σ H) (hf : ∀ ts σ H, W ts σ H → H a = some (.lst (as.map V.ref)))
    (hs : ∀ j ts b σ H, as[j]? = some b → W (j :: ts) σ H → g (.ref b) σ H fun σ2 H2 => tb { D with nx := W ts, ct := W ts, bk := D.nx } σ2 H2) (hd : ∀ σ H, W [] σ H → D.nx σ H) :
    ∃ W : Nat → Nat → L2.St → Hp → Prop, (∃ m, W 0 m σ H) ∧ ∀ i m σ H, W i m σ H →
      ((Itl K a).stop i H ∧ D.nx σ H) ∨ ((Itl K a).go i H ∧ ∃ N : L2.St → Hp → Prop, (∀ σ' H', N σ' H' → ∃ m', m' < m ∧ W (i + 1) m' σ' H') ∧ ∀ x H', (Itl K a).yld i H x H' → g x σ H' fun σ2 H2 => tb { D with nx := N, ct := N, bk := D.nx } σ2 H2) := by
  refine for_list (xs := as.map V.ref) (fun i σ H => W ((List.range as.length).drop i) σ H) (by rw [List.drop_zero]; exact h0) (fun i σ H _ h => .inl (.inl (hf _ σ H h))) (fun i v σ H e h => ?_) fun σ H h => ?_
  · rw [List.getElem?_map] at e
    cases e2 : as[i]? with
    | none => rw [e2] at e; cases e
    | some b =>
      rw [e2] at e
      cases e
      have hi := (List.getElem?_eq_some_iff.mp e2).1
      have h' : W ((List.range as.length).drop i) σ H := h
      rw [drop_cons (range_get hi)] at h'
      exact hs i _ b σ H e2 h'
  · have h' : W ((List.range as.length).drop (as.map V.ref).length) σ H := h
    rw [List.length_map, List.drop_of_length_le (by rw [List.length_range]; exact Nat.le_refl _)] at h'
    exact hd σ H h'
variable {tt : TT} {te : TE} {vs : List Nat} {H1 : Hp} {Dl : Addr} {Qd : Hp → Prop}
theorem lc_ll {a : Addr} {as : List Addr} (W : List Nat → Hp → Prop) (h0 : W (List.range as.length) (upd H1 Dl (.lst []))) (hf : ∀ ts H, W ts H → H a = some (.lst (as.map V.ref)))
    (hs : ∀ j ts b H, as[j]? = some b → W (j :: ts) H → g (.ref b) (wipe σ vs) H fun σ2 H2 => wipe σ2 vs = wipe σ vs ∧ tt σ2 H2 fun b H3 =>
        if b = true then te σ2 H3 fun y H4 => ∃ acc, H4 Dl = some (HO.lst acc) ∧ acc.length < sizeLine ∧ W ts (upd H4 Dl (HO.lst (acc ++ [y]))) else W ts H3) (hd : ∀ H, W [] H → Qd H) :
    ∃ W : Nat → Nat → Hp → Prop, (∃ m, W 0 m (upd H1 Dl (HO.lst []))) ∧ ∀ (i m : Nat) (H : Hp), W i m H → (Itl K a).stop i H ∧ Qd H ∨
      (Itl K a).go i H ∧ ∃ Nx : Hp → Prop, (∀ (H' : Hp), Nx H' → ∃ m', m' < m ∧ W (i + 1) m' H') ∧ ∀ (x : V) (H' : Hp), (Itl K a).yld i H x H' →
        g x (wipe σ vs) H' fun σ2 H2 => wipe σ2 vs = wipe σ vs ∧ tt σ2 H2 fun b H3 => if b = true then te σ2 H3 fun y H4 => ∃ acc, H4 Dl = some (HO.lst acc) ∧ acc.length < sizeLine ∧ Nx (upd H4 Dl (HO.lst (acc ++ [y]))) else Nx H3 := by
  refine lc_list (xs := as.map V.ref) (fun i H => W ((List.range as.length).drop i) H) (by rw [List.drop_zero]; exact h0) (fun i H _ h => .inl (.inl (hf _ H h))) (fun i v H e h => ?_) fun H h => ?_
  · rw [List.getElem?_map] at e
    cases e2 : as[i]? with
    | none => rw [e2] at e; cases e
    | some b =>
      rw [e2] at e
      cases e
      have hi := (List.getElem?_eq_some_iff.mp e2).1
      have h' : W ((List.range as.length).drop i) H := h
      rw [drop_cons (range_get hi)] at h'
      exact hs i _ b H e2 h'
  · have h' : W ((List.range as.length).drop (as.map V.ref).length) H := h
    rw [List.length_map, List.drop_of_length_le (by rw [List.length_range]; exact Nat.le_refl _)] at h'
    exact hd H h'
end

/-! #### the frozen part by a name -/
section
variable {A : Addr → Prop} {F0 H0 F F' H : Hp} {p q dk : Addr} {o : HO} {us ws : List V} {as : List Addr} {xs : List (List Int)}
theorem Gr.newE (s : Sub F H) (hp : H p = none) : ∃ F', Gr NA F H F' (upd H p o) ∧ F' p = some o := ⟨_, Gr.new s hp, upd_same⟩
theorem Ow.frzE (w : Ow H0 F H p us) (G : Gr A F0 H0 F H) : ∃ F', Gr A F0 H0 F' H ∧ Sub F F' ∧ F' p = some (.lst us) ∧ ∀ q, q ≠ p → F q = none → F' q = none := ⟨_, w.frz G, w.ex, upd_same, fun q h e => by rw [upd_ne h]; exact e⟩
theorem Ow.frzN (w : Ow H0 F H q us) (h : q ≠ p) (nf : ∀ q, q ≠ p → F q = none → F' q = none) : Ow H0 F' H q us := ⟨w.at_, nf _ h w.nf, w.n0⟩
theorem OwP.frzN (w : OwP A H0 F H q us) (x : Ow H0 F H p ws) (nf : ∀ q, q ≠ p → F q = none → F' q = none) : OwP A H0 F' H q us := ⟨w.at_, nf _ (w.ne x) w.nf, w.n0, w.na⟩
theorem OwL.frzN (w : OwL H0 F H q as xs) (h : p ∉ q :: as) (nf : ∀ q, q ≠ p → F q = none → F' q = none) : OwL H0 F' H q as xs :=
  ⟨w.at_, w.it, w.nd, fun a ha => nf a (fun z => h (by rw [← z]; exact ha)) (w.nf a ha), w.n0⟩
theorem DkAt.frzN {st : DkS} (d : DkAt A H0 F H dk st) (w : Ow H0 F H p us) (_ : Sub F F') (nf : ∀ q, q ≠ p → F q = none → F' q = none) : DkAt A H0 F' H dk st :=
  ⟨d.at_, fun a h => nf a (fun z => d.out w (by rw [← z]; exact h)) (d.nf a h), d.n0⟩
theorem HdAt.frzN {α : Type} [TD α] {st : List α} (d : HdAt A H0 F H dk st) (w : Ow H0 F H p us) (ex : Sub F F') (nf : ∀ q, q ≠ p → F q = none → F' q = none) : HdAt A H0 F' H dk st := by
  obtain ⟨vs, e, r⟩ := d.at_
  exact ⟨⟨vs, e, Rs_mono ex r⟩, nf _ (d.out w).symm d.nf, d.n0, d.ia⟩
end

/-! #### slots written out -/
theorem x_gnE {i : Nat} {v : V} {σ σ' : L2.St} {H : Hp} {QS : L2.St → Hp → Prop} (e : σ.set i (some v) = σ') (h : QS σ' H) : gName i v σ H QS := by
  show QS (σ.set i (some v)) H
  rw [e]; exact h
theorem x_start {t : TS} {D : Ends} {σ σ' : L2.St} {H : Hp} (e : σ = σ') (h : t D σ' H) : t D σ H := by rw [e]; exact h
theorem x_parE {i j : Nat} {tA : TA} {D : Ends} {σ : L2.St} {H : Hp} (h : tA σ H fun vs H1 => ∃ v w σ', vs = [v, w] ∧ (σ.set i (some v)).set j (some w) = σ' ∧ D.nx σ' H1) : tPar i j tA D σ H := by
  have e : (fun (vs : List V) (H1 : Hp) => ∃ v w σ', vs = [v, w] ∧ (σ.set i (some v)).set j (some w) = σ' ∧ D.nx σ' H1) = fun vs H1 => ∃ v w, vs = [v, w] ∧ D.nx ((σ.set i (some v)).set j (some w)) H1 :=
    funext fun vs => funext fun H1 => propext ⟨fun ⟨v, w, σ', a, b, c⟩ => ⟨v, w, a, by rw [b]; exact c⟩, fun ⟨v, w, a, c⟩ => ⟨v, w, _, a, rfl, c⟩⟩
  rw [e] at h
  exact h
theorem x_augE {i : Nat} {te : TE} {ti : TIp} {D : Ends} {σ : L2.St} {H : Hp} (h : ∃ x, σ[i]? = some (some x) ∧ te σ H fun y H1 => ti x y H1 fun z H2 => ∃ σ', σ.set i (some z) = σ' ∧ D.nx σ' H2) : tAug i te ti D σ H := by
  have e : (fun (z : V) (H2 : Hp) => ∃ σ', σ.set i (some z) = σ' ∧ D.nx σ' H2) = fun z H2 => D.nx (σ.set i (some z)) H2 :=
    funext fun z => funext fun H2 => propext ⟨fun ⟨σ', a, b⟩ => by rw [a]; exact b, fun b => ⟨_, rfl, b⟩⟩
  rw [e] at h
  exact h
end My

namespace My
open PySem PySem.Spec PyProof.Rows L2
/-! ### data of any kind -/
def isTupD : PyData → Bool | .tuple _ => true | _ => false
def isLstD : PyData → Bool | .list _ => true | _ => false
def isIntD : PyData → Bool | .int _ => true | .bool _ => true | _ => false
def isBlD : PyData → Bool | .bool _ => true | _ => false
def isStrD : PyData → Bool | .str _ => true | _ => false
def isNonD : PyData → Bool | .none => true | _ => false
def asInt : PyData → Option Int | .int i => some i | _ => none
def asBl : PyData → Option Bool | .bool i => some i | _ => none
def asStr : PyData → Option Str | .str i => some i | _ => none
def asLst : PyData → Option (List PyData) | .list xs => some xs | _ => none
def asSeq : PyData → Option (List PyData) | .list xs => some xs | .tuple xs => some xs | _ => none
def asPair : PyData → Option (PyData × PyData) | .tuple [a, b] => some (a, b) | _ => none
section
variable {K : PySem.W.Frag} {F H : Hp} {v : V} {d : PyData}
theorem asInt_of {i : Int} (h : RD F v d) (e : asInt d = some i) : v = .int i := by
  cases h <;> first | (cases e; rfl) | exact nomatch e
theorem asBl_of {i : Bool} (h : RD F v d) (e : asBl d = some i) : v = .bl i := by
  cases h <;> first | (cases e; rfl) | exact nomatch e
theorem asStr_of {i : Str} (h : RD F v d) (e : asStr d = some i) : v = .str i := by
  cases h <;> first | (cases e; rfl) | exact nomatch e
theorem any_id (xs : List PyData) : xs.map TD.d = xs := List.map_id' xs
theorem R_anyL {xs : List PyData} (h : R F v xs) : R (α := PyData) F v (PyData.list xs) := by
  have h' : RD F v (.list (xs.map TD.d)) := h
  rw [any_id] at h'
  exact h'
theorem asLst_of {xs : List PyData} (h : RD F v d) (e : asLst d = some xs) : R F v xs := by
  cases h with
  | lst h r => cases e; exact .lst h (by rw [any_id]; exact r)
  | _ => exact nomatch e
theorem asPair_of {p : PyData × PyData} (h : RD F v d) (e : asPair d = some p) : R F v p := by
  cases h with
  | tup h r =>
    cases r with
    | nil => exact nomatch e
    | cons h1 r =>
      cases r with
      | nil => exact nomatch e
      | cons h2 r =>
        cases r with
        | nil => cases e; exact .tup h (.cons h1 (.cons h2 .nil))
        | cons => exact nomatch e
  | _ => exact nomatch e
/-- a list or a tuple, read -/
theorem asSeq_of {xs : List PyData} (s : Sub F H) (h : RD F v d) (e : asSeq d = some xs) : ∃ a us, v = .ref a ∧ (SqL K H a us ∨ SqT K H a us) ∧ us.length = xs.length ∧ RDs F us xs := by
  cases h with
  | lst h r => cases e; exact ⟨_, _, rfl, .inl (.inl (.inl (s _ _ h))), r.len, r⟩
  | tup h r => cases e; exact ⟨_, _, rfl, .inr (.inl (.inl (s _ _ h))), r.len, r⟩
  | _ => exact nomatch e
theorem ixD {xs : List PyData} {i : Int} {x : PyData} (s : Sub F H) (h : RD F v d) (e : asSeq d = some xs) (hx : atI xs i = some x) : ∃ u, RD F u x ∧ ∀ Q : VK, Q u H → rIx K v (.int i) H Q := by
  obtain ⟨a, us, rfl, hq, hl, r⟩ := asSeq_of (K := K) s h e
  have r' : Rs F us xs := by unfold Rs; rw [any_id]; exact r
  obtain ⟨u, hu, hr⟩ := Rs_at r' hx
  refine ⟨u, hr, fun Q q => ?_⟩
  rcases hq with hq | hq
  · exact .inl ⟨_, _, _, _, rfl, rfl, hq, hu, q⟩
  · exact .inr (.inl ⟨_, _, _, _, rfl, rfl, hq, hu, q⟩)
theorem lenD {xs : List PyData} (s : Sub F H) (h : RD F v d) (e : asSeq d = some xs) (Q : VK) (q : Q (.int (xs.length : Int)) H) : rLenT K [v] H Q := by
  obtain ⟨a, us, rfl, hq, hl, r⟩ := asSeq_of (K := K) s h e
  exact ⟨_, _, rfl, hq, by rw [hl]; exact q⟩
theorem isi_of {T : String} {f : PyData → Bool} (s : Sub F H) (h : RD F v d)
    (k : kitB "NoneType" T = some (f .none) ∧ (∀ b, kitB "bool" T = some (f (.bool b))) ∧ (∀ i, kitB "int" T = some (f (.int i))) ∧ (∀ x, kitB "str" T = some (f (.str x))) ∧ (∀ x, kitB "list" T = some (f (.list x))) ∧ (∀ x, kitB "tuple" T = some (f (.tuple x))) ∧ ∀ x, kitB "dict" T = some (f (.dict x)))
    (Q : VK) (q : Q (.bl (f d)) H) : rIsi K [v, .ty T] H Q := by
  obtain ⟨k1, k2, k3, k4, k5, k6, k7⟩ := k
  cases h with
  | non => exact ⟨_, _, _, _, _, rfl, ClsV.ty _, TyX.base .non, kit_ty k1, q⟩
  | bl b => exact ⟨_, _, _, _, _, rfl, ClsV.ty _, TyX.base (.bl b), kit_ty (k2 b), q⟩
  | int i => exact ⟨_, _, _, _, _, rfl, ClsV.ty _, TyX.base (.int i), kit_ty (k3 i), q⟩
  | str x => exact ⟨_, _, _, _, _, rfl, ClsV.ty _, TyX.base (.str x), kit_ty (k4 x), q⟩
  | lst h r => exact ⟨_, _, _, _, _, rfl, ClsV.ty _, TyX.base (.lst (s _ _ h)), kit_ty (k5 _), q⟩
  | tup h r => exact ⟨_, _, _, _, _, rfl, ClsV.ty _, TyX.base (.tup (s _ _ h)), kit_ty (k6 _), q⟩
  | dic h r => exact ⟨_, _, _, _, _, rfl, ClsV.ty _, TyX.base (.dK (s _ _ h)), kit_ty (k7 _), q⟩
theorem isi_tuple (s : Sub F H) (h : RD F v d) (Q : VK) (q : Q (.bl (isTupD d)) H) : rIsi K [v, .ty "tuple"] H Q := isi_of s h ⟨(by show kitB "NoneType" "tuple" = some false; decide +kernel), fun _ => (by show kitB "bool" "tuple" = some false; decide +kernel), fun _ => (by show kitB "int" "tuple" = some false; decide +kernel), fun _ => (by show kitB "str" "tuple" = some false; decide +kernel), fun _ => (by show kitB "list" "tuple" = some false; decide +kernel), fun _ => (by show kitB "tuple" "tuple" = some true; decide +kernel), fun _ => (by show kitB "dict" "tuple" = some false; decide +kernel)⟩ Q q
theorem isi_list (s : Sub F H) (h : RD F v d) (Q : VK) (q : Q (.bl (isLstD d)) H) : rIsi K [v, .ty "list"] H Q := isi_of s h ⟨(by show kitB "NoneType" "list" = some false; decide +kernel), fun _ => (by show kitB "bool" "list" = some false; decide +kernel), fun _ => (by show kitB "int" "list" = some false; decide +kernel), fun _ => (by show kitB "str" "list" = some false; decide +kernel), fun _ => (by show kitB "list" "list" = some true; decide +kernel), fun _ => (by show kitB "tuple" "list" = some false; decide +kernel), fun _ => (by show kitB "dict" "list" = some false; decide +kernel)⟩ Q q
theorem isi_int (s : Sub F H) (h : RD F v d) (Q : VK) (q : Q (.bl (isIntD d)) H) : rIsi K [v, .ty "int"] H Q := isi_of s h ⟨(by show kitB "NoneType" "int" = some false; decide +kernel), fun _ => (by show kitB "bool" "int" = some true; decide +kernel), fun _ => (by show kitB "int" "int" = some true; decide +kernel), fun _ => (by show kitB "str" "int" = some false; decide +kernel), fun _ => (by show kitB "list" "int" = some false; decide +kernel), fun _ => (by show kitB "tuple" "int" = some false; decide +kernel), fun _ => (by show kitB "dict" "int" = some false; decide +kernel)⟩ Q q
theorem isi_bool (s : Sub F H) (h : RD F v d) (Q : VK) (q : Q (.bl (isBlD d)) H) : rIsi K [v, .ty "bool"] H Q := isi_of s h ⟨(by show kitB "NoneType" "bool" = some false; decide +kernel), fun _ => (by show kitB "bool" "bool" = some true; decide +kernel), fun _ => (by show kitB "int" "bool" = some false; decide +kernel), fun _ => (by show kitB "str" "bool" = some false; decide +kernel), fun _ => (by show kitB "list" "bool" = some false; decide +kernel), fun _ => (by show kitB "tuple" "bool" = some false; decide +kernel), fun _ => (by show kitB "dict" "bool" = some false; decide +kernel)⟩ Q q
theorem isi_str (s : Sub F H) (h : RD F v d) (Q : VK) (q : Q (.bl (isStrD d)) H) : rIsi K [v, .ty "str"] H Q := isi_of s h ⟨(by show kitB "NoneType" "str" = some false; decide +kernel), fun _ => (by show kitB "bool" "str" = some false; decide +kernel), fun _ => (by show kitB "int" "str" = some false; decide +kernel), fun _ => (by show kitB "str" "str" = some true; decide +kernel), fun _ => (by show kitB "list" "str" = some false; decide +kernel), fun _ => (by show kitB "tuple" "str" = some false; decide +kernel), fun _ => (by show kitB "dict" "str" = some false; decide +kernel)⟩ Q q
theorem isN_D (h : RD F v d) : decide (v = .non) = isNonD d := by cases h <;> first | rfl | exact decide_eq_false (fun z => nomatch z)
theorem Rs_any {α : Type} [TD α] {us : List V} {xs : List α} (r : Rs F us xs) : Rs (α := PyData) F us (xs.map TD.d) := by
  unfold Rs; rw [any_id]; exact r
theorem Rs_anyL {us : List V} {xs : List (List PyData)} (r : Rs F us xs) : Rs (α := PyData) F us (xs.map fun z => PyData.list z) := by
  have e : (TD.d : List PyData → PyData) = fun z => PyData.list z := funext fun z => congrArg PyData.list (any_id z)
  have h : RDs F us (xs.map TD.d) := r
  rw [e] at h
  unfold Rs; rw [any_id]; exact h
theorem str_of {x : Str} (h : R F v x) : v = .str x := by cases h; rfl
end
/-- data that the order of Python is sure of -/
def LtOk (a b : PyData) : Prop := (PySem.W.alike a b && !isNonD a && a.canLay0 && b.canLay0 && decide (a.depth ≤ 64)) = true
instance (a b : PyData) : Decidable (LtOk a b) := inferInstanceAs (Decidable (_ = true))
def EqOk (a b : PyData) : Prop := (SeqAt.shaped a && SeqAt.shaped b) = true
instance (a b : PyData) : Decidable (EqOk a b) := inferInstanceAs (Decidable (_ = true))
def rCmpD (f : PyData → PyData → Bool) : R2 := fun x y H Q => ∃ (F : Hp) (a b : PyData), Sub F H ∧ RD F x a ∧ RD F y b ∧ LtOk a b ∧ Q (.bl (f a b)) H
def rEqD' (f : Bool → Bool) : R2 := fun x y H Q => ∃ (F : Hp) (a b : PyData), Sub F H ∧ RD F x a ∧ RD F y b ∧ EqOk a b ∧ Q (.bl (f (PyData.eqv a b))) H
section
variable {X : Cx}
theorem LtOk.parts {a b : PyData} (h : LtOk a b) : PySem.W.alike a b = true ∧ a ≠ .none ∧ a.canLay0 = true ∧ b.canLay0 = true ∧ a.depth ≤ 64 := by
  unfold LtOk at h
  simp only [Bool.and_eq_true, decide_eq_true_eq, Bool.not_eq_true'] at h
  exact ⟨h.1.1.1.1, (fun e => by rw [e] at h; exact nomatch h.1.1.1.2), h.1.1.2, h.1.2, h.2⟩
theorem op_geA (hu : X.A.units + 64 < cLine) : OpR X (compareOp .GtE) (rCmpD fun a b => !PySem.W.dataLt a b) := by
  intro pins s σ H x y v u Q I rx ry h
  obtain ⟨F, a, b, sb, ha, hb, k, q⟩ := h
  obtain ⟨k1, k2, k3, k4, k5⟩ := k.parts
  obtain ⟨as, r1⟩ := Dp.reads I _ x v (ha.dpL (K := X.K) sb k3) rx
  obtain ⟨bs, r2⟩ := Dp.reads I _ y u (hb.dpL (K := X.K) sb k4) ry
  exact PySem.W.ge_data r1 r2 k1 k2 (by omega) ⟨.bl _, H, I, rfl, q⟩
theorem op_ltA (hu : X.A.units + 64 < cLine) : OpR X (compareOp .Lt) (rCmpD fun a b => PySem.W.dataLt a b) := by
  intro pins s σ H x y v u Q I rx ry h
  obtain ⟨F, a, b, sb, ha, hb, k, q⟩ := h
  obtain ⟨k1, k2, k3, k4, k5⟩ := k.parts
  obtain ⟨as, r1⟩ := Dp.reads I _ x v (ha.dpL (K := X.K) sb k3) rx
  obtain ⟨bs, r2⟩ := Dp.reads I _ y u (hb.dpL (K := X.K) sb k4) ry
  exact PySem.W.lt_data r1 r2 k1 k2 (by omega) ⟨.bl _, H, I, rfl, q⟩
theorem op_eqA (hu : X.A.units + 64 < cLine) : OpR X (compareOp .Eq) (rEqD' id) := by
  intro pins s σ H x y v u Q I rx ry h
  obtain ⟨F, a, b, sb, ha, hb, k, q⟩ := h
  unfold EqOk at k
  rw [Bool.and_eq_true] at k
  exact op_eqD hu pins s σ H x y v u Q I rx ry ⟨_, _, ha.dpL sb (SeqAt.canLay_of_shaped k.1), hb.dpL sb (SeqAt.canLay_of_shaped k.2), k.1, k.2, q⟩
theorem op_neA (hu : X.A.units + 64 < cLine) : OpR X (compareOp .NotEq) (rEqD' not) := by
  intro pins s σ H x y v u Q I rx ry h
  obtain ⟨F, a, b, sb, ha, hb, k, q⟩ := h
  unfold EqOk at k
  rw [Bool.and_eq_true] at k
  exact op_neD hu pins s σ H x y v u Q I rx ry ⟨_, _, ha.dpL sb (SeqAt.canLay_of_shaped k.1), hb.dpL sb (SeqAt.canLay_of_shaped k.2), k.1, k.2, q⟩
/-- texts -/
def rEqS (f : Bool → Bool) : R2 := fun x y H Q => ∃ a b : Str, x = .str a ∧ y = .str b ∧ Q (.bl (f (decide (a = b)))) H
theorem dec_strV {a b : Str} : decide (V.str a = V.str b) = decide (a = b) := by
  rw [Bool.eq_iff_iff, decide_eq_true_iff, decide_eq_true_iff]
  exact ⟨fun h => V.str.inj h, fun h => by rw [h]⟩
theorem op_eqS : OpR X (compareOp .Eq) (rEqS id) := by
  intro pins s σ H x y v u Q I rx ry h
  obtain ⟨a, b, rfl, rfl, q⟩ := h
  exact op_eq pins s σ H _ _ v u Q I rx ry ⟨rfl, by rw [dec_strV]; exact q⟩
theorem op_neS : OpR X (compareOp .NotEq) (rEqS not) := by
  intro pins s σ H x y v u Q I rx ry h
  obtain ⟨a, b, rfl, rfl, q⟩ := h
  exact op_ne pins s σ H _ _ v u Q I rx ry ⟨rfl, by rw [dec_strV]; exact q⟩
end

/-- xs == [], whatever stands in xs -/
def rNil (K : PySem.W.Frag) (f : Bool → Bool) : R2 := fun x y H Q => ∃ (p q : Addr) (us : List V), x = .ref p ∧ y = .ref q ∧ SqL K H p us ∧ SqL K H q [] ∧ Q (.bl (f us.isEmpty)) H
theorem emp_len {α β : Type} {us : List α} {xs : List β} (h : us.length = xs.length) : us.isEmpty = xs.isEmpty := by cases us <;> cases xs <;> first | rfl | exact nomatch h
section
variable {X : Cx}
theorem op_eqNil (hu : X.A.units + 64 < cLine) : OpR X (compareOp .Eq) (rNil X.K id) := by
  intro pins s σ H x y v u Q I rx ry h
  obtain ⟨p, q, us, rfl, rfl, hp, hq, k⟩ := h
  cases rx
  cases ry
  obtain ⟨its, rv, pl, _⟩ := I.list hp
  obtain ⟨jts, rw', ql, _⟩ := I.list hq
  cases rw'
  have fin : ∀ b : Bool, b = us.isEmpty → EP X pins σ Q (Value.bool b) s := fun b e => ⟨.bl b, H, I, rfl, by rw [e]; exact k⟩
  cases us with
  | nil =>
    cases rv
    exact PySem.SeqAt.RcAt.lists (e := fun _ => true) pl.isList ql.isList rfl (by omega) (fun j h1 _ => absurd h1 (Nat.not_lt_zero _)) _ _ _ _ (fin _ rfl)
  | cons a us =>
    cases rv
    exact PySem.SeqAt.RcAt.lists_lengths pl.isList ql.isList (by simp) (by omega) _ _ _ _ (fin _ rfl)
theorem op_neNil (hu : X.A.units + 64 < cLine) : OpR X (compareOp .NotEq) (rNil X.K not) := by
  intro pins s σ H x y v u Q I rx ry h
  obtain ⟨p, q, us, rfl, rfl, hp, hq, k⟩ := h
  cases rx
  cases ry
  obtain ⟨its, rv, pl, _⟩ := I.list hp
  obtain ⟨jts, rw', ql, _⟩ := I.list hq
  cases rw'
  have fin : ∀ b : Bool, b = !us.isEmpty → EP X pins σ Q (Value.bool b) s := fun b e => ⟨.bl b, H, I, rfl, by rw [e]; exact k⟩
  cases us with
  | nil =>
    cases rv
    exact PySem.SeqAt.RcNeAt.lists (e := fun _ => true) pl.isList ql.isList rfl (by omega) (fun j h1 _ => absurd h1 (Nat.not_lt_zero _)) _ _ _ _ (fin _ rfl)
  | cons a us =>
    cases rv
    exact PySem.SeqAt.RcNeAt.lists_lengths pl.isList ql.isList (by simp) (by omega) _ _ _ _ (fin _ rfl)
end
/-- a tuple of the items of a list -/
def rTupL (K : PySem.W.Frag) : List V → Hp → VK → Prop := fun xs H Q => ∃ p ys, xs = [.ref p] ∧ ((SqL K H p ys ∧ ∀ l, H l = none → Q (.ref l) (upd H l (.tup ys))) ∨ (SqT K H p ys ∧ Q (.ref p) H))
theorem call_tupL {X : Cx} : CallR X (.type "tuple") (rTupL X.K) := call_tuple_of
/-! #### for i, x in enumerate(xs) -/
theorem x_nil {σ : L2.St} {H : Hp} {QA : List V → Hp → Prop} (h : QA [] H) : tNil σ H QA := h
theorem x_enum {K : PySem.W.Frag} {tA : TA} {σ : L2.St} {H : Hp} {R : It → Hp → Prop} (h : tA σ H fun vs H1 => ∃ a xs, vs = [.ref a] ∧ SqL K H1 a xs ∧ R (Ite K a) H1) : iEnum K tA σ H R := h
theorem for_enum {K : PySem.W.Frag} {g : TG} {tb : TS} {D : Ends} {σ : L2.St} {H : Hp} {α : Type} [TD α] {a : Addr} {us : List V} {xs : List α} {F : Hp} (W : Nat → List α → L2.St → Hp → Prop) (fr : Rs F us xs) (h0 : W 0 xs σ H) (hf : ∀ i ts σ H, W i ts σ H → H a = some (.lst us))
    (hs : ∀ i x ts v T σ H, R F v x → W i (x :: ts) σ H → H T = none → g (.ref T) σ (upd H T (.tup [.int (i : Int), v])) fun σ2 H2 => tb { D with nx := W (i + 1) ts, ct := W (i + 1) ts, bk := D.nx } σ2 H2) (hd : ∀ i σ H, W i [] σ H → D.nx σ H) :
    ∃ W : Nat → Nat → L2.St → Hp → Prop, (∃ m, W 0 m σ H) ∧ ∀ i m σ H, W i m σ H →
      ((Ite K a).stop i H ∧ D.nx σ H) ∨ ((Ite K a).go i H ∧ ∃ N : L2.St → Hp → Prop, (∀ σ' H', N σ' H' → ∃ m', m' < m ∧ W (i + 1) m' σ' H') ∧ ∀ x H', (Ite K a).yld i H x H' → g x σ H' fun σ2 H2 => tb { D with nx := N, ct := N, bk := D.nx } σ2 H2) := by
  have hl := Rs_len fr
  refine ⟨fun i m σ H => m = xs.length - i ∧ i ≤ xs.length ∧ W i (xs.drop i) σ H, ⟨xs.length, rfl, Nat.zero_le _, by rw [List.drop_zero]; exact h0⟩, ?_⟩
  rintro i m σ H ⟨rfl, hi, w⟩
  have q : SqL K H a us := .inl (.inl (hf _ _ _ _ w))
  by_cases hlt : i < xs.length
  · have e3 : xs[i]? = some xs[i] := List.getElem?_eq_getElem hlt
    have e4 : us[i]? = some us[i] := List.getElem?_eq_getElem (by omega)
    refine .inr ⟨⟨us, us[i], q, e4⟩, fun σ' H' => W (i + 1) (xs.drop (i + 1)) σ' H', fun σ' H' p' => ⟨xs.length - (i + 1), by omega, rfl, hlt, p'⟩, fun x H' y => ?_⟩
    obtain ⟨T, z, rfl, nT, rfl, hz⟩ := y
    have ez := hz us q
    rw [e4] at ez
    cases ez
    obtain ⟨d, e1, e2⟩ := fr.get' e4
    rw [List.getElem?_map, e3] at e1
    cases e1
    rw [drop_cons e3] at w
    exact hs i _ _ _ T σ H e2 w nT
  · have e : i = xs.length := by omega
    subst e
    rw [List.drop_length] at w
    exact .inl ⟨⟨us, q, by omega⟩, hd _ σ H w⟩
section
variable {K : PySem.W.Frag} {F H : Hp} {Q : VK} {p q : Addr} {us : List V} {b : Bool} {x y : V}
theorem eqNil_use (h : SqL K H p us) (k : SqL K H q []) (e : us.isEmpty = b) (z : Q (.bl b) H) : rNil K id (.ref p) (.ref q) H Q := ⟨_, _, _, rfl, rfl, h, k, by rw [e]; exact z⟩
theorem neNil_use (h : SqL K H p us) (k : SqL K H q []) (e : us.isEmpty = b) (z : Q (.bl (!b)) H) : rNil K not (.ref p) (.ref q) H Q := ⟨_, _, _, rfl, rfl, h, k, by rw [e]; exact z⟩
theorem eqS_use {a b : Str} (z : Q (.bl (decide (a = b))) H) : rEqS id (.str a) (.str b) H Q := ⟨_, _, rfl, rfl, z⟩
theorem neS_use {a b : Str} (z : Q (.bl (!decide (a = b))) H) : rEqS not (.str a) (.str b) H Q := ⟨_, _, rfl, rfl, z⟩
theorem eqA_use {a b : PyData} (s : Sub F H) (h : RD F x a) (k : RD F y b) (c : EqOk a b) (z : Q (.bl (PyData.eqv a b)) H) : rEqD' id x y H Q := ⟨_, _, _, s, h, k, c, z⟩
theorem neA_use {a b : PyData} (s : Sub F H) (h : RD F x a) (k : RD F y b) (c : EqOk a b) (z : Q (.bl (!PyData.eqv a b)) H) : rEqD' not x y H Q := ⟨_, _, _, s, h, k, c, z⟩
theorem geA_use {a b : PyData} (s : Sub F H) (h : RD F x a) (k : RD F y b) (c : LtOk a b) (z : Q (.bl (!PySem.W.dataLt a b)) H) : rCmpD (fun a b => !PySem.W.dataLt a b) x y H Q := ⟨_, _, _, s, h, k, c, z⟩
theorem ltA_use {a b : PyData} (s : Sub F H) (h : RD F x a) (k : RD F y b) (c : LtOk a b) (z : Q (.bl (PySem.W.dataLt a b)) H) : rCmpD (fun a b => PySem.W.dataLt a b) x y H Q := ⟨_, _, _, s, h, k, c, z⟩
end
/-! #### repr -/
def ShowOk (d : PyData) : Prop := (d.showable && decide (d.depth ≤ 60) && decide (d.shown.length ≤ 16777216)) = true
instance (d : PyData) : Decidable (ShowOk d) := inferInstanceAs (Decidable (_ = true))
theorem ShowOk.parts {d : PyData} (h : ShowOk d) : d.showable = true ∧ d.depth ≤ 60 ∧ d.shown.length ≤ 16777216 := by
  unfold ShowOk at h
  simp only [Bool.and_eq_true, decide_eq_true_eq] at h
  exact ⟨h.1.1, h.1.2, h.2⟩
section
variable {X : Cx} {pins : List (Addr × Obj)} {σ : L2.St} {H F : Hp} {s : Shared}
theorem ne_sys (I : Inv X pins σ H s) (hb : (X.base.get? sysModules).isSome = true) {a : Addr} {o : HO} (h : H a = some o) : a ≠ sysModules := fun e => by
  obtain ⟨u, hu⟩ := Option.isSome_iff_exists.mp hb
  have := (I.bs _ _ hu).2
  rw [← e, h] at this
  cases this
mutual
theorem RD.reads (I : Inv X pins σ H s) (hb : (X.base.get? sysModules).isSome = true) (sb : Sub F H) : ∀ {d : PyData} {v : V} {u : Value}, RD F v d → RelV v u → ∃ as, Reads s.heap u d as ∧ sysModules ∉ as
  | _, _, _, .non, r => by cases r; exact ⟨_, .none, by simp⟩
  | _, _, _, .bl b, r => by cases r; exact ⟨_, .bool b, by simp⟩
  | _, _, _, .int i, r => by obtain ⟨t, rfl⟩ := r; exact ⟨_, .int i t, by simp⟩
  | _, _, _, .str x, r => by obtain ⟨t, rfl⟩ := r; exact ⟨_, .str x t, by simp⟩
  | _, _, _, .lst (a := a) (us := us) h q, r => by
    cases r
    obtain ⟨_, its, n, vr, e⟩ := I.hok a _ (sb _ _ h)
    obtain ⟨as, ra, na⟩ := RDs.reads I hb sb q vr
    refine ⟨_, .list (vs := its.toArray) e rfl rfl ra, fun hm => ?_⟩
    rcases List.mem_cons.mp hm with z | z
    · exact ne_sys I hb (sb _ _ h) z.symm
    · exact na z
  | _, _, _, .tup (a := a) (us := us) h q, r => by
    cases r
    obtain ⟨_, its, vr, o, e, ec, n, ed⟩ := I.hok a _ (sb _ _ h)
    obtain ⟨as, ra, na⟩ := RDs.reads I hb sb q vr
    exact ⟨_, .tuple (vs := its.toArray) e ec ed ra, na⟩
  | _, _, _, .dic (a := a) (kvs := kvs) h q, r => by
    cases r
    obtain ⟨_, hs, vs, kv, o, es, ep, e, ex, ed, _, pr, _⟩ := I.hok a _ (sb _ _ h)
    obtain ⟨as, bs, r1, r2, n1, n2⟩ := RKs.reads I hb sb q kv pr
    refine ⟨_, .dict e ex.1 ed r1 r2, fun hm => ?_⟩
    rcases List.mem_append.mp hm with z | z
    · rcases List.mem_cons.mp z with z | z
      · exact beq_eq_false_iff_ne.mp hs z.symm
      · exact n1 z
    · exact n2 z
theorem RDs.reads (I : Inv X pins σ H s) (hb : (X.base.get? sysModules).isSome = true) (sb : Sub F H) : ∀ {ds : List PyData} {us : List V} {vs : List Value}, RDs F us ds → Vals us vs → ∃ as, ReadsAll s.heap vs ds as ∧ sysModules ∉ as
  | _, _, _, .nil, r => by cases r; exact ⟨_, .nil, by simp⟩
  | _, _, _, .cons h q, r => by
    cases r with
    | cons r1 r2 =>
      obtain ⟨as, a1, a2⟩ := RD.reads I hb sb h r1
      obtain ⟨bs, b1, b2⟩ := RDs.reads I hb sb q r2
      exact ⟨_, .cons a1 b1, fun hm => (List.mem_append.mp hm).elim a2 b2⟩
theorem RKs.reads (I : Inv X pins σ H s) (hb : (X.base.get? sysModules).isSome = true) (sb : Sub F H) : ∀ {ds : List (PyData × PyData)} {kvs : List (Key × V)} {vs : List (Key × Value)} {es : List DictEntry}, RKs F kvs ds → KV kvs vs → Pairs (mixKind X.prog X.w) es vs →
    ∃ as bs, ReadsAll s.heap (es.map (·.key)) (ds.map (·.1)) as ∧ ReadsAll s.heap (es.map (·.val)) (ds.map (·.2)) bs ∧ sysModules ∉ as ∧ sysModules ∉ bs
  | _, _, _, _, .nil, k, p => by cases k; cases p; exact ⟨_, _, .nil, .nil, by simp, by simp⟩
  | _, _, _, _, .int (i := i) h q, k, p => by
    cases k with
    | cons k1 k2 =>
      cases p with
      | cons p1 p2 p3 =>
        obtain ⟨e1, e2⟩ := k1
        rw [← e1] at p1
        have p1' : keyIs (.inl i) _ = true := p1
        rcases keyIs_shape p1' with ⟨j, t, z, ek⟩ | ⟨x, t, z, ek⟩
        · cases z
          obtain ⟨as, a1, a2⟩ := RD.reads I hb sb h e2
          obtain ⟨cs, bs, c1, c2, n1, n2⟩ := RKs.reads I hb sb q k2 p3
          exact ⟨[] ++ cs, as ++ bs, .cons (by show Reads _ (DictEntry.key _) _ _; rw [ek]; exact .int i t) c1, .cons (by show Reads _ (DictEntry.val _) _ _; rw [p2]; exact a1) c2, n1, fun hm => (List.mem_append.mp hm).elim a2 n2⟩
        · cases z
  | _, _, _, _, .str (x := x) h q, k, p => by
    cases k with
    | cons k1 k2 =>
      cases p with
      | cons p1 p2 p3 =>
        obtain ⟨e1, e2⟩ := k1
        rw [← e1] at p1
        have p1' : keyIs (.inr x) _ = true := p1
        rcases keyIs_shape p1' with ⟨j, t, z, ek⟩ | ⟨y, t, z, ek⟩
        · cases z
        · cases z
          obtain ⟨as, a1, a2⟩ := RD.reads I hb sb h e2
          obtain ⟨cs, bs, c1, c2, n1, n2⟩ := RKs.reads I hb sb q k2 p3
          exact ⟨[] ++ cs, as ++ bs, .cons (by show Reads _ (DictEntry.key _) _ _; rw [ek]; exact .str x t) c1, .cons (by show Reads _ (DictEntry.val _) _ _; rw [p2]; exact a1) c2, n1, fun hm => (List.mem_append.mp hm).elim a2 n2⟩
end
def rReprD : List V → Hp → VK → Prop := fun xs H Q => ∃ (x : V) (d : PyData) (F : Hp), xs = [x] ∧ Sub F H ∧ RD F x d ∧ ShowOk d ∧ Q (.str d.shown) H
end
theorem call_reprD {X : Cx} (hg : X.A.guards = some []) (hb : (X.base.get? sysModules).isSome = true) (hu : X.A.units + 200 < cLine) : CallR X (.builtin "repr") rReprD := by
  intro pins s σ H xs us Q I r h
  obtain ⟨x, d, F, rfl, sb, hd, ok, q⟩ := h
  obtain ⟨u, rfl, rx⟩ := vals1 r
  obtain ⟨k1, k2, k3⟩ := ok.parts
  have hz : d.shown.length ≤ sizeLine := by rw [sizeLine_eq]; exact k3
  have hd' := hd
  obtain ⟨as, ra, na⟩ := RD.reads I hb sb hd rx
  cases hd' with
  | non => cases rx; exact PySem.P.repr_of_none ⟨.str _, H, I.tok _, ⟨_, rfl⟩, q⟩
  | bl b => cases rx; exact PySem.P.repr_of_bool ⟨.str _, H, I.tok _, ⟨_, rfl⟩, q⟩
  | int i =>
    obtain ⟨t, rfl⟩ := rx
    have hi : i.natAbs.log2 < 1920 := by simpa [PyData.showable] using k1
    exact PySem.P.repr_of_int hi ⟨.str _, H, I.tok _, ⟨_, rfl⟩, q⟩
  | str x => obtain ⟨t, rfl⟩ := rx; exact PySem.P.repr_of_str ⟨.str _, H, I.tok _, ⟨_, rfl⟩, q⟩ hz
  | lst h r2 => cases rx; exact PySem.repr_of_reads' ra k1 (fun _ => na) hg (by omega) (fun _ _ e => e) (fun h' u tk kk => ⟨.str _, H, I.kept (t' := tk) kk, ⟨_, rfl⟩, q⟩) hz
  | tup h r2 => cases rx; exact PySem.repr_of_reads' ra k1 (fun _ => na) hg (by omega) (fun _ _ e => e) (fun h' u tk kk => ⟨.str _, H, I.kept (t' := tk) kk, ⟨_, rfl⟩, q⟩) hz
  | dic h r2 => cases rx; exact PySem.repr_of_reads' ra k1 (fun _ => na) hg (by omega) (fun _ _ e => e) (fun h' u tk kk => ⟨.str _, H, I.kept (t' := tk) kk, ⟨_, rfl⟩, q⟩) hz

/-! #### defs that want to know that no repr is under way, and where the table of modules stands -/
/-- as FnOk, where nothing is being shown around the call -/
structure FnOkG (P : Program) (w : World) (K : PySem.W.Frag) (mg : Str → Option Value) (base : Heap) (CX : CXT) (k : Nat) (f : Addr) (fd : FuncData) (ps : List Str) (sp : Sp) : Prop where
  len : ∀ vs H Q E, sp vs H Q E → vs.length = ps.length
  run : ∀ (A : Around) (outer : List Env) (s : Shared) (H : Hp) (args : Args) (us : List Value) (vs : List V) (Q : VK) (E : XK), A.guards = some [] → Room k A → Env0 P w K mg base A outer s H → BindsTo s fd args (ps.zip us) →
    Vals vs us → sp vs H Q E → codeAny (model P w) A (.call (.ref f) args) (CR CX outer P w H s Q E) s
section
variable {P : Program} {w : World} {K : PySem.W.Frag} {mg : Str → Option Value} {base : Heap} {CX : CXT} {k : Nat} {f : Addr} {fd : FuncData} {ps : List Str} {sp : Sp}
/-- a def of the text, by its body -/
theorem okG_of {x qual : Str} {st : Stmt} {N : List Str} (F : Fun K x qual st f fd) (S : FnScope N ps (defScope st)) (len : ∀ vs H Q E, sp vs H Q E → vs.length = ps.length)
    (hbody : ∀ (cdv : Value) (A : Around) (outer : List Env) (s : Shared) (H : Hp) (vs : List V) (Q : VK) (E : XK), A.guards = some [] → Room k (A.deeper (envOfC qual (defScope st) s.heap.objs.size f cdv)) → sp vs H Q E →
      ∃ t, PSs (cxOf CX P w K mg base N qual (defScope st) f cdv A outer s H E) (defBody st) t ∧ t { nx := fun _ H' => Q .non H', rt := Q } (start N vs) H) : FnOkG P w K mg base CX (k + 1) f fd ps sp := by
  obtain ⟨oc, od, kV, doc, pm, an, cdv, ct, osl, hfd, lk, hcd⟩ := F.ex
  subst hfd
  refine ⟨len, ?_⟩
  intro A outer s H args us vs Q E hgd hr e0 hb r hsp
  have low : ∀ b o, base.get? b = some o → s.heap.get? b = some o := fun b o e => (e0.bs b o e).1
  have KX : K.In s.heap := e0.mod.kin.keeps low
  have kinds : ∀ y ∈ ps.zip us, (defScope st).names.lookup y.1 = some .local ∨ ((defScope st).names.lookup y.1 = some .cell ∧ ((cellsFrom (s.heap.objs.size + 1) (defScope st).names []).lookup y.1).isSome = true) := by
    intro y hy
    obtain ⟨n, v⟩ := y
    cases S.par n (List.of_mem_zip hy).1 with
    | inl q => exact .inl q
    | inr q => exact .inr ⟨q, PySem.W.cellsFrom_some _ _ _ (.inl q)⟩
  refine codeAny_call_function hr.depth (KX _ _ lk) rfl S.co S.gen rfl (PySem.W.codeRec_of KX hcd) (hb _ _ _ _ (wpAny_newFunctionEnv_cells S.kind kinds fun env he s1 xx => ?_))
  subst he
  refine ⟨(e0.mod.nolimit.keeps low).keeps xx.toInCall.keep, codeAny_func ?_⟩
  obtain ⟨t, ht, hq⟩ := hbody cdv A outer s H vs Q E hgd (hr.deeper _) hsp
  refine wpAny_mono (ht.run [] s1 (start N vs) H _ (inv_start S hr.hd e0 (len _ _ _ _ hsp) r xx) hq) ?_ fun e s' hs => hs
  intro fl s' hs
  cases fl with
  | next =>
    obtain ⟨_, H', J, q⟩ := hs
    exact ⟨.non, H', J.os, J.bare, J.base, J.hok, rfl, q⟩
  | ret u =>
    obtain ⟨v, _, H', J, rv, q⟩ := hs
    exact ⟨v, H', J.os, J.bare, J.base, J.hok, rv, q⟩
  | brk => obtain ⟨_, _, _, q⟩ := hs; exact q.elim
  | cont => obtain ⟨_, _, _, q⟩ := hs; exact q.elim
end
/-- .. of a def that no exception leaves -/
theorem okG0_of {P : Program} {w : World} {K : PySem.W.Frag} {mg : Str → Option Value} {base : Heap} {k : Nat} {f : Addr} {fd : FuncData} {ps : List Str} {sp : Sp} {x qual : Str} {st : Stmt} {N : List Str} (F : Fun K x qual st f fd) (S : FnScope N ps (defScope st)) (len : ∀ vs H Q E, sp vs H Q E → vs.length = ps.length)
    (hbody : ∀ (cdv : Value) (A : Around) (outer : List Env) (s : Shared) (H : Hp) (vs : List V) (Q : VK) (E : XK), A.guards = some [] → Room k (A.deeper (envOfC qual (defScope st) s.heap.objs.size f cdv)) → sp vs H Q E →
      ∃ t, PSs (cxOf CX0 P w K mg base N qual (defScope st) f cdv A outer s H E).nox (defBody st) t ∧ t { nx := fun _ H' => Q .non H', rt := Q } (start N vs) H) : FnOkG P w K mg base CX0 (k + 1) f fd ps sp := by
  refine okG_of F S len fun cdv A outer s H vs Q E hgd hr hsp => ?_
  obtain ⟨t, h, q⟩ := hbody cdv A outer s H vs Q E hgd hr hsp
  exact ⟨t, h.nox, q⟩
section
variable {X : Cx} {k : Nat} {f : Addr} {fd : FuncData} {ps : List Str} {sp : Sp} {CX : CXT} {E : XK} {ds : List Value} {dvs : List V} {x : Str} {p pos : Pos} {e : Expr} {es : List Expr} {t : TA}
/-- a call of such a def -/
theorem pe_callG (hgd : X.A.guards = some []) (F : FnOkG X.prog X.w X.K X.mg X.base CX k f fd ps sp) (hr : Room k X.A) (hg : Gl X x) (hm : X.mg x = some (.ref f)) (hk : PySem.W.keepIn X.K (.ref f) = true) (hb : Binds X.K fd ps ds) (hd : Vals dvs ds) (hx : Passes CX X E)
    (ha : PA X (e :: es) t) (hdb : (x == ("__debug__" : Str)) = false := by decide) (he : starEach (e :: es) X.env = (false, eval e X.env) :: starEach es X.env := by rfl) (hpl : (backTo pos (starEach es X.env)).any (·.1) = false := by rfl) :
    PE X (.Call (.Name x p) (e :: es) [] pos) (tCall sp dvs E t) := by
  constructor
  intro pins s σ H Q I h
  refine wpAny_Call_Name_kw (ld_glob I hg hm (PySem.W.callWith_K (h₀ := X.base) I.ok.mod.kin hk (thn (ha.run pos pins s σ H _ I h) fun us s1 got => ?_) he hpl) hdb)
  obtain ⟨vs, H1, I1, r, q⟩ := got
  have r2 : Vals (vs ++ dvs) (us ++ ds) := r.append hd
  have hl : (us ++ ds).length = ps.length := by rw [← F.len _ _ _ _ q, r2.length]
  refine ⟨I1.kIn, wpAny_call (codeAny_mono (F.run X.A X.stack s1 H1 ⟨us, []⟩ (us ++ ds) (vs ++ dvs) Q E hgd hr I1.env0 (hb s1 us I1.kIn hl) r2 q) ?_)⟩
  intro res s' hq
  match res, hq with
  | .error e, hq => exact hx pins σ H1 s1 e s' I1 hq
  | .ok (.ret u), hq => exact I1.after hq
  | .ok .next, hq => exact hq.elim
  | .ok .brk, hq => exact hq.elim
  | .ok .cont, hq => exact hq.elim
end
/-- the law's call, where nothing is being shown -/
theorem law_callG {P : Program} {w : World} {K : PySem.W.Frag} {mg mb : Str → Option Value} {CX : CXT} {k : Nat} {fa a : Addr} {fd : FuncData} {x : Str} {sp : Sp} {s₁ : Shared} {vs : List Value} {ns : List Int}
    (KX : K.In s₁.heap) (hns : s₁.heap.Ns mainGlobals mg) (hb : s₁.heap.Ns builtinsNs mb) (hbb : ∀ x : Str, x ≠ "__name__" → mb x = bootBuiltins x) (hlim : s₁.heap.NoLimit) (hsy : ∃ m, s₁.heap.Ns sysModules m) (hg : s₁.gens = #[])
    (ha : s₁.heap.get? a = some { cls := .type "list", data := .seq vs.toArray }) (hi : IntsAre vs ns) (hl : ns.length ≤ sizeLine) (hr : Room k callerA)
    (F : ∀ base : Heap, K.In base → base.Ns mainGlobals mg → (base.get? sysModules).isSome = true → FnOkG P w K mg base CX k fa fd [x] sp) (hbind : ∀ (s : Shared) (u : Value), BindsTo s fd ⟨[u], []⟩ [(x, u)])
    (hsp : ∀ H : Hp, Only H → SqL K H a (ns.map V.int) → sp [.ref a] H (fun v _ => v = .bl true) fun _ _ _ => False)
    (hCX : ∀ H e s', CX [] H s₁ (fun _ _ _ => False) e s' → False) :
    codeAny (model P w) callerA (.call (.ref fa) ⟨[.ref a], []⟩) (fun r s' => r = .ok (.ret (.bool true)) ∧ OldK s₁.heap s'.heap ∧ s'.os = s₁.os ∧ AllBare s'.gens) s₁ := by
  have rv := vals_ints hi
  have noE : ∀ b : Addr, b ∉ ([] : List Addr) := fun b z => absurd z List.not_mem_nil
  -- H: an abstract heap in which the script alone may be tracked
  have core : ∀ H : Hp, Only H → SqL K H a (ns.map V.int) → HOk P w H s₁.heap → (∀ b, H b ≠ none → b = a ∧ K.lookup a = none) →
      codeAny (model P w) callerA (.call (.ref fa) ⟨[.ref a], []⟩) (fun r s' => r = .ok (.ret (.bool true)) ∧ OldK s₁.heap s'.heap ∧ s'.os = s₁.os ∧ AllBare s'.gens) s₁ := by
    intro H hO hS hok hA
    have free : ∀ {b : Addr} {o : Obj} {es : Array DictEntry} {ep : Nat}, s₁.heap.get? b = some o → o.data = .dict es ep → H b = none := by
      intro b o es ep e d
      cases q : H b with
      | none => rfl
      | some u =>
        have z := (hA b (by rw [q]; exact (fun z => nomatch z))).1
        rw [z, ha] at e
        cases e
        exact nomatch d
    have ns_ : ∀ {b : Addr} {m : Str → Option Value}, s₁.heap.Ns b m → (hidT s₁.heap H).Ns b m := fun {b m} h => by
      obtain ⟨o, es, ep, e, d, r⟩ := h
      exact ⟨o, es, ep, hidT_get e (free e d), d, r⟩
    have kin : K.In (hidT s₁.heap H) := by
      intro b o e
      refine hidT_get (KX b o e) ?_
      cases q : H b with
      | none => rfl
      | some u =>
        obtain ⟨z1, z2⟩ := hA b (by rw [q]; exact (fun z => nomatch z))
        rw [z1, z2] at e
        cases e
    have sys : ((hidT s₁.heap H).get? sysModules).isSome = true := by
      obtain ⟨m, hm⟩ := hsy
      obtain ⟨o, es, ep, e, _⟩ := ns_ hm
      rw [e]; rfl
    have md : Mod K mg (hidT s₁.heap H) := ⟨kin, ns_ hns, ⟨mb, ns_ hb, hbb⟩, by obtain ⟨mc, h1, h2⟩ := hlim; exact ⟨mc, ns_ h1, h2⟩⟩
    have e0 : Env0 P w K mg (hidT s₁.heap H) callerA [] s₁ H := ⟨rfl, md, fun b o e => of_hidT e, Nat.le_of_eq (hidT_size _ _), trivial, fun b z => absurd z (noE b), hok, .of_eq hg⟩
    refine codeAny_mono ((F _ kin (ns_ hns) sys).run callerA [] s₁ H ⟨[.ref a], []⟩ [.ref a] [.ref a] _ _ rfl hr e0 (hbind s₁ (.ref a)) (.cons rfl .nil) (hsp H hO hS)) ?_
    intro r s' h
    match r, h with
    | .error e, h => exact (hCX H e s' h).elim
    | .ok .next, h => exact h.elim
    | .ok .brk, h => exact h.elim
    | .ok .cont, h => exact h.elim
    | .ok (.ret u), h =>
      obtain ⟨v, H', os, bare, un, hok', r', q⟩ := h
      have q' : v = .bl true := q
      subst q'
      obtain rfl : u = Value.bool true := r'
      refine ⟨rfl, OldK.of_keep fun b o e => ?_, os, bare⟩
      cases q : H b with
      | none => exact un.keep b o e q (noE b) (noE b)
      | some u =>
        cases hO b with
        | inl z => rw [q] at z; cases z
        | inr z =>
          obtain ⟨ob, xs, z⟩ := z
          have e1 := (hok b _ z).1
          have e2 := (hok' b _ (un.frzs b ob _ z)).1
          rw [e] at e1
          cases e1
          exact e2
  cases hk : K.lookup a with
  | some o =>
    have e := KX a o hk
    rw [ha] at e
    cases e
    exact core (fun _ => none) (fun _ => .inl rfl) (.inr ⟨_, vs.toArray, _, hk, rfl, rfl, rfl, by rw [List.size_toArray, hi.length]; exact hl, by simpa using rv⟩) (fun b u z => nomatch z) fun b z => absurd rfl z
  | none =>
    have at_ : ∀ b, (if b = a then some (HO.frz { cls := .type "list", data := .seq vs.toArray } (.lst (ns.map V.int))) else none) ≠ none → b = a := fun b z => by
      by_cases q : b = a
      · exact q
      · exact absurd (if_neg q) z
    refine core (fun b => if b = a then some (.frz { cls := .type "list", data := .seq vs.toArray } (.lst (ns.map V.int))) else none) (fun b => ?_) (.inl (.inr ⟨{ cls := .type "list", data := .seq vs.toArray }, if_pos rfl⟩)) (fun b u z => ?_) fun b z => ⟨at_ b z, hk⟩
    · by_cases q : b = a
      · exact .inr ⟨_, _, if_pos q⟩
      · exact .inl (if_neg q)
    · have q := at_ b (by rw [show (if b = a then _ else none) = some u from z]; exact (fun z => nomatch z))
      subst q
      have z' := (if_pos rfl).symm.trans z
      cases z'
      exact ⟨ha, by rw [List.length_map]; exact hl, vs, _, rv, ha⟩
theorem walk_ofG {l : PySem.W.OpenLaw} {n k : Nat} {q : Program} {loose : List Str} {XP : (Str → Option Value) → Heap → Prop} {YP : World → Heap → Prop} {d : DefRec} {K : Params → PySem.W.Frag} {CX : World → CXT} {sp : World → Sp} {x : Str}
    (hn : l.most = some n) (hn2 : n ≤ sizeLine) (hdf : d.params.defaults = []) (hr : Room k callerA) (hin : importsNone q = true)
    (hY : ∀ (w : World) (h : Heap), YP w h → (K w.params).In h)
    (F : ∀ (w : World) (mg : Str → Option Value) (fa : Addr) (h : Heap), (K w.params).In h → h.Ns mainGlobals mg → mg d.name = some (.ref fa) →
      ∃ fd : FuncData, (∀ (s : Shared) (u : Value), BindsTo s fd ⟨[u], []⟩ [(x, u)]) ∧
        ∀ base : Heap, (K w.params).In base → base.Ns mainGlobals mg → (base.get? sysModules).isSome = true → FnOkG l.prog w (K w.params) mg base (CX w) k fa fd [x] (sp w))
    (hsp : ∀ (w : World) (H : Hp) (a : Addr) (ns : List Int), ns.length ≤ n → Only H → SqL (K w.params) H a (ns.map V.int) → sp w [.ref a] H (fun v _ => v = .bl true) fun _ _ _ => False)
    (hCX : ∀ (w : World) (H : Hp) (s : Shared) (e : Value) (s' : Shared), CX w [] H s (fun _ _ _ => False) e s' → False) :
    PySem.W.WalkO q loose XP YP l.row.toRowW d [] (fun f vs => PySem.call f vs) := by
  refine Att.attach_call hn hdf ?_
  intro w s₀ s₁ mg mb fa o pm cd doc a vs ns G Y ho hd hcd hmg hobj hints hlen hg
  obtain ⟨fd, hb, hF⟩ := F w mg fa _ (hY w _ Y) G.T.g hmg
  exact law_callG (hY w _ Y) G.T.g G.T.b G.T.builtins G.T.nolimit (by obtain ⟨m, hm, _⟩ := (G.T.seer hin).mods; exact ⟨m, hm⟩) hg hobj hints (Nat.le_trans hlen hn2) hr hF hb (fun H hO hS => hsp w H a ns hlen hO hS) fun H e s' => hCX w H s₁ e s'
end My

/-! ## exceptions of the text's own classes, kept as values -/
namespace My
open PySem PySem.Spec PyProof.Rows L2
inductive Er | NoBase | NoNumber | NoFigures | NoRule | NoStand | NoGood | Endless | NoRules | NoStretch | TooMany | NoText | NoName | NoRow
  deriving DecidableEq
/-- where the classes stand -/
class ErT where
  ad : Er → Addr
  lack : Addr
/-- an exception of the class at C, whatever has become of its trace -/
def EV (C a : Addr) : HO := .ext fun h => ∃ (oe : Obj) (vs : Array Value), h.get? a = some oe ∧ Zc (.ref C) none oe ∧ oe.data = .fields vs
theorem EV_ok {P : Program} {w : World} {H : Hp} {h : Heap} {C a : Addr} {oe : Obj} {vs : Array Value} (e : h.get? a = some oe) (z : Zc (.ref C) none oe) (d : oe.data = .fields vs) : ObjOk P w H h a (EV C a) :=
  ⟨⟨oe, vs, e, z, d⟩, ⟨oe, e⟩, fun _ _ ⟨o, v, q, r⟩ k => ⟨o, v, k o q, r⟩⟩
section
variable [ErT] {F N H : Hp} {v : V} {α ρ : Type}
/-- an exception, or None -/
def RX (F : Hp) (v : V) : Option Er → Prop
  | none => v = .non
  | some e => ∃ a, v = .ref a ∧ F a = some (EV (ErT.ad e) a)
theorem RX.mono {o : Option Er} (s : Sub F N) (h : RX F v o) : RX N v o := by
  cases o with
  | none => exact h
  | some e => obtain ⟨a, h1, h2⟩ := h; exact ⟨a, h1, s _ _ h2⟩
theorem RX.isN {o : Option Er} (h : RX F v o) : decide (v = .non) = o.isNone := by
  cases o with
  | none => cases (show v = .non from h); rfl
  | some e => obtain ⟨a, rfl, _⟩ := h; rfl
theorem ev_isNX {ta : TE} {σ : L2.St} {o : Option Er} (ha : Evl.Ev ta σ H v) (h : RX F v o) : Evl.Ev (tIsN ta) σ H (.bl o.isNone) := fun H1 e Q q =>
  ha H1 e _ fun H2 e2 => by
    show Q (.bl (decide (v = .non))) H2
    rw [h.isN]; exact q H2 e2
theorem ev_notNX {ta : TE} {σ : L2.St} {o : Option Er} (ha : Evl.Ev ta σ H v) (h : RX F v o) : Evl.Ev (tNotN ta) σ H (.bl (!o.isNone)) := fun H1 e Q q =>
  ha H1 e _ fun H2 e2 => by
    show Q (.bl (!decide (v = .non))) H2
    rw [h.isN]; exact q H2 e2
end
/-- what comes back, or the way out -/
def exB {α ρ : Type} (r : Except Er α) (k : α → Option ρ) (ke : Er → Option ρ) : Option ρ := match r with | .ok x => k x | .error e => ke e
theorem exB_ok {α ρ : Type} {x : α} {k : α → Option ρ} {ke : Er → Option ρ} : exB (.ok x) k ke = k x := rfl
theorem exB_err {α ρ : Type} {e : Er} {k : α → Option ρ} {ke : Er → Option ρ} : exB (.error e) k ke = ke e := rfl

/-! #### data of any kind, seen at a type -/
class UD (α : Type) [TD α] where
  un : PyData → Option α
  ok : ∀ d x, un d = some x → TD.d x = d
instance : UD Int := ⟨asInt, fun d x e => by cases d <;> first | (cases e; rfl) | cases e⟩
instance : UD Bool := ⟨asBl, fun d x e => by cases d <;> first | (cases e; rfl) | cases e⟩
instance : UD Str := ⟨asStr, fun d x e => by cases d <;> first | (cases e; rfl) | cases e⟩
instance : UD PyData := ⟨some, fun d x e => by cases e; rfl⟩
def unAll {α : Type} [TD α] [UD α] : List PyData → Option (List α)
  | [] => some []
  | d :: ds => (UD.un d).bind fun x => (unAll ds).bind fun xs => some (x :: xs)
theorem unAll_ok {α : Type} [TD α] [UD α] : ∀ (ds : List PyData) (xs : List α), unAll ds = some xs → xs.map TD.d = ds
  | [], xs, e => by cases e; rfl
  | d :: ds, xs, e => by
    obtain ⟨x, hx, e⟩ := Option.bind_eq_some_iff.mp e
    obtain ⟨ys, hy, e⟩ := Option.bind_eq_some_iff.mp e
    cases e
    rw [List.map_cons, UD.ok d x hx, unAll_ok ds ys hy]
instance {α : Type} [TD α] [UD α] : UD (List α) := ⟨fun d => match d with | .list ds => unAll ds | _ => none, fun d xs e => by
  cases d with
  | list ds => exact congrArg PyData.list (unAll_ok ds xs e)
  | _ => cases e⟩
instance {α β : Type} [TD α] [UD α] [TD β] [UD β] : UD (α × β) := ⟨fun d => match d with | .tuple [a, b] => (UD.un a).bind fun x => (UD.un b).bind fun y => some (x, y) | _ => none, fun d p e => by
  match d, e with
  | .tuple [a, b], e =>
    obtain ⟨x, hx, e⟩ := Option.bind_eq_some_iff.mp e
    obtain ⟨y, hy, e⟩ := Option.bind_eq_some_iff.mp e
    cases e
    show PyData.tuple [TD.d x, TD.d y] = _
    rw [UD.ok a x hx, UD.ok b y hy]⟩
theorem un_of {α : Type} [TD α] [UD α] {F : Hp} {v : V} {d : PyData} {x : α} (h : RD F v d) (e : UD.un d = some x) : R F v x := by
  show RD F v (TD.d x)
  rw [UD.ok d x e]; exact h
/-! #### what the text says of a class -/
abbrev veT : List Value := [.type "ValueError", .type "Exception", .type "BaseException", .type "object"]
/-- made and raised -/
structure ErRaise (K : PySem.W.Frag) (mg : Str → Option Value) (n : Str) (C : Addr) : Prop where
  g : mg n = some (.ref C)
  x : PySem.W.excIn K C veT "ValueError.__new__" = true
  k : PySem.W.keepIn K (.ref C) = true
  b : PySem.W.subIn K (.ref C) (.type "BaseException") = some true
  t : PySem.W.typeIn K (.ref C) = some (.type "type")
def ers : List Er := [.NoBase, .NoNumber, .NoFigures, .NoRule, .NoStand, .NoGood, .Endless, .NoRules, .NoStretch, .TooMany, .NoText, .NoName, .NoRow]
def adOf (a1 a2 a3 a4 a5 a6 a7 a8 a9 a10 a11 a12 a13 : Addr) : Er → Addr
  | .NoBase => a1 | .NoNumber => a2 | .NoFigures => a3 | .NoRule => a4 | .NoStand => a5 | .NoGood => a6 | .Endless => a7
  | .NoRules => a8 | .NoStretch => a9 | .TooMany => a10 | .NoText => a11 | .NoName => a12 | .NoRow => a13
theorem mem_ers (e : Er) : e ∈ ers := by cases e <;> decide
@[reducible] def Er.nm : Er → Str
  | .NoBase => "NoBase" | .NoNumber => "NoNumber" | .NoFigures => "NoFigures" | .NoRule => "NoRule" | .NoStand => "NoStand" | .NoGood => "NoGood" | .Endless => "Endless"
  | .NoRules => "NoRules" | .NoStretch => "NoStretch" | .TooMany => "TooMany" | .NoText => "NoText" | .NoName => "NoName" | .NoRow => "NoRow"
/-- what is asked of the written part, class by class -/
def erB (K : PySem.W.Frag) (L C : Addr) : Bool :=
  PySem.W.excIn K C veT "ValueError.__new__" && (PySem.W.keepIn K (.ref C) && (PySem.W.subIn K (.ref C) (.type "BaseException") == some true && (PySem.W.typeIn K (.ref C) == some (.type "type") &&
  (PySem.W.findIn K (.ref C) "__getattribute__" == some (some (.builtin "BaseException.__getattribute__")) && (PySem.W.findIn K (.ref C) "__getattr__" == some none && (PySem.W.hasDictIn K C &&
  (PySem.W.findIn K (.ref C) "__class__" == some (some (.builtin "object.__class__")) && (PySem.W.mroIn K C (.type "object") == some true && (PySem.W.exmOne K (.ref C) (.ref L) == some true &&
  (PySem.W.kitOne K (.type "NoneType") (.ref C) == some false && PySem.W.kitOne K (.ref C) (.type "ValueError") == some true))))))))))
def erAllB [ErT] (K : PySem.W.Frag) : Bool :=
  ers.all (fun e => erB K ErT.lack (ErT.ad e) && ers.all fun f => PySem.W.kitOne K (.ref (ErT.ad e)) (.ref (ErT.ad f)) == some (decide (e = f))) &&
  (PySem.W.specialIn K (.builtin "object.__class__") "__get__" == some (some (.builtin "getset_descriptor.__get__")) && (PySem.W.takesIn K (.builtin "object.__class__") == some true && PySem.W.kitOne K (.type "NoneType") (.type "ValueError") == some false))
/-- what the text says of all its exceptions -/
structure ErTxt [ErT] (K : PySem.W.Frag) (mg : Str → Option Value) : Prop where
  r : ∀ e : Er, ErRaise K mg e.nm (ErT.ad e)
  lg : mg "LackError" = some (.ref ErT.lack)
  c : ∀ e : Er, ExcC K (ErT.ad e)
  m : ∀ e : Er, PySem.W.exmOne K (.ref (ErT.ad e)) (.ref ErT.lack) = some true
  kit : ∀ e f : Er, PySem.W.kitOne K (.ref (ErT.ad e)) (.ref (ErT.ad f)) = some (decide (e = f))
  non : ∀ f : Er, PySem.W.kitOne K (.type "NoneType") (.ref (ErT.ad f)) = some false
  ve : ∀ e : Er, PySem.W.kitOne K (.ref (ErT.ad e)) (.type "ValueError") = some true
  nv : PySem.W.kitOne K (.type "NoneType") (.type "ValueError") = some false
theorem erTxt_mk [ErT] {K : PySem.W.Frag} {mg : Str → Option Value} (b : erAllB K = true) (g : ∀ e : Er, mg e.nm = some (.ref (ErT.ad e))) (lg : mg "LackError" = some (.ref ErT.lack)) : ErTxt K mg := by
  unfold erAllB at b
  simp only [Bool.and_eq_true, beq_iff_eq] at b
  obtain ⟨b1, b2, b3, b4⟩ := b
  have b1 := fun e => List.all_eq_true.mp b1 e (mem_ers e)
  simp only [Bool.and_eq_true] at b1
  have h := fun e => (b1 e).1
  unfold erB at h
  simp only [Bool.and_eq_true, beq_iff_eq] at h
  exact ⟨fun e => ⟨g e, (h e).1, (h e).2.1, (h e).2.2.1, (h e).2.2.2.1⟩, lg, fun e => ⟨(h e).2.2.2.2.1, (h e).2.2.2.2.2.1, (h e).2.2.1, (h e).2.2.2.2.2.2.1, (h e).2.2.2.2.2.2.2.1, b2, b3, (h e).2.2.2.2.2.2.2.2.1⟩,
    fun e => (h e).2.2.2.2.2.2.2.2.2.1, fun e f => by
      have := List.all_eq_true.mp (b1 e).2 f (mem_ers f)
      exact beq_iff_eq.mp this, fun f => (h f).2.2.2.2.2.2.2.2.2.2.1, fun e => (h e).2.2.2.2.2.2.2.2.2.2.2, b4⟩
section
variable {X : Cx}
theorem ps_raiseE {W : WX} {x m : Str} {C : Addr} {j : Nat} {p p2 p3 pos : Pos} (hc : X.calm = true) (tk : Takes X W) (T : ErRaise X.K X.mg x C) (hg : Gl X x) (hdb : (x == ("__debug__" : Str)) = false := by decide) :
    PS X (.Raise (some (.Call (.Name x p) [.Constant (.str m) j p2] [] p3)) none pos) (fun _ σ H => W (.ref C) none σ H) :=
  ps_raise hc tk (pmk_own PySem.F.excBase_ValueError T.x T.g T.k (raises_own T.b T.t) hg hdb)
theorem takesN : Takes X (fun _ _ _ _ => False) := fun _ _ x => by
  obtain ⟨_, _, _, _, _, _, _, _, _, _, _, _, _, _, _, _, z⟩ := x
  exact z.elim
end

/-! #### a try whose except suite keeps what was raised -/
section
variable {X : Cx} {pins : List (Addr × Obj)} {σ : L2.St} {H : Hp} {sI s s' : Shared} {B : Heap}
/-- on the ground, the exception tracked from here on -/
theorem landedX (I : Inv X pins σ H sI) (nb : ∀ b o, sI.heap.get? b = some o → b ∉ frs X.stack → B.get? b = some o) (st : B.StaysIn s'.heap) (up : sI.heap.UpToSlots s'.heap) (os : s'.os = sI.os) (ag : AllBare s'.gens)
    {a C : Addr} {oe : Obj} {vs : Array Value} (hB : B.get? a = none) (nf : a ∉ frs X.stack) (na : H a = none) (he : s'.heap.get? a = some oe) (hz : Zc (.ref C) none oe) (hd : oe.data = .fields vs) : Inv X pins σ (upd H a (EV C a)) s' := by
  have hI : ∀ b o, sI.heap.get? b = some o → b ≠ a := fun b o e z => by
    subst z
    have := nb b o e nf
    rw [hB] at this; cases this
  have nF : ∀ b ∈ frs X.stack, ∀ o, sI.heap.get? b = some o → ∃ sl, s'.heap.get? b = some { o with slots := sl } := fun b hb o e => by
    obtain ⟨_, o', e', hdd⟩ := I.stack.mem hb
    rw [e] at e'; cases e'
    exact up b o e hdd
  have J := I.call (ch := []) (h' := s'.heap) (g' := s'.gens) (t' := s'.toks) (d' := s'.drawn) (H' := upd H a (EV C a))
    ⟨fun b o e _ hb _ => st b o (nb b o e hb), fun b o e _ hb _ => nF b hb o e, fun b o e n _ => by rw [upd_ne (hI b o e)]; exact n, fun b o e _ => by
      by_cases hb : b ∈ frs X.stack
      · obtain ⟨sl, q⟩ := nF b hb o e
        exact ⟨_, q⟩
      · exact ⟨o, st b o (nb b o e hb)⟩, fun b xs e => by rw [upd_ne (ne_of_none e na)]; exact e, fun b o u e => by rw [upd_ne (ne_of_none e na)]; exact e, fun b ps e => ⟨#[], by rw [upd_ne (ne_of_none e na), e]; simp⟩⟩
    (HOk.laidN (I.inGround nb) st na (EV_ok he hz hd)) ag (fun _ z => nomatch z)
  obtain ⟨a1, a2, a3, a4, a5⟩ := s'
  have e5 : a5 = sI.os := os
  subst e5
  exact J
theorem toSuite (I : Inv X pins σ H s) (a : Addr) : Inv (X.suite a (X.pn ++ pins)) [] σ H s :=
  ⟨I.ok.suite _ _, I.os, I.bare, I.base, I.loc, I.cell, I.free, I.freeC, fun p hp => I.pin p (by rw [List.append_nil] at hp; exact hp), I.hok, I.len⟩
theorem ofSuite {a : Addr} {pn' : List (Addr × Obj)} (I : Inv (X.suite a (X.pn ++ pins)) pn' σ H s) (ok : X.Ok) : Inv X pins σ H s :=
  ⟨ok, I.os, I.bare, I.base, I.loc, I.cell, I.free, I.freeC, fun p hp => I.pin p (List.mem_append_left _ hp), I.hok, I.len⟩
end
/-- the wish of such a clause: any exception of the text that L takes in -/
def wKeep (K : PySem.W.Frag) (L : Value) (i : Nat) (ts : TS) (D : Ends) : WX := fun cls d σ H =>
  ∃ C, cls = .ref C ∧ d = none ∧ PySem.W.exmOne K cls L = some true ∧
    ∀ a, H a = none → ts { nx := fun σ' H' => D.nx (σ'.set i none) H', rt := D.rt, bk := fun σ' H' => D.bk (σ'.set i none) H', ct := fun σ' H' => D.ct (σ'.set i none) H' } (σ.set i (some (.ref a))) (upd H a (EV C a))
section
variable {X : Cx} {x n : Str} {L : Value} {i : Nat} {body suite : List Stmt} {b₀ : Stmt} {np pos pos' : Pos} {tb : WX → TS} {ts : TS}
theorem ps_try_keep (hs : X.stack = X.env :: X.outer) (hf : X.env.frame = some X.env.locals) (hN : X.N.Nodup) (hi : X.N[i]? = some n) (hln : X.env.kindOf n = some .local) (hc : Names X x L)
    (hb : ∀ (W : WX) (pn : List (Addr × Obj)) (xe : Value → Shared → Prop), Takes (X.tr pn xe) W → PassesOwn (model X.prog X.w) X.A X.env xe → PSs (X.tr pn xe) body (tb W))
    (hsu : ∀ (a : Addr) (pn : List (Addr × Obj)), PSs (X.suite a pn) (b₀ :: suite) ts) :
    PS X (.Try body [.ExceptHandler (some (.Name x np)) (some n) (b₀ :: suite) pos'] [] [] pos) (fun D σ H => tb (wKeep X.K L i ts D) D σ H) := by
  constructor
  intro pins s σ H D I h
  have ok := I.ok
  have hfr : X.A.frames = some (X.env :: X.outer) := by rw [ok.frames, hs]
  refine wpAny_Try_except (wpAny_mono ((hb (wKeep X.K L i ts D) (X.pn ++ pins) _ (fun u s' raised => ?_) PassesOwn.looking).run [] s σ H D (I.toTry _) h) (fun f s1 hsp => ?_) (fun e s1 he => he))
  · obtain ⟨a, B, sI, pins', σ', H', cls, d, rfl, J', nb, up, sky, na, os, ag, C, rfl, rfl, hm, hyes⟩ := raised
    have J : Inv X pins σ' H' sI := J'.ofTry ok
    have sky' : Sky B (X.env :: X.outer) a (Zc (.ref C) none) X.env.locals s'.heap := by rw [← hs]; exact sky
    show wpAny (model X.prog X.w) X.A (noteFrame (.ref a) X.env) _ _ _
    refine Sky.land Zc.steady hfr hf sky' fun h3 fl3 up3 => ?_
    have J3 : Inv X pins σ' H' { s' with heap := h3 } := J.landed nb fl3.1 (up.trans up3) os ag
    obtain ⟨oe3, vs3, he3, hz3, hd3⟩ := fl3.there
    have nfr : a ∉ frs X.stack := fun hmem => by
      rw [hs] at hmem
      obtain ⟨_, o', e', hnf⟩ := fl3.2.2.1.mem hmem
      rw [he3] at e'; cases e'
      exact hnf _ hd3
    have S3 : Inv (X.suite a (X.pn ++ pins)) [] σ' H' { s' with heap := h3 } := toSuite J3 a
    refine wpAny_handleBy_cons (codeAny_handlers_test ?_) (by intro q; cases q)
    have LT : PySem.W.Looks (model X.prog X.w) h3 (typeOf (.ref a)) (.ref C) := fun A Q E s k q => wpAny_typeOf_ref (k _ _ he3) (by rw [hz3.1]; exact q)
    have LM := PySem.W.exm_one (M := model X.prog X.w) (J3.kIn) LT hm
    have test : ∀ {Q : Value → Shared → Prop} {E : Value → Shared → Prop}, Q L { s' with heap := h3 } → wpAny (model X.prog X.w) (X.A.mark (some (.ref a))) (eval (.Name x np) X.env) Q E { s' with heap := h3 } := fun {Q E} q => by
      obtain ⟨hg, hdbg, hm | ⟨hm, hv, hnn⟩⟩ := hc
      · exact ld_glob (X := X.suite a (X.pn ++ pins)) S3 hg hm q hdbg
      · exact ld_blt (X := X.suite a (X.pn ++ pins)) S3 hg hm hv q hnn hdbg
    refine test (LM.here ?_)
    refine codeAny_handlers_suite_as ?_
    refine HandSPX.lands_againZ fl3 fun h4 fl4 up4 => ?_
    obtain ⟨oe4, vs4, he4, hz4, hd4⟩ := fl4.there
    have J4 : Inv X pins σ' (upd H' a (EV C a)) { s' with heap := h4 }   := landedX (s' := { s' with heap := h4 }) J nb fl4.1 ((up.trans up3).trans up4) os ag fl4.2.1 nfr na he4 hz4 hd4
    refine store_ok (X := X.suite a (X.pn ++ pins)) (v := .ref a) (toSuite J4 a) hN hi (.inl hln) rfl (fun s5 S5 => ?_) (.inr hln)
    refine wpAny_mono ((hsu a (X.pn ++ pins)).run [] s5 _ _ _ S5 (hyes a na)) (fun f s6 hsp => ?_) (fun _ _ z => False.elim z)
    have fin : ∀ {σ6 : L2.St} {H6 : Hp} {Q : Shared → Prop}, Inv (X.suite a (X.pn ++ pins)) [] σ6 H6 s6 → (∀ s7, Inv X pins (σ6.set i none) H6 s7 → Q s7) →
        wpAny (model X.prog X.w) X.A (do bindName X.env n .none; unbindBehindTheSuite X.env n pos') (fun _ s7 => Q s7) X.xe s6 := fun {σ6 H6 Q} S6 hq => gone_ok (ofSuite S6 ok) hN hi hln hq
    match f, hsp with
    | .next, ⟨_, _, S6, q6⟩ => exact fin S6 fun s7 J7 => ⟨_, _, J7, q6⟩
    | .brk, ⟨_, _, S6, q6⟩ => exact fin S6 fun s7 J7 => ⟨_, _, J7, q6⟩
    | .cont, ⟨_, _, S6, q6⟩ => exact fin S6 fun s7 J7 => ⟨_, _, J7, q6⟩
    | .ret _, ⟨_, _, _, S6, r6, q6⟩ => exact fin S6 fun s7 J7 => ⟨_, _, _, J7, r6, q6⟩
  · match f, hsp with
    | .next, ⟨σ', H', J', q⟩ => exact wpAny_execs_nil ⟨σ', H', J'.ofTry ok, q⟩
    | .brk, ⟨σ', H', J', q⟩ => exact ⟨σ', H', J'.ofTry ok, q⟩
    | .cont, ⟨σ', H', J', q⟩ => exact ⟨σ', H', J'.ofTry ok, q⟩
    | .ret _, ⟨v, σ', H', J', r, q⟩ => exact ⟨v, σ', H', J'.ofTry ok, r, q⟩
end

/-! #### isinstance of what was kept -/
section
variable [ErT] {X : Cx}
/-- isinstance(x, c): x an exception kept, or None -/
def rIsX (K : PySem.W.Frag) : List V → Hp → VK → Prop := fun xs H Q => ∃ (F : Hp) (x c : V) (u : Value) (o : Option Er) (f : Er → Bool), xs = [x, c] ∧ ClsV c u ∧ Sub F H ∧ RX F x o ∧
  PySem.W.kitOne K (.type "NoneType") u = some false ∧ (∀ e, ExcC K (ErT.ad e) ∧ PySem.W.kitOne K (.ref (ErT.ad e)) u = some (f e)) ∧ Q (.bl (match o with | none => false | some e => f e)) H
theorem call_isX : CallR X (.builtin "isinstance") (rIsX X.K) := by
  intro pins s σ H xs us Q I r h
  obtain ⟨F, x, c, u, o, f, rfl, hc, sb, hx, kn, ke, q⟩ := h
  cases o with
  | none =>
    cases (show x = .non from hx)
    exact call_isi pins s σ H _ us Q I r ⟨_, _, _, _, _, rfl, hc, TyX.base .non, kn, q⟩
  | some e =>
    obtain ⟨a, rfl, ha⟩ := hx
    obtain ⟨kc, kf⟩ := ke e
    cases r with
    | cons rx rr =>
      cases rr with
      | cons rt rr =>
        cases rr
        cases rx
        have ec := hc.eq rt
        subst ec
        obtain ⟨⟨oe, vs, hget, hz, hv⟩, _, _⟩ := I.hok a _ (sb _ _ ha)
        have J : PySem.W.InstAt s.heap a oe (ErT.ad e) none := by
          obtain ⟨oc, od, oda, osl⟩ := oe
          obtain ⟨h1, h2⟩ := hz
          dsimp only at h1 h2 hv
          subst h1 h2 hv
          exact ⟨hget, rfl, rfl, trivial⟩
        exact PySem.W.kia_one (PySem.W.handS_kitx_exc kc.hg kc.hk kc.hs kc.hd kc.ha kc.hn kc.ht kc.hm) I.kIn J kf (fun z => nomatch z) fun tk => ⟨.bl (f e), H, I.kept (t' := tk) fun _ _ z => z, rfl, q⟩
end
/-! #### steps -/
theorem x_callS {σ : L2.St} {H : Hp} {Q : VK} {tA : TA} {sp : Sp} {E : L2.St → XK} (h : tA σ H fun vs H1 => sp vs H1 Q (E σ)) : tCallS sp E tA σ H Q := h
section
variable [ErT] {K : PySem.W.Frag} {mg : Str → Option Value}
theorem x_keep {i : Nat} {ts : TS} {D : Ends} {σ : L2.St} {H : Hp} {e : Er} (T : ErTxt K mg)
    (h : ∀ a, H a = none → ts { nx := fun σ' H' => D.nx (σ'.set i none) H', rt := D.rt, bk := fun σ' H' => D.bk (σ'.set i none) H', ct := fun σ' H' => D.ct (σ'.set i none) H' } (σ.set i (some (.ref a))) (upd H a (EV (ErT.ad e) a))) :
    WE (wKeep K (.ref ErT.lack) i ts D) σ (.ref (ErT.ad e)) none H := ⟨_, rfl, rfl, T.m e, h⟩
theorem x_stE {t : TS} {D : Ends} {σ σ' : L2.St} {H : Hp} (e : σ = σ') (h : t D σ' H) : t D σ H := by rw [e]; exact h
theorem x_nxS {D : Ends} {i : Nat} {σ σ' : L2.St} {H : Hp} (e : σ.set i none = σ') (h : D.nx σ' H) : ({ nx := fun σ' H' => D.nx (σ'.set i none) H', rt := D.rt, bk := fun σ' H' => D.bk (σ'.set i none) H', ct := fun σ' H' => D.ct (σ'.set i none) H' } : Ends).nx σ H := by
  show D.nx (σ.set i none) H
  rw [e]; exact h
theorem x_nxE {σ σ' : L2.St} {H : Hp} {P : L2.St → Hp → Prop} (e : σ = σ') (h : P σ' H) : P σ H := by rw [e]; exact h
theorem isiX_er {F H : Hp} {v : V} {o : Option Er} {Q : VK} (T : ErTxt K mg) (s : Sub F H) (h : RX F v o) (f : Er) (q : Q (.bl (decide (o = some f))) H) : rIsX K [v, .ref (ErT.ad f)] H Q :=
  ⟨F, v, _, _, o, fun e => decide (e = f), rfl, ClsV.own _, s, h, T.non f, fun e => ⟨T.c e, T.kit e f⟩, by
    cases o with
    | none => exact q
    | some e =>
      have : decide (some e = some f) = decide (e = f) := decide_eq_decide.mpr Option.some_inj
      rw [this] at q; exact q⟩
theorem isiX_ve {F H : Hp} {v : V} {o : Option Er} {Q : VK} (T : ErTxt K mg) (s : Sub F H) (h : RX F v o) (q : Q (.bl o.isSome) H) : rIsX K [v, .ty "ValueError"] H Q :=
  ⟨F, v, _, _, o, fun _ => true, rfl, ClsV.ty _, s, h, T.nv, fun e => ⟨T.c e, T.ve e⟩, by cases o <;> exact q⟩
theorem RX_none {F : Hp} : RX F .non none := rfl
end

/-! #### dict([(k, v), ..]) of ints -/
def putI (kvs : List (Int × Int)) (k v : Int) : List (Int × Int) :=
  if (kvs.any fun p => decide (p.1 = k)) = true then kvs.map (fun p => if p.1 = k then (p.1, v) else p) else kvs ++ [(k, v)]
def mergeI (kvs more : List (Int × Int)) : List (Int × Int) := more.foldl (fun acc p => putI acc p.1 p.2) kvs
def kvI (p : Int × Int) : Key × V := (.inl p.1, .int p.2)
theorem putK_kvI (kvs : List (Int × Int)) (k v : Int) : putK (kvs.map kvI) (.inl k) (.int v) = (putI kvs k v).map kvI := by
  have e : ((kvs.map kvI).any fun kv => decide (kv.1 = (.inl k : Key))) = kvs.any fun p => decide (p.1 = k) := by
    rw [List.any_map]
    refine congrArg (fun f => kvs.any f) (funext fun p => ?_)
    exact decide_eq_decide.mpr ⟨fun h => Sum.inl.inj h, fun h => congrArg Sum.inl h⟩
  unfold putK putI
  rw [e]
  by_cases h : (kvs.any fun p => decide (p.1 = k)) = true
  · rw [if_pos h, if_pos h, List.map_map, List.map_map]
    refine List.map_congr_left fun p _ => ?_
    by_cases hk : p.1 = k
    · show (if (Sum.inl p.1 : Key) = .inl k then ((Sum.inl p.1 : Key), V.int v) else kvI p) = kvI (if p.1 = k then (p.1, v) else p)
      rw [if_pos hk, if_pos (congrArg Sum.inl hk)]; rfl
    · show (if (Sum.inl p.1 : Key) = .inl k then ((Sum.inl p.1 : Key), V.int v) else kvI p) = kvI (if p.1 = k then (p.1, v) else p)
      rw [if_neg hk, if_neg fun e => hk (Sum.inl.inj e)]
  · rw [if_neg h, if_neg h, List.map_append]; rfl
theorem mergeK_kvI : ∀ (more kvs : List (Int × Int)), mergeK (kvs.map kvI) (more.map kvI) = (mergeI kvs more).map kvI
  | [], _ => rfl
  | p :: more, kvs => by
    show mergeK (putK (kvs.map kvI) (.inl p.1) (.int p.2)) (more.map kvI) = (mergeI (putI kvs p.1 p.2) more).map kvI
    rw [putK_kvI, mergeK_kvI more]
theorem mergeK_nil (xs : List (Int × Int)) : mergeK [] (xs.map kvI) = (mergeI [] xs).map kvI := mergeK_kvI xs []
def dictII (xs : List (Int × Int)) : PyData := .dict ((mergeI [] xs).map fun p => (.int p.1, .int p.2))
theorem RKs_kvI {F : Hp} : ∀ kvs : List (Int × Int), RKs F (kvs.map kvI) (kvs.map fun p => (PyData.int p.1, PyData.int p.2))
  | [] => .nil
  | p :: kvs => .int (.int _) (RKs_kvI kvs)
theorem pairs_of {K : PySem.W.Frag} {F H : Hp} (s : Sub F H) : ∀ {us : List V} {xs : List (Int × Int)}, Rs F us xs → ∃ ps : List Addr, us = ps.map V.ref ∧ Paired (fun p kv => SqT K H p [kV kv.1, kv.2]) ps (xs.map kvI)
  | _, [], r => by cases r; exact ⟨[], rfl, .nil⟩
  | _, x :: xs, r => by
    cases r with
    | cons h r =>
      obtain ⟨ps, rfl, hp⟩ := pairs_of (K := K) s (xs := xs) r
      obtain ⟨a, v1, v2, rfl, fa, d1, d2⟩ := tup2_of (α := Int) (β := Int) h
      obtain rfl := int_of d1
      obtain rfl := int_of d2
      exact ⟨a :: ps, rfl, .cons (.inl (.inl (s _ _ fa))) hp⟩
theorem dictII_of {K : PySem.W.Frag} {F H : Hp} {a : Addr} {us : List V} {xs : List (Int × Int)} {Q : VK} (h : H a = some (.lst us)) (s : Sub F H) (r : Rs F us xs) (q : ∀ p, H p = none → Q (.ref p) (upd H p (.dK ((mergeI [] xs).map kvI)))) :
    ∃ (a' : Addr) (ps : List Addr) (kvs : List (Key × V)), [V.ref a] = [.ref a'] ∧ SqL K H a' (ps.map V.ref) ∧ Paired (fun p kv => SqT K H p [kV kv.1, kv.2]) ps kvs ∧ ∀ p, H p = none → Q (.ref p) (upd H p (.dK (mergeK [] kvs))) := by
  obtain ⟨ps, rfl, hp⟩ := pairs_of (K := K) s r
  exact ⟨a, ps, xs.map kvI, rfl, .inl (.inl h), hp, fun p hn => by
    have e : mergeK [] (xs.map kvI) = (mergeI [] xs).map kvI := mergeK_kvI xs []
    rw [e]; exact q p hn⟩
end My

/-! ## texts -/
namespace My
open PySem PySem.Spec PyProof.Rows L2
/-- a constant of the module, a text -/
structure CAtS (mg : Str → Option Value) (nm : Str) (x : Str) where
  t : Tok
  g : mg nm = some (.str x t)
theorem strs_of {F : Hp} : ∀ {us : List V} {xs : List Str}, Rs F us xs → us = xs.map V.str
  | _, [], r => by cases r; rfl
  | _, x :: xs, r => by cases r with | cons h r => cases h; rw [strs_of r]; rfl
theorem x_m1 {to te : TE} {σ : L2.St} {H : Hp} {Q : VK} {r : V → List V → Hp → VK → Prop} (h : to σ H fun x H1 => (∃ a, x = .str a) ∧ te σ H1 fun y H2 => r x [y] H2 Q) : tM1 r to te σ H Q := h
theorem join_of {K : PySem.W.Frag} {H F : Hp} {a : Str} {p : Addr} {us : List V} {ys : List Str} {Q : VK} (h : H p = some (.lst us)) (r : Rs F us ys) (c : (ys.map (·.length)).sum + ys.length * a.length ≤ 16777216) (q : Q (.str (Txt.join a ys)) H) :
    ∃ a' p', ∃ ys : List Str, V.str a = .str a' ∧ [V.ref p] = [.ref p'] ∧ (SqL K H p' (ys.map V.str) ∨ SqT K H p' (ys.map V.str)) ∧ (ys.map (·.length)).sum + ys.length * a'.length ≤ 16777216 ∧ Q (.str (Txt.join a' ys)) H :=
  ⟨a, p, ys, rfl, rfl, .inl (.inl (.inl (by rw [← strs_of r]; exact h))), c, q⟩
theorem join_at {H F : Hp} {p : Addr} {us : List V} {ys : List Str} (h : H p = some (.lst us)) (r : Rs F us ys) : H p = some (.lst (ys.map V.str)) := by rw [← strs_of r]; exact h
theorem ixS_of {z : Str} {i : Int} {c : Nat} {H : Hp} {Q : VK} (hz : z.length ≤ 16777216) (h : atI z.cps.toList i = some c) (q : Q (.str ⟨#[c]⟩) H) : rIxS (.str z) (.int i) H Q :=
  ⟨z, i, c, rfl, rfl, by rw [sizeLine_eq]; exact hz, h, q⟩

/-! #### a text, sign by sign -/
theorem x_iterS {te : TE} {σ : L2.St} {H : Hp} {R : It → Hp → Prop} (h : te σ H fun v H1 => ∃ x, v = .str x ∧ R (Its x) H1) : iStr te σ H R := h
section
variable {g : TG} {tt : TT} {te : TE} {vs : List Nat} {σ : L2.St} {H1 : Hp} {Dl : Addr} {Qd : Hp → Prop}
theorem lc_str {z : Str} (W : List Nat → Hp → Prop) (h0 : W z.cps.toList (upd H1 Dl (.lst [])))
    (hs : ∀ c ts H, W (c :: ts) H → g (.str ⟨#[c]⟩) (wipe σ vs) H fun σ2 H2 => wipe σ2 vs = wipe σ vs ∧ tt σ2 H2 fun b H3 =>
        if b = true then te σ2 H3 fun y H4 => ∃ acc, H4 Dl = some (HO.lst acc) ∧ acc.length < sizeLine ∧ W ts (upd H4 Dl (HO.lst (acc ++ [y]))) else W ts H3) (hd : ∀ H, W [] H → Qd H) :
    ∃ W : Nat → Nat → Hp → Prop, (∃ m, W 0 m (upd H1 Dl (HO.lst []))) ∧ ∀ (i m : Nat) (H : Hp), W i m H → (Its z).stop i H ∧ Qd H ∨
      (Its z).go i H ∧ ∃ Nx : Hp → Prop, (∀ (H' : Hp), Nx H' → ∃ m', m' < m ∧ W (i + 1) m' H') ∧ ∀ (x : V) (H' : Hp), (Its z).yld i H x H' →
        g x (wipe σ vs) H' fun σ2 H2 => wipe σ2 vs = wipe σ vs ∧ tt σ2 H2 fun b H3 => if b = true then te σ2 H3 fun y H4 => ∃ acc, H4 Dl = some (HO.lst acc) ∧ acc.length < sizeLine ∧ Nx (upd H4 Dl (HO.lst (acc ++ [y]))) else Nx H3 := by
  refine lc_it walk_str (fun i H => W (z.cps.toList.drop i) H) (by rw [List.drop_zero]; exact h0) (fun _ _ _ _ => trivial) (fun i x H H' hi h y => ?_) fun H h => ?_
  · obtain ⟨rfl, c, hc, rfl⟩ := y
    have e3 : z.cps.toList[i]? = some c := by rw [Array.getElem?_toList]; exact hc
    have h' : W (z.cps.toList.drop i) H' := h
    rw [drop_cons e3] at h'
    exact hs _ _ _ h'
  · have h' : W (z.cps.toList.drop z.cps.size) H := h
    rw [← Array.length_toList, List.drop_length] at h'
    exact hd H h'
end
theorem strs_Rs {F : Hp} : ∀ ys : List Str, Rs F (ys.map V.str) ys
  | [] => .nil
  | y :: ys => .cons (.str y) (strs_Rs ys)
/-- where a text stands in another one, first -/
def sIdx (a b : Str) : Option Nat := (Builtin.Str.occurrences a b 0 a.length 1).head?
theorem sidx_ex {a b : Str} {i : Nat} (h : sIdx a b = some i) : ∃ rest, Builtin.Str.occurrences a b 0 a.length 1 = i :: rest := by
  unfold sIdx at h
  cases e : Builtin.Str.occurrences a b 0 a.length 1 with
  | nil => rw [e] at h; cases h
  | cons j rest => rw [e] at h; cases h; exact ⟨rest, rfl⟩
theorem split_of {a b : Str} {H : Hp} {Q : VK} (h : (b.length == 0) = false) (c : a.length + 2 ≤ 16777216) (q : rNewStrs (Txt.split a b) H Q) :
    ∃ a' b', V.str a = .str a' ∧ [V.str b] = [.str b'] ∧ (b'.length == 0) = false ∧ a'.length + 2 ≤ sizeLine ∧ rNewStrs (Txt.split a' b') H Q := ⟨a, b, rfl, rfl, h, szle c, q⟩

/-! #### the script, read where it stands -/
def ScR (K : PySem.W.Frag) (H : Hp) (v : V) (ns : List Int) : Prop := ∃ a, v = .ref a ∧ SqL K H a (ns.map V.int)
theorem SqL_gr {K : PySem.W.Frag} {F H N H' : Hp} {a : Addr} {us : List V} (s : SqL K H a us) (g : Gr NA F H N H') : SqL K H' a us := by
  rcases s with (h | ⟨o, h⟩) | h
  · exact .inl (.inl (g.keep _ _ id h))
  · exact .inl (.inr ⟨o, g.keep _ _ id h⟩)
  · exact .inr h
theorem atI_map {α β : Type} {f : α → β} {xs : List α} {i : Int} {x : α} (h : atI xs i = some x) : atI (xs.map f) i = some (f x) := by
  unfold atI at h ⊢
  rw [List.length_map]
  cases e : ixN xs.length i with
  | none => rw [e] at h; cases h
  | some j =>
    rw [e] at h
    have h' : xs[j]? = some x := h
    show (xs.map f)[j]? = _
    rw [List.getElem?_map, h']; rfl

/-! #### dicts that are ours to change -/
structure OwO (H0 F H : Hp) (p : Addr) (o : HO) : Prop where
  at_ : H p = some o
  nf : F p = none
  n0 : H0 p = none
section
variable {A : Addr → Prop} {F0 H0 F F' H N H' : Hp} {p q : Addr} {o o' : HO} {us ws : List V} {as : List Addr} {xs : List (List Int)}
theorem OwO.new (G : Gr A F0 H0 F H) (hp : H p = none) : OwO H0 F (upd H p o) p o := ⟨upd_same, G.sub.none hp, G.fresh hp⟩
theorem OwO.step (w : OwO H0 F H p o) (g : Gr NA F H N H') : OwO H0 N H' p o := ⟨g.keep p _ id w.at_, g.own p (by rw [w.at_]; exact (fun z => nomatch z)) w.nf, w.n0⟩
theorem OwO.stepA (w : OwO H0 F H p o) (g : Gr A F H N H') (h : ¬ A p) : OwO H0 N H' p o := ⟨g.keep p _ h w.at_, g.own p (by rw [w.at_]; exact (fun z => nomatch z)) w.nf, w.n0⟩
theorem OwO.mut (w : OwO H0 F H p o) : OwO H0 F (upd H p o') p o' := ⟨upd_same, w.nf, w.n0⟩
theorem OwO.other (w : OwO H0 F H p o) (h : q ≠ p) : OwO H0 F (upd H q (.lst ws)) p o := ⟨by rw [upd_ne h.symm]; exact w.at_, w.nf, w.n0⟩
theorem OwO.otherO (w : OwO H0 F H p o) (h : q ≠ p) : OwO H0 F (upd H q o') p o := ⟨by rw [upd_ne h.symm]; exact w.at_, w.nf, w.n0⟩
theorem OwO.ne_new (w : OwO H0 F H p o) (hq : H q = none) : p ≠ q := ne_of_none w.at_ hq
theorem OwO.mutG (w : OwO H0 F H p o) (G : Gr A F0 H0 F H) : Gr A F0 H0 F (upd H p o') := G.mut w.n0 w.nf
theorem OwO.frzN (w : OwO H0 F H q o) (h : q ≠ p) (nf : ∀ q, q ≠ p → F q = none → F' q = none) : OwO H0 F' H q o := ⟨w.at_, nf _ h w.nf, w.n0⟩
theorem OwO.ne_fz {l : List Addr} (w : OwO H0 F H q o) (fz : ∀ a ∈ l, H a = none) : q ∉ l := fun h => by have := fz q h; rw [w.at_] at this; cases this
theorem Ow.otherO (w : Ow H0 F H p us) (h : q ≠ p) : Ow H0 F (upd H q o) p us := ⟨by rw [upd_ne h.symm]; exact w.at_, w.nf, w.n0⟩
theorem OwL.otherO (w : OwL H0 F H p as xs) (h : q ∉ p :: as) : OwL H0 F (upd H q o) p as xs := w.keep (fun a o' ha e => by rw [upd_ne (show a ≠ q from fun z => h (by rw [← z]; exact ha))]; exact e) w.nf
end
def RsK {κ α β : Type} [TD β] (key : α → κ) (F : Hp) (kvs : List (κ × V)) (xs : List (α × β)) : Prop := Paired (fun (kv : κ × V) (x : α × β) => kv.1 = key x.1 ∧ R F kv.2 x.2) kvs xs
def getT {α β : Type} [DecidableEq α] (xs : List (α × β)) (k : α) : Option β := (xs.find? fun x => decide (x.1 = k)).map (·.2)
def putT {α β : Type} [DecidableEq α] (xs : List (α × β)) (k : α) (v : β) : List (α × β) :=
  if (xs.any fun x => decide (x.1 = k)) = true then xs.map (fun x => if x.1 = k then (x.1, v) else x) else xs ++ [(k, v)]
section
variable {κ α β : Type} [DecidableEq κ] [DecidableEq α] [TD β] {key : α → κ} {F F' : Hp} {kvs : List (κ × V)} {xs : List (α × β)}
theorem RsK_mono (s : Sub F F') (r : RsK key F kvs xs) : RsK key F' kvs xs := paired_mono r fun _ _ _ h => ⟨h.1, RD.mono s h.2⟩
theorem RsK_len (r : RsK key F kvs xs) : kvs.length = xs.length := prd_len r
theorem RsK_nil : RsK (β := β) key F [] [] := .nil
theorem RsK_get (inj : ∀ a b, key a = key b → a = b) {k : α} : ∀ {kvs : List (κ × V)} {xs : List (α × β)}, RsK key F kvs xs →
    (valV kvs (key k) = none ∧ getT xs k = none) ∨ ∃ v y, valV kvs (key k) = some v ∧ getT xs k = some y ∧ R F v y
  | _, _, .nil => .inl ⟨rfl, rfl⟩
  | _, _, .cons (a := kv) (b := x) h t => by
    obtain ⟨h1, h2⟩ := h
    by_cases e : x.1 = k
    · exact .inr ⟨kv.2, x.2, by simp [valV, h1, e], by simp [getT, e], h2⟩
    · have e1 : ¬ kv.1 = key k := fun z => e (inj _ _ (h1.symm.trans z))
      have a1 : ∀ l, valV (kv :: l) (key k) = valV l (key k) := fun l => by simp [valV, e1]
      have a2 : ∀ l, getT (x :: l) k = getT l k := fun l => by simp [getT, e]
      rw [a1, a2]; exact RsK_get inj t
theorem RsK_any (inj : ∀ a b, key a = key b → a = b) {k : α} (r : RsK key F kvs xs) : (kvs.any fun kv => decide (kv.1 = key k)) = xs.any fun x => decide (x.1 = k) := by
  induction r with
  | nil => rfl
  | cons h _ ih =>
    rw [List.any_cons, List.any_cons, ih, h.1]
    congr 1
    exact decide_eq_decide.mpr ⟨fun z => inj _ _ z, fun z => by rw [z]⟩
theorem RsK_map (inj : ∀ a b, key a = key b → a = b) {k : α} {v : V} {y : β} (hv : R F v y) (r : RsK key F kvs xs) :
    RsK key F (kvs.map fun kv => if kv.1 = key k then (kv.1, v) else kv) (xs.map fun x => if x.1 = k then (x.1, y) else x) := by
  induction r with
  | nil => exact .nil
  | @cons kv x _ _ h t ih =>
    refine .cons ?_ ih
    dsimp only
    by_cases e : x.1 = k
    · rw [if_pos e, if_pos (by rw [h.1, e])]; exact ⟨h.1, hv⟩
    · rw [if_neg e, if_neg fun z => e (inj _ _ (h.1.symm.trans z))]; exact h
theorem RsK_put (inj : ∀ a b, key a = key b → a = b) {k : α} {v : V} {y : β} (hv : R F v y) (r : RsK key F kvs xs) : RsK key F (putK kvs (key k) v) (putT xs k y) := by
  unfold putK putT
  rw [RsK_any inj r]
  by_cases e : (xs.any fun x => decide (x.1 = k)) = true
  · rw [if_pos e, if_pos e]; exact RsK_map inj hv r
  · rw [if_neg e, if_neg e]; exact prd_snoc r ⟨rfl, hv⟩
theorem RsK_getD (inj : ∀ a b, key a = key b → a = b) {k : α} {z : V} {d : β} (hz : R F z d) (r : RsK key F kvs xs) : R F ((valV kvs (key k)).getD z) ((getT xs k).getD d) := by
  rcases RsK_get inj (k := k) r with ⟨a, b⟩ | ⟨v, y, a, b, h⟩
  · rw [a, b]; exact hz
  · rw [a, b]; exact h
end
abbrev keyS : Str → Key := Sum.inr
theorem keyS_inj (a b : Str) (h : keyS a = keyS b) : a = b := Sum.inr.inj h
theorem x_dget2 {td ty tx : TE} {σ : L2.St} {H : Hp} {Q : VK} (h : td σ H fun x H1 => ∃ a, x = .ref a ∧ IsD H1 a ∧ ty σ H1 fun y H2 => tx σ H2 fun z H3 => ∃ o, DGet H3 a y o ∧ Q (o.getD z) H3) : tDGet2 td ty tx σ H Q := h
theorem x_dput {td ty tv : TE} {σ : L2.St} {H : Hp} {D : Ends} (h : tv σ H fun v H1 => td σ H1 fun x H2 => ty σ H2 fun y H3 => ∃ a H4, x = .ref a ∧ DPut H3 a y v H4 ∧ D.nx σ H4) : sDPut td ty tv D σ H := h
theorem isD_k {H : Hp} {a : Addr} {kvs : List (Key × V)} (h : H a = some (.dK kvs)) : IsD H a := .inl ⟨kvs, .inl h⟩
theorem dgetS_of {β : Type} [TD β] {F H : Hp} {a : Addr} {kvs : List (Key × V)} {xs : List (Str × β)} {k : Str} {z : V} {d : β} {Q : VK} (h : H a = some (.dK kvs)) (r : RsK keyS F kvs xs) (hz : R F z d)
    (q : ∀ v, R F v ((getT xs k).getD d) → Q v H) : ∃ o, DGet H a (.str k) o ∧ Q (o.getD z) H := ⟨_, DGet.k (k := keyS k) h, q _ (RsK_getD keyS_inj hz r)⟩
theorem dputS_of {β : Type} [TD β] {F H : Hp} {a : Addr} {kvs : List (Key × V)} {xs : List (Str × β)} {k : Str} {v : V} {Q : Hp → Prop} (h : H a = some (.dK kvs)) (r : RsK keyS F kvs xs) (c : xs.length < 16777216)
    (q : Q (upd H a (.dK (putK kvs (keyS k) v)))) : ∃ a' H4, V.ref a = .ref a' ∧ DPut H a' (.str k) v H4 ∧ Q H4 := ⟨a, _, rfl, DPut.k (k := keyS k) h (szl (by rw [RsK_len r]; exact c)), q⟩

/-! #### a new pair whose list of lists is ours -/
def eraseL (N : Hp) (l : List Addr) : Hp := fun a => if a ∈ l then none else N a
theorem eraseL_ne {N : Hp} {l : List Addr} {a : Addr} (h : a ∉ l) : eraseL N l a = N a := if_neg h
theorem eraseL_mem {N : Hp} {l : List Addr} {a : Addr} (h : a ∈ l) : eraseL N l a = none := if_pos h
section
variable {A B : Addr → Prop} {F0 H0 F H N H' H2 : Hp} {p t : Addr} {as l : List Addr} {us ws : List V} {xs : List (List Int)}
theorem Gr.eraseL (g : Gr A F H N H2) (s : Sub F H) (z : ∀ a ∈ l, H a = none) : Gr A F H (eraseL N l) H2 :=
  ⟨g.keep, g.there, fun a o e => by
    have : a ∉ l := fun q => by have h := s _ _ e; rw [z a q] at h; exact nomatch h
    rw [eraseL_ne this]; exact g.ex a o e, fun a o e => by
    by_cases q : a ∈ l
    · rw [eraseL_mem q] at e; exact nomatch e
    · rw [eraseL_ne q] at e; exact g.sub a o e, fun a h f => by
    by_cases q : a ∈ l
    · exact eraseL_mem q
    · rw [eraseL_ne q]; exact g.own a h f⟩
theorem OwL.ofP (G : Gr A F0 H0 F H) (g : Gr B F H N H') (r : NR H N (.ref p) xs) (nd : xs.Nodup) : ∃ as, OwL H0 (My.eraseL N (p :: as)) H' p as xs ∧ (∀ a ∈ p :: as, H a = none) ∧ ∀ t us, N t = some (.tup us) → My.eraseL N (p :: as) t = some (.tup us) := by
  obtain ⟨p', us, e, fa, fr, np⟩ := NR_lst_of r
  cases e
  obtain ⟨as, w, fz⟩ := OwL.of G g r nd
  refine ⟨as, w.keep (fun _ _ _ e => e) (fun a ha => eraseL_mem ha), fz, fun t us ht => ?_⟩
  rw [eraseL_ne]; exact ht
  intro hm
  have := g.sub _ _ ht
  rcases List.mem_cons.mp hm with e | e
  · subst e; rw [w.at_] at this; cases this
  · obtain ⟨x, e2⟩ := w.mem e
    rw [e2] at this; cases this
end
end My

/-! ## dicts whose keys are tuples of ints, lists handed in and changed -/
namespace My
open PySem PySem.Spec PyProof.Rows L2
/-- a tuple of ints -/
structure TI where
  l : List Int
deriving DecidableEq
instance : TD TI := ⟨fun t => .tuple (t.l.map .int)⟩
instance : TB TI := ⟨1, fun t => by
  show PyData.canLay0 (.tuple (t.l.map TD.d)) = true
  simp only [PyData.canLay0]; exact layAll t.l, fun t => by
  have := depAll t.l
  show PyData.depth (.tuple (t.l.map TD.d)) ≤ _
  simp only [PyData.depth]
  have e : TB.dep Int = 0 := rfl
  omega⟩
def keyT (t : TI) : List Key := t.l.map Sum.inl
theorem keyT_kV (t : TI) : (keyT t).map kV = t.l.map V.int := by unfold keyT; rw [List.map_map]; rfl
theorem keyT_inj (a b : TI) (h : keyT a = keyT b) : a = b := by
  obtain ⟨a⟩ := a
  obtain ⟨b⟩ := b
  unfold keyT at h
  have : a = b := by
    induction a generalizing b with
    | nil => cases b with
      | nil => rfl
      | cons => cases h
    | cons x a ih => cases b with
      | nil => cases h
      | cons y b =>
        rw [List.map_cons, List.map_cons, List.cons.injEq] at h
        rw [Sum.inl.inj h.1, ih b h.2]
  rw [this]
theorem tupi_at {F : Hp} {p : Addr} {us : List V} {xs : List Int} (fa : F p = some (.tup us)) (r : Rs F us xs) : F p = some (.tup ((keyT ⟨xs⟩).map kV)) := by
  rw [fa, keyT_kV, Rs_int r]
theorem mk_tupi {F : Hp} {p : Addr} {us : List V} {xs : List Int} (fa : F p = some (.tup us)) (r : Rs F us xs) : R F (.ref p) (⟨xs⟩ : TI) := .tup fa r
/-- tuples of ints that stand in a heap -/
def TK (H : Hp) (bs : List Addr) (ts : List TI) : Prop := Paired (fun b (t : TI) => H b = some (.tup (t.l.map V.int))) bs ts
section
variable {A : Addr → Prop} {F0 H0 F H N H' : Hp} {p : Addr} {us ws : List V} {bs : List Addr} {ts : List TI}
theorem TK.keep (k : TK H bs ts) (h : ∀ a xs, H a = some (.tup xs) → H' a = some (.tup xs)) : TK H' bs ts := paired_mono k fun _ _ _ e => h _ _ e
theorem TK.gr (k : TK H bs ts) (g : Gr NA F H N H') : TK H' bs ts := k.keep fun a xs e => g.keep a _ id e
theorem TK.mut (k : TK H bs ts) (h : H p = some (.lst us)) : TK (upd H p (.lst ws)) bs ts := k.keep fun a xs e => by
  rw [upd_ne (show a ≠ p from fun z => by rw [z, h] at e; cases e)]; exact e
theorem TK.new {o : HO} (k : TK H bs ts) (h : H p = none) : TK (upd H p o) bs ts := k.keep fun a xs e => by rw [upd_ne (ne_of_none e h)]; exact e
end
/-! #### sorted(d) -/
def rSortDT : List V → Hp → VK → Prop := fun vs H Q => ∃ (d : Addr) (kvs : List (List Key × V)) (ts : List TI), vs = [.ref d] ∧ H d = some (.dT kvs) ∧ kvs.map (·.1) = ts.map keyT ∧ ts.length ≤ 16777216 ∧ (∀ t ∈ ts, t.l ≠ []) ∧
  ∀ p bs, H p = none → TK H bs (sortT ts) → Q (.ref p) (upd H p (.lst (bs.map V.ref)))
theorem each_keys {H : Hp} : ∀ {kvs : List (List Key × V)} {ks : List (List Key × Addr × Value)} {ts : List TI},
    Paired (fun (p : List Key × V) (q : List Key × Addr × Value) => p.1 = q.1 ∧ H q.2.1 = some (.tup (p.1.map kV)) ∧ RelV p.2 q.2.2) kvs ks → kvs.map (·.1) = ts.map keyT →
    PySem.W.EachIs (fun v (t : TI) => ∃ b, v = Value.ref b ∧ H b = some (.tup (t.l.map V.int))) (ks.map fun x => Value.ref x.2.1) ts
  | _, _, [], .nil, _ => .nil
  | _, _, _ :: _, .nil, e => by cases e
  | _, _, [], .cons _ _, e => by cases e
  | _, _, t :: ts, .cons h r, e => by
    rw [List.map_cons, List.map_cons, List.cons.injEq] at e
    exact .cons ⟨_, rfl, by rw [h.2.1, e.1, keyT_kV]⟩ (each_keys r e.2)
theorem ints_reads {h : Heap} : ∀ {ns : List Int} {vs : List Value}, Vals (ns.map V.int) vs → ReadsAll h vs (ns.map PyData.int) []
  | [], _, r => by cases r; exact .nil
  | n :: ns, _, r => by
    cases r with
    | cons h1 h2 =>
      obtain ⟨t, rfl⟩ := h1
      exact ReadsAll.cons (as := []) (bs := []) (Reads.int n t) (ints_reads h2)
theorem of_eachT {H : Hp} : ∀ {vs : List Value} {ts : List TI}, PySem.W.EachIs (fun v (t : TI) => ∃ b, v = Value.ref b ∧ H b = some (.tup (t.l.map V.int))) vs ts → ∃ bs : List Addr, vs = bs.map Value.ref ∧ TK H bs ts
  | _, _, .nil => ⟨[], rfl, .nil⟩
  | _, _, .cons ⟨b, e, h⟩ t => by
    obtain ⟨bs, rfl, k⟩ := of_eachT t
    exact ⟨b :: bs, by rw [e]; rfl, .cons h k⟩
theorem vals_refs' : ∀ bs : List Addr, Vals (bs.map V.ref) (bs.map Value.ref)
  | [] => .nil
  | _ :: r => .cons rfl (vals_refs' r)
theorem call_sortedDT {X : Cx} (hcalm : X.calm = true) (hu : X.A.units + 200 < cLine) : CallR X (.builtin "sorted") rSortDT := by
  intro pins s σ H xs us Q I r q
  obtain ⟨d, kvs, ts, rfl, hd, hks, hl, hne, q⟩ := q
  obtain ⟨u, rfl, rx⟩ := vals1 r
  cases rx
  obtain ⟨z, hs, ks, pr, o, es, ep, ho, hx, hdt, he, hn⟩ := (show ObjOk X.prog X.w H s.heap d (.dT kvs) from I.hok d _ hd)
  have l1 : es.size = ks.length := size_of_entries he
  have l2 : kvs.length = ks.length := Paired.length pr
  have l3 : kvs.length = ts.length := by
    have := congrArg List.length hks
    rw [List.length_map, List.length_map] at this
    exact this
  refine Calls.call_function_entry PyProof.Rows.kind_sorted PyProof.Rows.plain_sorted PyProof.Rows.entry_sorted (PyProof.Rows.args_sorted1 _) ?_
  unfold Builtin.«sorted»
  refine wpAny_bind (m := checkCount "sorted" 1 1 _) (wpAny_pure ?_)
  refine wpAny_bind (PySem.W.kdu_collect (A := X.A.in1) (kdl_raw hs hx hdt) (I.ok.hd hcalm) ho (by omega) fun h' tk acc hk hacc => ?_)
  have ea : acc.toList = ks.map fun x => Value.ref x.2.1 := by
    have hl : acc.toList.length = ks.length := by rw [Array.length_toList, hacc.1]; exact l1
    apply List.ext_getElem?
    intro j
    rw [List.getElem?_map]
    cases hj : acc.toList[j]? with
    | none =>
      have h1 := List.getElem?_eq_none_iff.mp hj
      rw [List.getElem?_eq_none (by omega)]
      all_goals rfl
    | some v =>
      obtain ⟨en, hen, hv⟩ := hacc.2 j v (by rw [← Array.getElem?_toList]; exact hj)
      have qe := entry_at he j
      rw [hen] at qe
      cases hb : ks[j]? with
      | none =>
        rw [hb] at qe
        exact nomatch (show some en = none from qe)
      | some b =>
        rw [hb] at qe
        have e2 : en = entryOfKey (tupleKind (mixKind X.prog X.w)) b := Option.some.inj qe
        rw [hv, e2]
        all_goals rfl
  have I1 : Inv X pins σ H { s with heap := h', toks := tk } := I.kept hk
  have hal : acc.toList.length ≤ sizeLine := by rw [ea, List.length_map]; omega
  refine wpAny_bind (wpAny_newList ?_ hal)
  have hoL : (h'.push (seqObj "list" acc.toList.toArray 0)).get? h'.objs.size = some (seqObj "list" acc.toList.toArray 0) := Heap.get?_push_size _ rfl
  show wpAny _ _ _ _ _ { s with heap := h'.push (seqObj "list" acc.toList.toArray 0), toks := tk }
  have e1 : PySem.W.EachIs (fun v (t : TI) => ∃ b, v = Value.ref b ∧ H b = some (.tup (t.l.map V.int))) acc.toList ts := by rw [ea]; exact each_keys pr hks
  have rd : PySem.W.EachIs (fun v (t : TI) => ∃ as, Reads (h'.push (seqObj "list" acc.toList.toArray 0)) v (TD.d t) as ∧ h'.objs.size ∉ as) acc.toList ts := e1.mono fun v t ⟨b, hv, hb⟩ => by
    obtain ⟨_, its, rv, ⟨o, g1, g2, n, g3⟩⟩ := (show ObjOk X.prog X.w H h' b (.tup (t.l.map V.int)) from I1.hok b _ hb)
    rw [hv]
    refine ⟨[], Reads.tuple (Heap.get?_push_of_some _ g1) g2 g3 ?_, List.not_mem_nil⟩
    exact ints_reads (by rw [List.toList_toArray]; exact rv)
  have alk : PySem.W.AllAlike (ts.map TD.d) := PySem.W.AllAlike.of fun a b => by
    show PySem.W.alike (.tuple (a.l.map PyData.int)) (.tuple (b.l.map PyData.int)) = true
    simp only [PySem.W.alike]
    exact alikeAll_of a.l b.l
  have srt : PySem.W.Sortable (ts.map TD.d) := .inl fun d' hd' => by
    obtain ⟨t, ht, rfl⟩ := List.mem_map.mp hd'
    cases h : t.l with
    | nil => exact absurd h (hne t ht)
    | cons x r => exact ⟨.int x, r.map .int, by show PyData.tuple (t.l.map PyData.int) = _; rw [h]; rfl⟩
  have hul : ∀ b : TI, b ∈ ts → X.A.in1.units + 1 + (TD.d b).depth < cLine := fun b _ => by
    have h1 := TB.dle b
    have h2 : TB.dep TI = 1 := rfl
    have h3 : X.A.in1.units = X.A.units + 1 := rfl
    omega
  refine wpAny_bind (wpAny_holding (wpAny_mono (PySem.W.list_sort_data (A := X.A.in1) (s := { s with heap := h'.push (seqObj "list" acc.toList.toArray 0), toks := tk }) (E := X.xe) (enc := TD.d) (R := fun v (t : TI) => ∃ b, v = Value.ref b ∧ H b = some (.tup (t.l.map V.int)))
    (Q := fun _ s' => (fun v s2 => ∃ x H', Inv X pins σ H' s2 ∧ RelV x v ∧ Q x H') (Value.ref h'.objs.size) s') hoL e1 rd alk srt (by rw [sizeLine_eq]; exact hl) hul fun out ho' eo => ?_) (fun _ s' x => ?_) fun _ _ e => e))
  · obtain ⟨bs, rfl, k⟩ := of_eachT eo
    obtain ⟨e', he'⟩ := PyProof.Rows.sortedHeap_at (vs := acc.toList) (out := (bs.map Value.ref).toArray) hoL
    have hlen : (bs.map V.ref).length ≤ sizeLine := by
      rw [List.length_map] at ho' ⊢
      rw [ho', sizeLine_eq]; exact hl
    refine ⟨.ref h'.objs.size, upd H h'.objs.size (.lst (bs.map V.ref)), I1.laid (t' := tk) (fun b u e => ?_) (Nat.le_refl _)
      (show ObjOk X.prog X.w _ _ _ (.lst (bs.map V.ref)) from ⟨hlen, bs.map Value.ref, e', vals_refs' bs, he'⟩), rfl, q _ bs (I1.hok.fresh (Nat.le_refl _)) k⟩
    have hb : b < h'.objs.size := Heap.lt_size e
    rw [PyProof.Rows.sortedHeap_old (Nat.ne_of_lt hb) (by rw [size_push']; exact Nat.lt_succ_of_lt hb)]
    exact Heap.get?_push_of_some _ e
  · exact wpAny_pure ⟨_, rfl, x⟩
/-! #### d.values() -/
def ItdT (d : Addr) (o : Obj) (kvs : List (List Key × V)) : It :=
  ⟨fun i H => H d = some (.frz o (.dT kvs)) ∧ i < kvs.length, fun i H x H' => H' = H ∧ ∃ k, kvs[i]? = some (k, x), fun i H => H d = some (.frz o (.dT kvs)) ∧ kvs.length ≤ i⟩
theorem frzTv {X : Cx} {pins : List (Addr × Obj)} {σ : L2.St} {H : Hp} {s : Shared} {d : Addr} {o : Obj} {kvs : List (List Key × V)} (I : Inv X pins σ H s) (h : H d = some (.frz o (.dT kvs))) :
    (d == sysModules) = false ∧ s.heap.get? d = some o ∧ o.ExactDict ∧ ∃ (es : Array DictEntry) (ep : Nat), o.data = .dict es ep ∧ es.size = kvs.length ∧
      ∀ (i : Nat) (k : List Key) (v : V), kvs[i]? = some (k, v) → ∃ (en : DictEntry), es[i]? = some en ∧ RelV v en.val := by
  obtain ⟨hd, z, hs, xs, pr, o', es, ep, ho, hx, hdt, he, _⟩ := I.hok d _ h
  rw [hd] at ho
  cases ho
  refine ⟨hs, hd, hx, es, ep, hdt, ?_, fun i k v e => ?_⟩
  · have l1 : es.size = xs.length := size_of_entries he
    have l2 : kvs.length = xs.length := Paired.length pr
    omega
  · obtain ⟨b, hb, e1, e2, e3⟩ := paired_get pr e
    have q := entry_at he i
    rw [hb] at q
    exact ⟨_, q, e3⟩
theorem dict_ep' {o : Obj} {es es' : Array DictEntry} {ep ep' : Nat} (a : o.data = .dict es ep) (b : o.data = .dict es' ep') : es' = es ∧ ep' = ep := by
  rw [a] at b; cases b; exact ⟨rfl, rfl⟩
theorem turn_valsT {P : Program} {w : World} {K : PySem.W.Frag} {tg : Expr} {d : Addr} {o : Obj} {es : Array DictEntry} {ep : Nat} {kvs : List (List Key × V)} (it : Addr) (hod : o.data = .dict es ep) : Turn P w K tg (ItdT d o kvs) [it] it (fun i h => h.IsValIter it d i kvs.length ep) where
  mem := by simp
  obj := fun i h st b hb => by
    have e : b = it := by simpa using hb
    subst e
    obtain ⟨oi, e, c, dd⟩ := st
    exact ⟨oi, e, fun v z => by rw [dd] at z; cases z⟩
  keep := fun i h h' st k => st.at fun oi e => k it (by simp) oi e
  item := by
    intro X hP hw hK hc i pins s σ H E I hf st hg
    subst hP hw hK
    obtain ⟨hd, hi⟩ := hg
    obtain ⟨f0, f1, f2, f3, f4, f5⟩ := hf it (by simp)
    obtain ⟨hs, hgd, hx, es', ep', hdt, hsz, ent⟩ := frzTv I hd
    obtain ⟨rfl, rfl⟩ := dict_ep' hod hdt
    obtain ⟨⟨k, v⟩, hkv⟩ : ∃ p, kvs[i]? = some p := ⟨kvs[i], List.getElem?_eq_getElem hi⟩
    obtain ⟨en, hen, rv⟩ := ent i k v hkv
    have hlt : i < es'.size := by omega
    have st2 : s.heap.IsValIter it d i es'.size ep' := by rw [hsz]; exact st
    refine wpAny_pyNext_values_item_raw st2 ⟨o, hgd, hx, hdt⟩ hlt fun h' st' sb => ?_
    have I1 : Inv X pins σ H { s with heap := h' } := I.turned (t' := s.toks) (fun b ob hb e => (sb.2 b hb).trans e) f0 f1 f3 f4 f5
    obtain ⟨oi, e, c, dd⟩ := id st'
    have hv : es'[i].val = en.val := by
      rw [Array.getElem?_eq_getElem hlt] at hen
      rw [Option.some.inj hen]
    refine ⟨_, rfl, go_of (s := { s with heap := h' }) e c dd (by decide) ⟨v, H, I1, by rw [hv]; exact rv, ⟨rfl, k, hkv⟩, ?_, fun b hb => (hf b hb).1⟩⟩
    show h'.IsValIter it d (i + 1) kvs.length _
    rw [← hsz]
    exact st'
  done := by
    intro X hP hw hK hc i pins s σ H E I hf st hg
    subst hP hw hK
    obtain ⟨hd, hi⟩ := hg
    obtain ⟨f0, f1, f2, f3, f4, f5⟩ := hf it (by simp)
    obtain ⟨hs, hgd, hx, es', ep', hdt, hsz, ent⟩ := frzTv I hd
    obtain ⟨rfl, rfl⟩ := dict_ep' hod hdt
    have st2 : s.heap.IsValIter it d i es'.size ep' := by rw [hsz]; exact st
    exact wpAny_pyNext_values_end_raw (I.ok.hd hc) st2 ⟨o, hgd, hx, hdt⟩ (by omega) fun h' eb => ⟨rfl, I.turned (t' := s.toks) (fun b ob hb e => eb b ob hb e) f0 f1 f3 f4 f5⟩
  self := fun A i s Q E st h => wpAny_pyIter_valiter st h
def iValsT (td : TE) : L2.TI := fun σ H R => td σ H fun x H1 => ∃ d o kvs, x = .ref d ∧ H1 d = some (.frz o (.dT kvs)) ∧ R (ItdT d o kvs) H1
theorem pi_valuesT {X : Cx} {tg e : Expr} {td : TE} {apos cpos : Pos} (he : PE X e td) (hbase : attributeBase e "values" X.env (eval e X.env) = eval e X.env := by rfl) (hline : (apos.endLine == cpos.line) = true := by rfl) : PI X tg (.Call (.Attribute e "values" apos) [] [] cpos) (iValsT td) := by
  refine ⟨fun pins s σ H R I h => ?_⟩
  refine wpAny_Call_method (T := "dict") (id := "dict.values") hbase rfl hline F.plainAttrs_dict F.slot_dict_values F.type_dict_values (thn (he.run pins s σ H _ I h) fun u s1 ⟨x, H1, I1, rx, d, o, kvs, ex, hd, q⟩ => ?_)
  subst ex
  obtain rfl : u = Value.ref d := rx
  obtain ⟨hs, hgd, hx, es, ep, hdt, hsz, ent⟩ := frzTv I1 hd
  have hR : s1.heap.DictRaw d es ep := ⟨o, hgd, hx, hdt⟩
  refine ⟨⟨o, hgd, hx.1⟩, fun b q => by cases q; exact ⟨o, hgd, hx.2.1⟩, ?_⟩
  have I2 : Inv X pins σ H1 { s1 with heap := s1.heap.push { cls := .type "dict_values", data := .fields #[.ref d] } } := I1.kept (t' := s1.toks) fun b ob q => Heap.get?_push_of_some _ q
  have fin : wpAny (model X.prog X.w) X.A (pyIter (.ref s1.heap.objs.size)) (PIE X pins σ tg R) X.xe { s1 with heap := s1.heap.push { cls := .type "dict_values", data := .fields #[.ref d] } } := by
    refine wpAny_pyIter_values_raw (d := d) (es := es) (ep := ep) ⟨_, Heap.get?_push_size _ rfl, rfl, rfl⟩ ⟨o, Heap.get?_push_of_some _ hgd, hx, hdt⟩ (pi_one (tk := s1.toks) I2 _ (turn_valsT _ hdt) ⟨_, Heap.get?_push_size _ rfl, rfl, ?_⟩ q)
    rw [hsz] <;> rfl
  show wpAny _ _ (callWith cpos (.builtin "dict.values") [.ref d] [] []) _ X.xe s1
  exact method_meetsIn F.slot_dict_values F.entry_dict_values rfl (PySem.evalArgs_none ⟨rfl, ⟨o, hgd, hx.1⟩, F.args_dict_values_1 _, _, meets_dict_values_raw d hs, ⟨es, ep, hR⟩, fin⟩)
theorem walk_valuesT {d : Addr} {o : Obj} {kvs : List (List Key × V)} : Walk (ItdT d o kvs) kvs.length (fun H => H d = some (.frz o (.dT kvs))) (fun i H x H' => H' = H ∧ ∃ k, kvs[i]? = some (k, x)) :=
  ⟨fun _ _ hi q => ⟨q, hi⟩, fun _ q => ⟨q, Nat.le_refl _⟩, fun _ _ _ _ _ _ y => y⟩

/-! #### a list of ints that is handed in and changed -/
abbrev StS := List Int
section
variable {A : Addr → Prop} {F0 H0 F F' H N H' : Hp} {p q dk : Addr} {o o' : HO} {us ws : List V} {α : Type} [TD α] {st st2 : List α} {as : List Addr} {xs : List (List Int)}
theorem HdAt.stepA (d : HdAt A H0 F H dk st) (g : Gr A F H N H') (x : Held A N H' dk st2) : HdAt A H0 N H' dk st2 := ⟨x.1, x.2.1, d.n0, d.ia⟩
theorem HdAt.outA (d : HdAt A H0 F H dk st) (w : Ow H0 F H p us) : ¬ A p := fun h => d.out w ((d.ia p).mp h)
theorem HdAt.outO (d : HdAt A H0 F H dk st) (w : OwO H0 F H p o) : ¬ A p := fun h => d.n0 (by rw [← (d.ia p).mp h]; exact w.n0)
theorem HdAt.nfA (d : HdAt A H0 F H dk st) : ∀ a, A a → F a = none := fun a h => by rw [(d.ia a).mp h]; exact d.nf
theorem HdAt.mutO (d : HdAt A H0 F H dk st) (w : OwO H0 F H p o) : HdAt A H0 F (upd H p o') dk st := by
  obtain ⟨us, e, r⟩ := d.at_
  exact ⟨⟨us, by rw [upd_ne (fun z => d.n0 (by rw [z]; exact w.n0))]; exact e, r⟩, d.nf, d.n0, d.ia⟩
theorem HdAt.setI {v : V} {x : α} {j : Nat} (d : HdAt A H0 F H dk st) (r : Rs F us st) (h : R F v x) : HdAt A H0 F (upd H dk (.lst (us.set j v))) dk (st.set j x) := ⟨⟨_, upd_same, Rs_set r h⟩, d.nf, d.n0, d.ia⟩
theorem HdAt.ne (d : HdAt A H0 F H dk st) (w : Ow H0 F H p us) : dk ≠ p := (d.out w).symm
theorem HdAt.neO (d : HdAt A H0 F H dk st) (w : OwO H0 F H p o) : dk ≠ p := fun z => d.n0 (by rw [z]; exact w.n0)
end
/-! #### a new list that is ours, its items frozen -/
mutual
theorem RD.det {F : Hp} : ∀ {d d' : PyData} {v : V}, RD F v d → RD F v d' → d = d'
  | _, _, _, .non, r => by cases r; rfl
  | _, _, _, .bl b, r => by cases r; rfl
  | _, _, _, .int i, r => by cases r; rfl
  | _, _, _, .str x, r => by cases r; rfl
  | _, _, _, .lst h q, r => by
    cases r with
    | lst h' q' => rw [h] at h'; cases h'; rw [RDs.det q q']
    | tup h' q' => rw [h] at h'; cases h'
    | dic h' q' => rw [h] at h'; cases h'
  | _, _, _, .tup h q, r => by
    cases r with
    | lst h' q' => rw [h] at h'; cases h'
    | tup h' q' => rw [h] at h'; cases h'; rw [RDs.det q q']
    | dic h' q' => rw [h] at h'; cases h'
  | _, _, _, .dic h q, r => by
    cases r with
    | lst h' q' => rw [h] at h'; cases h'
    | tup h' q' => rw [h] at h'; cases h'
    | dic h' q' => rw [h] at h'; cases h'; rw [RKs.det q q']
theorem RDs.det {F : Hp} : ∀ {ds ds' : List PyData} {us : List V}, RDs F us ds → RDs F us ds' → ds = ds'
  | _, _, _, .nil, r => by cases r; rfl
  | _, _, _, .cons h q, r => by cases r with | cons h' q' => rw [RD.det h h', RDs.det q q']
theorem RKs.det {F : Hp} : ∀ {ds ds' : List (PyData × PyData)} {us : List (Key × V)}, RKs F us ds → RKs F us ds' → ds = ds'
  | _, _, _, .nil, r => by cases r; rfl
  | _, _, _, .int h q, r => by cases r with | int h' q' => rw [RD.det h h', RKs.det q q']
  | _, _, _, .str h q, r => by cases r with | str h' q' => rw [RD.det h h', RKs.det q q']
end
section
variable {F : Hp} {p : Addr} {us0 : List V} {ds0 : List PyData}
mutual
theorem RD.eraseG (k : F p = some (.lst us0)) (r0 : RDs F us0 ds0) : ∀ {d : PyData} {v : V}, sizeOf d < sizeOf (PyData.list ds0) → RD F v d → RD (eraseP F p) v d
  | _, _, _, .non => .non
  | _, _, _, .bl b => .bl b
  | _, _, _, .int i => .int i
  | _, _, _, .str x => .str x
  | .list ds, .ref a, hs, .lst h q => by
    have hne : a ≠ p := fun e => by
      rw [e, k] at h; cases h
      rw [RDs.det q r0] at hs
      exact Nat.lt_irrefl _ hs
    exact .lst (by rw [eraseP_ne hne]; exact h) (RDs.eraseG k r0 (by simp at hs ⊢; omega) q)
  | .tuple ds, .ref a, hs, .tup h q => by
    have hne : a ≠ p := fun e => by
      rw [e, k] at h; cases h
    exact .tup (by rw [eraseP_ne hne]; exact h) (RDs.eraseG k r0 (by simp at hs ⊢; omega) q)
  | .dict ds, .ref a, hs, .dic h q => by
    have hne : a ≠ p := fun e => by
      rw [e, k] at h; cases h
    exact .dic (by rw [eraseP_ne hne]; exact h) (RKs.eraseG k r0 (by simp at hs ⊢; omega) q)
theorem RDs.eraseG (k : F p = some (.lst us0)) (r0 : RDs F us0 ds0) : ∀ {ds : List PyData} {us : List V}, sizeOf ds < sizeOf (PyData.list ds0) → RDs F us ds → RDs (eraseP F p) us ds
  | _, _, _, .nil => .nil
  | d :: ds, _ :: _, hs, .cons h q => .cons (RD.eraseG k r0 (by simp at hs ⊢; omega) h) (RDs.eraseG k r0 (by simp at hs ⊢; omega) q)
theorem RKs.eraseG (k : F p = some (.lst us0)) (r0 : RDs F us0 ds0) : ∀ {ds : List (PyData × PyData)} {us : List (Key × V)}, sizeOf ds < sizeOf (PyData.list ds0) → RKs F us ds → RKs (eraseP F p) us ds
  | _, _, _, .nil => .nil
  | (_, d) :: ds, _ :: _, hs, .int h q => .int (RD.eraseG k r0 (by simp at hs ⊢; omega) h) (RKs.eraseG k r0 (by simp at hs ⊢; omega) q)
  | (_, d) :: ds, _ :: _, hs, .str h q => .str (RD.eraseG k r0 (by simp at hs ⊢; omega) h) (RKs.eraseG k r0 (by simp at hs ⊢; omega) q)
end
theorem Rs_eraseG {α : Type} [TD α] {xs : List α} (k : F p = some (.lst us0)) (r : Rs F us0 xs) : Rs (eraseP F p) us0 xs := RDs.eraseG k r (by simp) r
end
theorem eraseP_none {N : Hp} {p a : Addr} (h : N a = none) : eraseP N p a = none := by
  by_cases e : a = p
  · rw [e]; exact eraseP_same
  · rw [eraseP_ne e]; exact h
/-! #### walks over such dicts -/
section
variable {K : PySem.W.Frag} {g : TG} {tb : TS} {D : Ends} {σ : L2.St} {H : Hp} {β : Type} [TD β]
theorem x_lock {t : TS} (h : ∃ d u, H d = some u ∧ Mut (some u) ∧ ∀ od, t ⟨fun σ' H' => H' d = some (.frz od u) ∧ D.nx σ' (upd H' d u), fun v H' => H' d = some (.frz od u) ∧ D.rt v (upd H' d u), fun σ' H' => H' d = some (.frz od u) ∧ D.bk σ' (upd H' d u), fun σ' H' => H' d = some (.frz od u) ∧ D.ct σ' (upd H' d u)⟩ σ (upd H d (.frz od u))) : tLock t D σ H := h
theorem x_valsT {td : TE} {R : It → Hp → Prop} (h : td σ H fun x H1 => ∃ d o kvs, x = .ref d ∧ H1 d = some (.frz o (.dT kvs)) ∧ R (ItdT d o kvs) H1) : iValsT td σ H R := h
theorem RsK_at {κ α : Type} {key : α → κ} {F : Hp} {v : V} {k : κ} : ∀ {kvs : List (κ × V)} {xs : List (α × β)} {i : Nat}, RsK key F kvs xs → kvs[i]? = some (k, v) → ∃ x, (xs.map (·.2))[i]? = some x ∧ R F v x
  | _, _, _, .nil, e => by simp at e
  | _, _, 0, .cons (b := x) h _, e => by
    simp at e; subst e
    exact ⟨x.2, rfl, h.2⟩
  | _, _, i + 1, .cons _ t, e => by
    obtain ⟨x, h1, h2⟩ := RsK_at (i := i) t (by simpa using e)
    exact ⟨x, by simpa using h1, h2⟩
theorem for_vals {F : Hp} {d : Addr} {od : Obj} {kvs : List (List Key × V)} {xs : List (TI × β)} (W : List β → L2.St → Hp → Prop) (r : RsK keyT F kvs xs) (h0 : W (xs.map (·.2)) σ H) (hf : ∀ ts σ H, W ts σ H → H d = some (.frz od (.dT kvs)))
    (hs : ∀ x ts v σ H, R F v x → W (x :: ts) σ H → g v σ H fun σ2 H2 => tb { D with nx := W ts, ct := W ts, bk := D.nx } σ2 H2) (hd : ∀ σ H, W [] σ H → D.nx σ H) :
    ∃ W : Nat → Nat → L2.St → Hp → Prop, (∃ m, W 0 m σ H) ∧ ∀ i m σ H, W i m σ H →
      ((ItdT d od kvs).stop i H ∧ D.nx σ H) ∨ ((ItdT d od kvs).go i H ∧ ∃ N : L2.St → Hp → Prop, (∀ σ' H', N σ' H' → ∃ m', m' < m ∧ W (i + 1) m' σ' H') ∧ ∀ x H', (ItdT d od kvs).yld i H x H' → g x σ H' fun σ2 H2 => tb { D with nx := N, ct := N, bk := D.nx } σ2 H2) := by
  have hl := RsK_len r
  refine for_it walk_valuesT (fun i σ H => W ((xs.map (·.2)).drop i) σ H) (by rw [List.drop_zero]; exact h0) (fun i σ H _ h => hf _ σ H h) (fun i v σ H H' hi h y => ?_) fun σ H h => ?_
  · obtain ⟨rfl, k, e⟩ := y
    obtain ⟨x, e2, e3⟩ := RsK_at r e
    have h' : W ((xs.map (·.2)).drop i) σ H' := h
    rw [drop_cons e2] at h'
    exact hs _ _ v σ H' e3 h'
  · have h' : W ((xs.map (·.2)).drop kvs.length) σ H := h
    rw [hl, show xs.length = (xs.map (·.2)).length from (List.length_map _).symm, List.drop_length] at h'
    exact hd σ H h'
variable {tt : TT} {te : TE} {vs : List Nat} {H1 : Hp} {Dl : Addr} {Qd : Hp → Prop}
theorem lc_vals {F : Hp} {d : Addr} {od : Obj} {kvs : List (List Key × V)} {xs : List (TI × β)} (W : List β → Hp → Prop) (r : RsK keyT F kvs xs) (h0 : W (xs.map (·.2)) (upd H1 Dl (.lst []))) (hf : ∀ ts H, W ts H → H d = some (.frz od (.dT kvs)))
    (hs : ∀ x ts v H, R F v x → W (x :: ts) H → g v (wipe σ vs) H fun σ2 H2 => wipe σ2 vs = wipe σ vs ∧ tt σ2 H2 fun b H3 =>
        if b = true then te σ2 H3 fun y H4 => ∃ acc, H4 Dl = some (HO.lst acc) ∧ acc.length < sizeLine ∧ W ts (upd H4 Dl (HO.lst (acc ++ [y]))) else W ts H3) (hd : ∀ H, W [] H → Qd H) :
    ∃ W : Nat → Nat → Hp → Prop, (∃ m, W 0 m (upd H1 Dl (HO.lst []))) ∧ ∀ (i m : Nat) (H : Hp), W i m H → (ItdT d od kvs).stop i H ∧ Qd H ∨
      (ItdT d od kvs).go i H ∧ ∃ Nx : Hp → Prop, (∀ (H' : Hp), Nx H' → ∃ m', m' < m ∧ W (i + 1) m' H') ∧ ∀ (x : V) (H' : Hp), (ItdT d od kvs).yld i H x H' →
        g x (wipe σ vs) H' fun σ2 H2 => wipe σ2 vs = wipe σ vs ∧ tt σ2 H2 fun b H3 => if b = true then te σ2 H3 fun y H4 => ∃ acc, H4 Dl = some (HO.lst acc) ∧ acc.length < sizeLine ∧ Nx (upd H4 Dl (HO.lst (acc ++ [y]))) else Nx H3 := by
  have hl := RsK_len r
  refine lc_it walk_valuesT (fun i H => W ((xs.map (·.2)).drop i) H) (by rw [List.drop_zero]; exact h0) (fun i H _ h => hf _ H h) (fun i v H H' hi h y => ?_) fun H h => ?_
  · obtain ⟨rfl, k, e⟩ := y
    obtain ⟨x, e2, e3⟩ := RsK_at r e
    have h' : W ((xs.map (·.2)).drop i) H' := h
    rw [drop_cons e2] at h'
    exact hs _ _ v H' e3 h'
  · have h' : W ((xs.map (·.2)).drop kvs.length) H := h
    rw [hl, show xs.length = (xs.map (·.2)).length from (List.length_map _).symm, List.drop_length] at h'
    exact hd H h'
theorem lc_tk {a : Addr} {bs : List Addr} {xs : List TI} (W : List TI → Hp → Prop) (h0 : W xs (upd H1 Dl (.lst []))) (hf : ∀ ts H, W ts H → H a = some (.lst (bs.map V.ref)) ∧ TK H bs xs)
    (hs : ∀ x ts b H, H b = some (.tup (x.l.map V.int)) → W (x :: ts) H → g (.ref b) (wipe σ vs) H fun σ2 H2 => wipe σ2 vs = wipe σ vs ∧ tt σ2 H2 fun b H3 =>
        if b = true then te σ2 H3 fun y H4 => ∃ acc, H4 Dl = some (HO.lst acc) ∧ acc.length < sizeLine ∧ W ts (upd H4 Dl (HO.lst (acc ++ [y]))) else W ts H3) (hd : ∀ H, W [] H → Qd H) :
    ∃ W : Nat → Nat → Hp → Prop, (∃ m, W 0 m (upd H1 Dl (HO.lst []))) ∧ ∀ (i m : Nat) (H : Hp), W i m H → (Itl K a).stop i H ∧ Qd H ∨
      (Itl K a).go i H ∧ ∃ Nx : Hp → Prop, (∀ (H' : Hp), Nx H' → ∃ m', m' < m ∧ W (i + 1) m' H') ∧ ∀ (x : V) (H' : Hp), (Itl K a).yld i H x H' →
        g x (wipe σ vs) H' fun σ2 H2 => wipe σ2 vs = wipe σ vs ∧ tt σ2 H2 fun b H3 => if b = true then te σ2 H3 fun y H4 => ∃ acc, H4 Dl = some (HO.lst acc) ∧ acc.length < sizeLine ∧ Nx (upd H4 Dl (HO.lst (acc ++ [y]))) else Nx H3 := by
  have hl : bs.length = xs.length := prd_len (hf _ _ h0).2
  refine lc_list (xs := bs.map V.ref) (fun i H => W (xs.drop i) H) (by rw [List.drop_zero]; exact h0) (fun i H _ h => .inl (.inl (hf _ H h).1)) (fun i v H e h => ?_) fun H h => ?_
  · rw [List.getElem?_map] at e
    cases e2 : bs[i]? with
    | none => rw [e2] at e; cases e
    | some b =>
      rw [e2] at e
      cases e
      obtain ⟨t, e3, e4⟩ := prd_getL (hf _ H h).2 e2
      have h' : W (xs.drop i) H := h
      rw [drop_cons e3] at h'
      exact hs t _ b H e4 h'
  · have h' : W (xs.drop (bs.map V.ref).length) H := h
    rw [List.length_map, hl, List.drop_length] at h'
    exact hd H h'
/-- two lists, pair by pair -/
theorem lc_zip {α : Type} [TD α] {F : Hp} {a b : Addr} {us ws : List V} {xs : List α} {ys : List β} (W : List (α × β) → Hp → Prop) (rx : Rs F us xs) (ry : Rs F ws ys) (h0 : W (xs.zip ys) (upd H1 Dl (.lst [])))
    (hf : ∀ ts H, W ts H → H a = some (.lst us) ∧ H b = some (.lst ws))
    (hs : ∀ p ts v w T H, R F v p.1 → R F w p.2 → H T = none → W (p :: ts) H → g (.ref T) (wipe σ vs) (upd H T (.tup [v, w])) fun σ2 H2 => wipe σ2 vs = wipe σ vs ∧ tt σ2 H2 fun b H3 =>
        if b = true then te σ2 H3 fun y H4 => ∃ acc, H4 Dl = some (HO.lst acc) ∧ acc.length < sizeLine ∧ W ts (upd H4 Dl (HO.lst (acc ++ [y]))) else W ts H3) (hd : ∀ H, W [] H → Qd H) :
    ∃ W : Nat → Nat → Hp → Prop, (∃ m, W 0 m (upd H1 Dl (HO.lst []))) ∧ ∀ (i m : Nat) (H : Hp), W i m H → (Itz K a b).stop i H ∧ Qd H ∨
      (Itz K a b).go i H ∧ ∃ Nx : Hp → Prop, (∀ (H' : Hp), Nx H' → ∃ m', m' < m ∧ W (i + 1) m' H') ∧ ∀ (x : V) (H' : Hp), (Itz K a b).yld i H x H' →
        g x (wipe σ vs) H' fun σ2 H2 => wipe σ2 vs = wipe σ vs ∧ tt σ2 H2 fun b H3 => if b = true then te σ2 H3 fun y H4 => ∃ acc, H4 Dl = some (HO.lst acc) ∧ acc.length < sizeLine ∧ Nx (upd H4 Dl (HO.lst (acc ++ [y]))) else Nx H3 := by
  have l1 := Rs_len rx
  have l2 := Rs_len ry
  refine lc_it (walk_zip (xs := us) (ys := ws) rfl) (fun i H => W ((xs.zip ys).drop i) H) (by rw [List.drop_zero]; exact h0) (fun i H _ h => ⟨.inl (.inl (hf _ H h).1), .inl (.inl (hf _ H h).2)⟩) (fun i v H H' hi h y => ?_) fun H h => ?_
  · obtain ⟨T, x, w, rfl, hT, rfl, e1, e2⟩ := y
    obtain ⟨d1, f1, r1⟩ := rx.get' e1
    obtain ⟨d2, f2, r2⟩ := ry.get' e2
    rw [List.getElem?_map] at f1 f2
    cases g1 : xs[i]? with
    | none => rw [g1] at f1; cases f1
    | some x1 =>
      cases g2 : ys[i]? with
      | none => rw [g2] at f2; cases f2
      | some y1 =>
        rw [g1] at f1; rw [g2] at f2
        cases f1; cases f2
        have e3 : (xs.zip ys)[i]? = some (x1, y1) := List.getElem?_zip_eq_some.mpr ⟨g1, g2⟩
        have h' : W ((xs.zip ys).drop i) H := h
        rw [drop_cons e3] at h'
        exact hs (x1, y1) _ x w T H r1 r2 hT h'
  · have h' : W ((xs.zip ys).drop (min us.length ws.length)) H := h
    rw [l1, l2, ← List.length_zip, List.drop_length] at h'
    exact hd H h'
end
theorem RsK_keys {κ α β : Type} [TD β] {key : α → κ} {F : Hp} {kvs : List (κ × V)} {xs : List (α × β)} (r : RsK key F kvs xs) : kvs.map (·.1) = (xs.map (·.1)).map key := by
  induction r with
  | nil => rfl
  | cons h _ ih => rw [List.map_cons, List.map_cons, List.map_cons, ih, h.1]
theorem x_zip {tA : TA} {K : PySem.W.Frag} {σ : L2.St} {H : Hp} {R : It → Hp → Prop} (h : tA σ H fun vs H1 => ∃ (a b : Addr) (xs ys : List V), vs = [.ref a, .ref b] ∧ SqL K H1 a xs ∧ SqL K H1 b ys ∧ R (Itz K a b) H1) : iZip K tA σ H R := h
/-! #### data of any kind, all of it new -/
def noLst : PyData → Bool
  | .none => true
  | .bool _ => true
  | .int _ => true
  | .str _ => true
  | _ => false
theorem NR_flat {H0 F : Hp} {v : V} {d : PyData} (h : R (α := PyData) F v d) (c : noLst d = true) : NR (α := PyData) H0 F v d := by
  have h : RD F v d := h
  show RN H0 F v d
  cases h with
  | non => exact .non
  | bl b => exact .bl b
  | int i => exact .int i
  | str x => exact .str x
  | lst _ _ => cases c
  | tup _ _ => cases c
  | dic _ _ => cases c
theorem NRs_at {α : Type} [TD α] {H0 F : Hp} {us : List V} {xs : List α} {i : Int} {x : α} (r : NRs H0 F us xs) (h : atI xs i = some x) : ∃ u, atI us i = some u ∧ NR H0 F u x := by
  obtain ⟨u, hu, d⟩ := Rs_at (NRs_rs r) h
  refine ⟨u, hu, NRs_mem r ?_ d⟩
  unfold atI at hu
  cases e : ixN us.length i with
  | none => rw [e] at hu; cases hu
  | some j => rw [e] at hu; exact List.mem_of_getElem? (show us[j]? = some u from hu)
theorem OwL.ne_clear {p q : Addr} {as : List Addr} (h : q ∉ p :: as) : q ∉ p :: ([] : List Addr) := fun z => h (by rw [List.mem_singleton.mp z]; exact List.mem_cons_self)
def relS (scope sc : Scope) : Scope := { scope with names := scope.names.map fun (n, k) => if (k == NameKind.free && sc.kind == .function && sc.names.lookup n == some .cell) then (n, NameKind.cell) else (n, k) }
theorem blkOk_in {X : Cx} {s : Shared} {H : Hp} {scope' scope sc : Scope} {cl : List (Str × Addr)} {C : Addr} {fp : List Addr} {env : Env} {own : List (Str × Nat)} {N : List Str} (hN : X.N = N) (he : env.scope = sc) (h : blkC N (relS scope' sc) scope own = true) :
    BlkOk (X.blk s H scope' (compEnvC scope' cl C env) fp).N (X.blk s H scope' (compEnvC scope' cl C env) fp).env.scope scope own := by
  subst hN he
  exact blkOk_by h
theorem R_anyLL {F : Hp} {v : V} {x : List (List PyData)} (h : R F v x) : R (α := PyData) F v (PyData.list (x.map fun z => PyData.list z)) := by
  have e : (TD.d x : PyData) = PyData.list (x.map fun z => PyData.list z) := by
    show PyData.list (x.map TD.d) = _
    refine congrArg PyData.list (List.map_congr_left fun z _ => ?_)
    show PyData.list (z.map TD.d) = _
    rw [any_id]
  have h : RD F v (TD.d x) := h
  rw [e] at h; exact h
end My

/-! ## an exception out of a comprehension's block -/
namespace My
open PySem PySem.Spec PyProof.Rows L2
section
variable {M : Model} {A : Around} {E : Value → Shared → Prop} {s : Shared} {env : Env}
/-- how a block ends, its own frame in sight -/
def EndX (M : Model) (A : Around) (E : Value → Shared → Prop) (Q : Value → Shared → Prop) (acc : Value) (ce : Env) (r : Result) (t : Shared) : Prop :=
  ∃ m, t.heap.Ns ce.locals m ∧ ∀ g, Heap.SameBut ce.locals t.heap g → match r with
    | .ok _ => Q acc { t with heap := g }
    | .error x => wpAny M A (passOn "comprehension.variables-let-go" x ce : Sem Value) (fun _ _ => False) E { t with heap := g }
theorem wp_compX {e : Expr} {sc : Scope} {pos : Pos} {nA fst : Sem Value} {g : Comprehension} {gs : List Comprehension} {cl : List (Str × Addr)} {Q : Value → Shared → Prop}
    (h1 : clausesOf e = g :: gs) (h2 : ∀ x, foldedSetIterable g.iter env x = pure x) (h3 : closureFor sc env = pure cl) (hk : sc.kind = .function) (h4 : ∀ x ∈ sc.names, x.2 = .local → sc.names.lookup x.1 = some .local)
    (h : wpAny M A fst (fun x s1 => wpAny M A (pyIter x) (fun it s2 => wpAny M A nA (fun acc s3 => wpAny M A (newFunctionEnv sc env.globals cl [] env.qual none .none (some env))
      (fun ce s4 => codeAny M A (.compStart e 0 it acc { ce with scope := relabel sc env }) (EndX M A E Q acc { ce with scope := relabel sc env }) s4) E s3) E s2) E s1) E s) :
    wpAny M A (comprehension e sc env pos nA false fst none) Q E s := by
  unfold comprehension
  rw [h3, h1]
  refine wpAny_bind (thn h fun x s1 k1 => wpAny_bind (wpAny_standAt (wpAny_bind (wpAny_of_eq (h2 x) (wpAny_bind (wpAny_holding (thn k1 fun it s2 k2 => wpAny_standIf (wpAny_bind (thn k2 fun acc s3 k3 => wpAny_bind (wpAny_pure (wpAny_bind (thn k3 fun ce s4 k4 => ?_))))))))))))
  dsimp only
  have hv : ∀ x ∈ (sc.names.filter fun x => (x.2 == .local || x.2 == .cell) && x.1 != (".0" : Str)).reverse, x.2 = .local → Env.kindOf { ce with scope := relabel sc env } x.1 = some .local :=
    fun x hx hl => lookup_relabel_local (h4 x (List.mem_filter.mp (List.mem_reverse.mp hx)).1 hl)
  refine wpAny_holding (wpAny_bind (wpAny_attempt (wpAny_holding (wpAny_run (codeAny_mono k4 fun r t hr => ?_)))))
  obtain ⟨m, hn, hr⟩ := hr
  cases r with
  | ok f => exact wpAny_bind (wpAny_holding (wpAny_comp_letGo (cenv := { ce with scope := relabel sc env }) hk _ t m hv hn fun g _ _ sb => wpAny_pure (hr g sb)))
  | error x => exact wpAny_bind (wpAny_holding (wpAny_comp_letGo (cenv := { ce with scope := relabel sc env }) hk _ t m hv hn fun g _ _ sb => wpAny_mono (hr g sb) (fun _ _ z => z.elim) fun _ _ y => y))
end
/-! #### what flies -/
theorem cx_fly {P : Program} {w : World} {l : List Env} {H : Hp} {s : Shared} {E : XK} {u : Value} {t : Shared} (c : CX P w l H s E u t) : ∃ (a : Addr) (B : Heap) (Z : Obj → Prop), u = .ref a ∧ HandSPX.TracedZ t.heap B a Z .none := by
  obtain ⟨a, B, _, _, _, e, fl, _⟩ := c
  exact ⟨a, B, _, e, fl.2.2.2⟩
theorem sky_fly {B B0 : Heap} {l : List Env} {a : Addr} {Z Z0 : Obj → Prop} {L : Addr} {h : Heap} (k : Sky B l a Z L h) (z : HandSPX.TracedZ h B0 a Z0 .none) : HandSPX.FlyingZ B l a Z h := by
  obtain ⟨o, vs, T, oT, ts, e1, _, e2, e3, _, _, e4, e5, e6⟩ := z
  rcases k with ⟨_, _, _, o', vs', e1', _, e2', e3'⟩ | k | ⟨_, _, _, o', vs', T', oT', ts', e1', _, e2', e3', _, _, e4', e5', e6'⟩
  · rw [e1] at e1'; cases e1'
    rw [e2] at e2'; cases e2'
    rw [e3] at e3'; cases e3'
  · exact k
  · rw [e1] at e1'; cases e1'
    rw [e2] at e2'; cases e2'
    rw [e3] at e3'; cases e3'
    rw [e4] at e4'; cases e4'
    rw [e5] at e5'; cases e5'
    rw [e6] at e6'
    cases e6'
/-- the frames stand, whatever one other object has become -/
theorem frames_but {C : Addr} {h g B B' : Heap} (sb : Heap.SameBut C h g) : ∀ {l : List Env}, h.FunFrames B l → C ∉ frs l → (∀ b, B.get? b = none → B'.get? b = none) → g.FunFrames B' l
  | [], _, _, _ => trivial
  | e :: l, ⟨k1, ⟨L, o, k2, k3, k4, k5⟩, k6⟩, hC, hB => ⟨k1, ⟨L, o, k2, hB _ k3, (sb.2 L fun z => hC (List.mem_filterMap.mpr ⟨e, List.mem_cons_self, z ▸ k2⟩)).trans k4, k5⟩,
      frames_but sb k6 (fun m => by
        obtain ⟨e', m1, m2⟩ := List.mem_filterMap.mp m
        exact hC (List.mem_filterMap.mpr ⟨e', List.mem_cons_of_mem _ m1, m2⟩)) hB⟩
theorem held_but {C : Addr} {h g B B' : Heap} {l : List Env} {a L : Addr} {Z : Obj → Prop} (sb : Heap.SameBut C h g) (hh : HandSPX.HeldZ B l a Z L h) (hC : C ∉ frs l) (hB : ∀ b, b ≠ C → B'.get? b = B.get? b) (hBC : B'.get? C = none) (inB : ∃ o, B.get? C = some o) :
    HandSPX.HeldZ B' l a Z L g := by
  obtain ⟨k1, k2, k3, o, vs, T, oT, ts, e1, z, e2, e3, e4, e5, e6, e7, e8⟩ := hh
  obtain ⟨oC, eC⟩ := inB
  have nB : ∀ b, B.get? b = none → B'.get? b = none := fun b q => by
    by_cases e : b = C
    · rw [e]; exact hBC
    · rw [hB b e]; exact q
  have ne : ∀ b, B.get? b = none → b ≠ C := fun b q z => by rw [z, eC] at q; cases q
  exact ⟨fun b u q => by
      have hb : b ≠ C := fun z => by rw [z, hBC] at q; cases q
      rw [hB b hb] at q
      exact (sb.2 b hb).trans (k1 b u q), nB a k2, frames_but sb k3 hC nB, o, vs, T, oT, ts, (sb.2 a (ne a k2)).trans e1, z, e2, e3, nB T e4, e5, (sb.2 T (ne T e4)).trans e6, e7, e8⟩
/-- an exception in the air of a block -/
def AirB (P : Program) (w : World) (l : List Env) (s3 : Shared) (H3 : Hp) (fp : List Addr) (C : Addr) (W : XK) (u : Value) (t : Shared) : Prop :=
  ∃ (a : Addr) (B : Heap) (r : Shared) (H : Hp) (cls : Value) (d : Option Addr), u = .ref a ∧ r.os = s3.os ∧ AllBare r.gens ∧ Un (frs l) fp H3 H s3.heap r.heap ∧ HOk P w H r.heap ∧ (∃ m, r.heap.Ns C m) ∧ H C = none ∧
    (∀ b o, r.heap.get? b = some o → b ∉ frs l → B.get? b = some o) ∧ r.heap.UpToSlots t.heap ∧ HandSPX.FlyingZ B l a (Zc cls d) t.heap ∧ H a = none ∧ t.os = r.os ∧ AllBare t.gens ∧ W cls d H
abbrev blkX (X : Cx) (s : Shared) (H : Hp) (scope : Scope) (cenv : Env) (fp : List Addr) (W : XK) : Cx := (X.blk s H scope cenv fp).wish (AirB X.prog X.w X.stack s H fp cenv.locals W)
theorem pass_blk {X : Cx} {s : Shared} {H : Hp} {scope : Scope} {cenv : Env} {fp : List Addr} {W : XK} (σ : L2.St) : PassesAt (L2.CX X.prog X.w) (blkX X s H scope cenv fp W) σ W := fun pins H0 s0 u t I c => by
  obtain ⟨a0, B0, Z0, e0, z⟩ := cx_fly c
  obtain ⟨a, B, r, pins', σ', H', cls, d, e, J, nb, up, sky, na, os, ag, w⟩ := XE.of_call (W := fun c d _ H => W c d H) I (fun _ _ _ h => h) c
  obtain ⟨m, hn, _⟩ := J.loc
  rw [e0] at e
  injection e with e
  subst e
  exact ⟨a0, B, r, H', cls, d, e0, J.os, J.bare, J.base, J.hok, ⟨m, hn⟩, J.free, nb, up, sky_fly sky z, na, os, ag, w⟩
/-! #### the comprehension that may raise -/
section
variable {X : Cx}
/-- as tLc, the item's own wish about what flies -/
def tLcX (wi : L2.TI) (g : TG) (tt : TT) (te : XK → TE) (W : WX) (vs : List Nat) : TE := fun σ H Q => tLc wi g tt (te fun c d H' => W c d σ H') vs σ H Q
variable {pins : List (Addr × Obj)} {s3 : Shared} {σ : L2.St} {H3 : Hp} {fp : List Addr} {ce : Env} {W : WX} {Q : VK} {D : Addr}
/-- an exception reaches the comprehension's end -/
theorem air_end (hs : X.stack = X.env :: X.outer) (hf : X.env.frame = some X.env.locals) (tk : Takes X W) (I3 : Inv X pins σ H3 s3) (hfp : ∀ b ∈ fp, FpOk X pins H3 b ∧ b < s3.heap.objs.size)
    (cf : ce.frame = X.env.frame) (cL : ce.locals = s3.heap.objs.size) {acc : Value} {u : Value} {t : Shared} (x : AirB X.prog X.w X.stack s3 H3 fp ce.locals (fun c d H' => W c d σ H') u t) :
    notedBy (model X.prog X.w) X.A ce (fun e t' => EndX (model X.prog X.w) X.A X.xe (EP X pins σ Q) acc ce (.error e) t') u t := by
  obtain ⟨a, B, r, H, cls, d, rfl, ro, rg, un, hok, ⟨m, hn⟩, nC, nb, up, fl, na, os, ag, w⟩ := x
  have hfr : X.A.frames = some (X.env :: X.outer) := by rw [I3.ok.frames, hs]
  have hCs : ce.locals ∉ frs X.stack := fun z => by
    obtain ⟨_, o, q, _⟩ := I3.stack.mem z
    have := Heap.lt_size q
    rw [cL] at this
    exact Nat.lt_irrefl _ this
  have nf : (noteFrame (.ref a) ce : Sem Unit) = noteFrame (.ref a) X.env := by
    unfold noteFrame PySem.frameOf
    rw [cf]
  show wpAny _ _ (noteFrame (.ref a) ce) _ _ _
  rw [nf]
  rw [hs] at fl
  refine HandSPX.looks_onZ Zc.steady hfr hf fl fun h1 hh up1 => ?_
  rw [← hs] at hh
  obtain ⟨oC, ocs, oce, eC, rC⟩ := id hn
  have bC := nb _ _ eC hCs
  refine ⟨m, ⟨oC, ocs, oce, hh.1 _ _ bC, rC⟩, fun g sb => ?_⟩
  obtain ⟨B', b1, b2⟩ := restrict B fun b => decide (b ≠ ce.locals)
  obtain ⟨G, g1, g2⟩ := restrict r.heap fun b => decide (b ≠ ce.locals)
  have b1' : ∀ b, b ≠ ce.locals → B'.get? b = B.get? b := fun b z => b1 b (decide_eq_true z)
  have b2' : B'.get? ce.locals = none := b2 _ (decide_eq_false fun z => z rfl)
  have g1' : ∀ b, b ≠ ce.locals → G.get? b = r.heap.get? b := fun b z => g1 b (decide_eq_true z)
  have g2' : G.get? ce.locals = none := g2 _ (decide_eq_false fun z => z rfl)
  have inG : ∀ b o, G.get? b = some o → b ≠ ce.locals ∧ r.heap.get? b = some o := fun b o e => by
    have z : b ≠ ce.locals := fun z => by rw [z, g2'] at e; cases e
    exact ⟨z, by rw [g1' b z] at e; exact e⟩
  have hg := held_but (B' := B') sb hh hCs b1' b2' ⟨_, bC⟩
  have old : ∀ b o, s3.heap.get? b = some o → b ≠ ce.locals := fun b o e z => by
    have := Heap.lt_size e
    rw [z, cL] at this
    exact Nat.lt_irrefl _ this
  have un' : Un (frs X.stack) fp H3 H s3.heap G := ⟨fun b o e n hb hx => (g1' b (old b o e)).trans (un.keep b o e n hb hx), fun b o e n hb hx => by
      obtain ⟨sl, q⟩ := un.slot b o e n hb hx
      exact ⟨sl, (g1' b (old b o e)).trans q⟩, un.free, fun b o e hx => by
      obtain ⟨o', q⟩ := un.there b o e hx
      exact ⟨o', (g1' b (old b o e)).trans q⟩, un.tups, un.frzs, un.tbls⟩
  have hok' : HOk X.prog X.w H G := fun b o q => (hok b o q).stay (fun c v hc z => (g1' c fun y => by
      rcases hc with hc | hc
      · rw [← hc, y, nC] at q; cases q
      · rw [y, nC] at hc; cases hc).trans z) (fun _ z => z) fun _ _ z => z
  have J : Inv X pins σ H { r with heap := G } := I3.call' (ch := fp) (s' := { r with heap := G }) ro un' hok' rg fun b hb => ⟨(hfp b hb).1.2.2.2.1, (hfp b hb).1.2.1, (hfp b hb).1.2.2.2.2.1, (hfp b hb).1.2.2.2.2.2⟩
  obtain ⟨k1, k2, k3, oe, vs, T, oT, ts, e1, z1, e2, e3, e4, e5, e6, e7, e8⟩ := id hg
  have fin : wpAny (model X.prog X.w) X.A (setFlight (.ref a) ce.frame) (fun _ s4 => wpAny (model X.prog X.w) X.A (throw (.ref a) : Sem Value) (fun _ _ => False) X.xe s4) X.xe { t with heap := g } := by
    rw [cf, hf]
    refine HandSPX.setFlight_onZ hg fun h4 hh4 up4 => wpAny_throw (tk _ _ ?_)
    refine ⟨a, B', { r with heap := G }, pins, σ, H, cls, d, rfl, J, fun b o e hb => ?_, fun b o e hd => ?_, .inr (.inr hh4), na, os, ag, w⟩
    · obtain ⟨z, q⟩ := inG b o e
      exact (b1' b z).trans (nb b o q hb)
    · obtain ⟨z, q⟩ := inG b o e
      obtain ⟨sl1, q1⟩ := up b o q hd
      obtain ⟨sl2, q2⟩ := up1 b _ q1 hd
      obtain ⟨sl3, q3⟩ := up4 b _ ((sb.2 b z).trans q2) hd
      exact ⟨sl3, q3⟩
  show wpAny _ _ (passOn "comprehension.variables-let-go" (.ref a) ce : Sem Value) _ _ _
  unfold PySem.passOn
  refine wpAny_bind (wpAny_field e1 e2 e3 ?_)
  rw [if_neg (show ¬ ((Value.ref T == Value.none) = true) from by simp)]
  first
    | exact wpAny_bind (wpAny_pure (wpAny_bind fin))
    | exact wpAny_bind fin
/-- a comprehension whose item may raise -/
theorem pe_lcX {elt tg iter : Expr} {ifs : List Expr} {scope : Scope} {own : List (Str × Nat)} {pos : Pos} {wi : L2.TI} {g : TG} {tt : TT} {te : XK → TE} (hs : X.stack = X.env :: X.outer) (hf : X.env.frame = some X.env.locals) (hc : X.calm = true) (hN : X.N.Nodup) (tk : Takes X W)
    (hi : PI X tg iter wi) (ok : BlkOk X.N X.env.scope scope own)
    (hg : ∀ (s : Shared) (H : Hp) (C : Addr) (cl : List (Str × Addr)) (fp : List Addr) (w : XK), PG (blkX X s H scope (compEnvC scope cl C X.env) fp w) tg g)
    (ht : ∀ (s : Shared) (H : Hp) (C : Addr) (cl : List (Str × Addr)) (fp : List Addr) (w : XK), PTs (blkX X s H scope (compEnvC scope cl C X.env) fp w) ifs tt)
    (he : ∀ (s : Shared) (H : Hp) (C : Addr) (cl : List (Str × Addr)) (fp : List Addr) (w : XK), PE (blkX X s H scope (compEnvC scope cl C X.env) fp w) elt (te w)) (hq : ∀ x, foldedSetIterable iter X.env x = pure x := by intro _; rfl) :
    PE X (.ListComp elt [⟨tg, iter, ifs, 0⟩] scope pos) (tLcX wi g tt te W (own.map (·.2))) := by
  refine ⟨fun pins s σ H Q I h => ?_⟩
  rw [eval_ListComp]
  have fr : ∀ y ∈ scope.names, y.2 = .free → ∃ c, X.env.cells.lookup y.1 = some c := fun y hy e => (ok.free y hy e).elim (fun k => I.ok.has _ (.inl k)) fun k => I.ok.has _ (.inr k)
  refine wp_compX rfl hq (closure_ok fr) ok.kind (fun y hy e => by rw [ok.uniq y hy, e]) (thn (hi.run pins s σ H _ I h) fun xv s1 hx => thn hx fun itv s2 hz => ?_)
  obtain ⟨it, fp, tn, J, H2, e, I2, T, st2, f2, q⟩ := hz
  subst e
  refine wpAny_newObj_type (newEnv_comp ?_) (by show 0 ≤ sizeLine; decide)
  generalize hD : s2.heap.objs.size = D
  have nD : H2 D = none := I2.hok.fresh (Nat.le_of_eq hD)
  obtain ⟨V, ⟨m0, v0⟩, turn⟩ := q D nD
  generalize hs3 : ({ s2 with heap := s2.heap.push { cls := .type "list", data := .seq ([] : List Value).toArray } } : Shared) = s3
  have I3 : Inv X pins σ (upd H2 D (.lst [])) s3 := by
    rw [← hs3]
    refine I2.laid (t' := s2.toks) (fun b o e => Heap.get?_push_of_some _ e) (Nat.le_of_eq hD) ⟨Nat.zero_le _, [], 0, .nil, ?_⟩
    rw [← hD]; exact Heap.get?_push_size _ rfl
  have g3 : s3.heap = s2.heap.push { cls := .type "list", data := .seq ([] : List Value).toArray } := by rw [← hs3]
  have lt : ∀ b ∈ fp, b < s2.heap.objs.size := fun b hb => (T.obj _ _ st2 b hb).elim fun o z => Heap.lt_size z.1
  have f3 : ∀ b ∈ fp, FpOk X pins (upd H2 D (.lst [])) b ∧ b < s3.heap.objs.size := fun b hb =>
    ⟨⟨by rw [upd_ne (hD ▸ Nat.ne_of_lt (lt b hb))]; exact (f2 b hb).1, (f2 b hb).2⟩, by rw [g3, Heap.size_push]; exact Nat.lt_succ_of_lt (lt b hb)⟩
  have st3 : tn 0 s3.heap := T.keep _ _ _ st2 fun b _ o e => by rw [g3]; exact Heap.get?_push_of_some _ e
  generalize hw : (fun c d H' => W c d σ H' : XK) = w at turn
  generalize hcl : cellsFrom (s3.heap.objs.size + 1) scope.names (cloFrom X.env.cells scope.names []) = cl
  have I4 := (hcl ▸ block_start I3 ok hN f3 : Inv (X.blk s3 (upd H2 D (.lst [])) scope (compEnvC scope cl s3.heap.objs.size X.env) fp) [] _ _ _)
  have pg := hg s3 (upd H2 D (.lst [])) s3.heap.objs.size cl fp w
  have pt := ht s3 (upd H2 D (.lst [])) s3.heap.objs.size cl fp w
  have pe := he s3 (upd H2 D (.lst [])) s3.heap.objs.size cl fp w
  show codeAny _ _ (.compStart (.ListComp elt [⟨tg, iter, ifs, 0⟩] scope pos) 0 (.ref it) (.ref D) (compEnvC scope cl s3.heap.objs.size X.env)) (EndX _ _ _ _ (.ref D) (compEnvC scope cl s3.heap.objs.size X.env)) { s3 with heap := pushCells (s3.heap.push { cls := .type "dict", data := .dict #[] }) scope.names }
  have nfp : ∀ b ∈ fp, (upd H2 D (.lst [])) b = none := fun b hb => (f3 b hb).1.1
  generalize hce : compEnvC scope cl s3.heap.objs.size X.env = ce at I4 pg pt pe ⊢
  have cL : ce.locals = s3.heap.objs.size := by rw [← hce]; rfl
  have cf : ce.frame = X.env.frame := by rw [← hce]; rfl
  generalize hH3 : upd H2 D (.lst []) = H3 at I3 I4 pg pt pe v0 nfp f3
  generalize hs4 : ({ s3 with heap := pushCells (s3.heap.push { cls := .type "dict", data := .dict #[] }) scope.names } : Shared) = s4 at I4 ⊢
  have I4 : Inv (blkX X s3 H3 scope ce fp w) [] (wipe σ (own.map (·.2))) H3 s4 := I4.wish _
  have st4 : tn 0 s4.heap := T.keep _ _ _ st3 fun b _ o e => by rw [← hs4]; exact pushCells_keeps _ _ _ _ (Heap.get?_push_of_some _ e)
  have stat : ∀ {σ' : L2.St} {H' : Hp} {s' : Shared}, Inv (blkX X s3 H3 scope ce fp w) [] σ' H' s' → (∀ b ∈ fp, H' b = none) → ∀ b ∈ fp, FpOk (blkX X s3 H3 scope ce fp w) [] H' b := fun I' hn b hb =>
    ⟨hn b hb, (I'.ok.exf b hb).1, I'.ok.exfs b hb, .inl hb, fun x c e => (I'.ok.exf b hb).2 x c e, fun p hp => nomatch (show p ∈ ([] : List (Addr × Obj)) from hp)⟩
  have out : ∀ u t, (blkX X s3 H3 scope ce fp w).xe u t → notedBy (model X.prog X.w) X.A ce (fun e t' => EndX (model X.prog X.w) X.A X.xe (EP X pins σ Q) (.ref D) ce (.error e) t') u t := fun u t x => by
    subst hw
    exact air_end hs hf tk I3 f3 cf cL x
  have loop : codeAny (model X.prog X.w) X.A (.compLoop (.ListComp elt [⟨tg, iter, ifs, 0⟩] scope pos) 0 (.ref it) (.ref D) ce) (EndX (model X.prog X.w) X.A X.xe (EP X pins σ Q) (.ref D) ce) s4 := by
    refine compLoop_any (fun n t => ∃ i H', Inv (blkX X s3 H3 scope ce fp w) [] (wipe σ (own.map (·.2))) H' t ∧ tn i t.heap ∧ (∀ b ∈ fp, H' b = none) ∧ V i n H') ?_ m0 ⟨0, H3, I4, st4, nfp, v0⟩
    rintro n t ⟨i, H5, I5, st5, n5, v5⟩
    rcases turn i n H5 v5 with ⟨stop, qq⟩ | ⟨go, Nx, hNx, step⟩
    · refine thnF (T.done (blkX X s3 H3 scope ce fp w) rfl rfl rfl hc i [] t _ H5 (fun _ _ => False) I5 (stat I5 n5) st5 stop) fun r s6 ⟨hr, I6⟩ => ?_
      subst hr
      have I7 : Inv X pins σ H5 s6 := I3.call' (ch := fp) I6.os I6.base I6.hok I6.bare fun b hb => ⟨(f3 b hb).1.2.2.2.1, (f3 b hb).1.2.1, (f3 b hb).1.2.2.2.2.1, (f3 b hb).1.2.2.2.2.2⟩
      have nC : H5 ce.locals = none := I6.free
      obtain ⟨m, hn, _⟩ := I6.loc
      obtain ⟨k0, k1, k2, k3, k4, k5⟩ := I3.fpOk (b := ce.locals) (H' := H5) (Nat.le_of_eq cL.symm) nC
      exact ⟨m, hn, fun g sb => ⟨.ref D, H5, I7.turned (t' := s6.toks) (fun b o hb e => (sb.2 b hb).trans e) k0 k1 k3 k4 k5, rfl, qq⟩⟩
    · refine thnF (T.item (blkX X s3 H3 scope ce fp w) rfl rfl rfl hc i [] t _ H5 (fun _ _ => False) I5 (stat I5 n5) st5 go) fun r s6 ⟨u, hr, h6⟩ => ?_
      subst hr
      refine thnF h6 fun _ s7 ⟨x, H7, I7, r7, y7, st7, n7⟩ => ?_
      have I7' := I7.pinned (stat I7 n7) (T.obj _ _ st7)
      refine wpAny_mono (pg.run _ s7 _ H7 x u _ I7' r7 (step x H7 y7)) (fun _ s8 ⟨σ8, H8, I8, hw8, q8⟩ => ?_) out
      refine wpAny_mono (pt.run _ s8 σ8 H8 _ I8 q8) (fun b s9 ⟨H9, I9, q9⟩ => ?_) out
      have fin : ∀ {s' : Shared} {H' : Hp}, Inv (blkX X s3 H3 scope ce fp w) ([] ++ pinsAt fp s7.heap) σ8 H' s' → Nx H' → ∃ m, m < n ∧ ∃ i H', Inv (blkX X s3 H3 scope ce fp w) [] (wipe σ (own.map (·.2))) H' s' ∧ tn i s'.heap ∧ (∀ b ∈ fp, H' b = none) ∧ V i m H' := fun {s' H'} I' nx => by
        obtain ⟨m', hm, v'⟩ := hNx H' nx
        have pin' : ∀ b ∈ fp, ∀ o, s7.heap.get? b = some o → s'.heap.get? b = some o ∧ H' b = none := fun b hb o e =>
          (I'.pin (b, o) (List.mem_append_right _ (List.mem_append_right _ (mem_pinsAt hb e)))).imp id fun z => z.1
        refine ⟨m', hm, i + 1, H', (I'.unpinned (pins := [])).weak (by rw [← hw8, wipe_length]) (fun j v e => (wipe_some (hw8.symm ▸ e : (wipe σ8 (own.map (·.2)))[j]? = _)).1), T.keep _ _ _ st7 fun b hb o e => (pin' b hb o e).1, fun b hb => ?_, v'⟩
        obtain ⟨o, e, _⟩ := T.obj _ _ st7 b hb
        exact (pin' b hb o e).2
      cases b with
      | false =>
        simp only [Bool.false_eq_true, if_false] at q9 ⊢
        exact fin I9 q9
      | true =>
        simp only [if_true] at q9 ⊢
        refine wpAny_mono (pe.run _ s9 σ8 H9 _ I9 q9) (fun z s10 ⟨yv, H10, I10, r10, acc, a1, a2, nx⟩ => ?_) out
        exact app_ok (X := blkX X s3 H3 scope ce fp w) I10 a1 a2 r10 fun s11 I11 => fin I11 nx
  exact codeAny_compStart_list loop (T.self X.A 0 _ _ _ st4 loop)
end
theorem x_lcX {wi : L2.TI} {g : TG} {tt : TT} {te : XK → TE} {W : WX} {vs : List Nat} {σ : L2.St} {H : Hp} {Q : VK} (h : tLc wi g tt (te fun c d H' => W c d σ H') vs σ H Q) : tLcX wi g tt te W vs σ H Q := h

/-! #### in, count, index over data that holds no dict -/
mutual
theorem RD.dpP {F H : Hp} {K : PySem.W.Frag} (s : Sub F H) : ∀ {d : PyData} {v : V}, d.plain = true → RD F v d → Dp K H v d
  | _, _, _, .non => .non
  | _, _, _, .bl b => .bl b
  | _, _, _, .int i => .int i
  | _, _, _, .str x => .str x
  | _, _, l, .lst h r => .lst (.inl (.inl (s _ _ h))) (RDs.dpP s (by simpa [PyData.plain] using l) r)
  | _, _, l, .tup h r => .tup (.inl (.inl (s _ _ h))) (RDs.dpP s (by simpa [PyData.plain] using l) r)
  | _, _, l, .dic h r => by simp [PyData.plain] at l
theorem RDs.dpP {F H : Hp} {K : PySem.W.Frag} (s : Sub F H) : ∀ {ds : List PyData} {us : List V}, PyData.plainAll ds = true → RDs F us ds → DpAll K H us ds
  | _, _, _, .nil => .nil
  | _, _, l, .cons h r => by
    simp only [PyData.plainAll, Bool.and_eq_true] at l
    exact .cons (RD.dpP s l.1 h) (RDs.dpP s l.2 r)
end
theorem Rs_bl {F : Hp} : ∀ {us : List V} {xs : List Bool}, Rs F us xs → us = xs.map V.bl
  | _, [], r => by cases r; rfl
  | _, x :: xs, r => by cases r with | cons h r => cases h; rw [Rs_bl r]; rfl
class PL (α : Type) [TD α] where
  dep : Nat
  pl : ∀ x : α, (TD.d x).plain = true
  dp : ∀ x : α, (TD.d x).depth ≤ dep
instance : PL Int := ⟨0, fun _ => rfl, fun _ => Nat.le_refl _⟩
instance : PL Bool := ⟨0, fun _ => rfl, fun _ => Nat.le_refl _⟩
instance : PL Str := ⟨0, fun _ => rfl, fun _ => Nat.le_refl _⟩
theorem pl_all {α : Type} [TD α] [PL α] : ∀ xs : List α, PyData.plainAll (xs.map TD.d) = true
  | [] => rfl
  | x :: xs => by
    show (PyData.plain (TD.d x) && PyData.plainAll (xs.map TD.d)) = true
    rw [PL.pl x, pl_all xs]; rfl
theorem dp_all {α : Type} [TD α] [PL α] : ∀ xs : List α, PyData.depthAll (xs.map TD.d) ≤ PL.dep α
  | [] => Nat.zero_le _
  | x :: xs => Nat.max_le.mpr ⟨PL.dp x, dp_all xs⟩
instance {α : Type} [TD α] [PL α] : PL (List α) := ⟨PL.dep α + 1, pl_all, fun xs => Nat.succ_le_succ (dp_all xs)⟩
section
variable {X : Cx}
def rInP (α : Type) [TD α] : R2 := fun x y H Q => ∃ (F : Hp) (a : α) (b : List α), Sub F H ∧ R F x a ∧ R F y b ∧ Q (.bl (memT a b)) H
def rNiP (α : Type) [TD α] : R2 := fun x y H Q => ∃ (F : Hp) (a : α) (b : List α), Sub F H ∧ R F x a ∧ R F y b ∧ Q (.bl (!memT a b)) H
theorem room_pl {α : Type} [TD α] [PL α] {A : Around} (hd : PL.dep α ≤ 50) (hu : A.units + 65 < cLine) (xs : List α) (x : α) : A.units + 1 + min (PyData.depthAll (xs.map TD.d)) (TD.d x).depth < cLine := by
  have h1 := dp_all xs
  have h2 := Nat.min_le_left (PyData.depthAll (xs.map TD.d)) (TD.d x).depth
  omega
theorem op_inP {α : Type} [TD α] [PL α] (hd : PL.dep α ≤ 50) (hu : X.A.units + 65 < cLine) : OpR X (compareOp .In) (rInP α) := by
  intro pins s σ H x y v u Q I rx ry h
  obtain ⟨F, a, b, sb, ha, hb, q⟩ := h
  obtain ⟨as, r1⟩ := Dp.reads I _ x v (ha.dpP (K := X.K) sb (PL.pl a)) rx
  obtain ⟨bs, r2⟩ := Dp.reads I _ y u (hb.dpP (K := X.K) sb (PL.pl b)) ry
  exact SeqAt.in_list_data r2 r1 (pl_all b) (PL.pl a) (room_pl hd hu b a) ⟨.bl _, H, I, rfl, by rw [any_eq]; exact q⟩
theorem op_niP {α : Type} [TD α] [PL α] (hd : PL.dep α ≤ 50) (hu : X.A.units + 65 < cLine) : OpR X (compareOp .NotIn) (rNiP α) := by
  intro pins s σ H x y v u Q I rx ry h
  obtain ⟨F, a, b, sb, ha, hb, q⟩ := h
  obtain ⟨as, r1⟩ := Dp.reads I _ x v (ha.dpP (K := X.K) sb (PL.pl a)) rx
  obtain ⟨bs, r2⟩ := Dp.reads I _ y u (hb.dpP (K := X.K) sb (PL.pl b)) ry
  exact SeqAt.notIn_list_data r2 r1 (pl_all b) (PL.pl a) (room_pl hd hu b a) ⟨.bl _, H, I, rfl, by rw [any_eq]; exact q⟩
def cntT {α : Type} [TD α] (x : α) (xs : List α) : Nat := xs.countP fun y => eqT y x
theorem count_eq {α : Type} [TD α] (x : α) (xs : List α) : ((xs.map TD.d).countP fun z => PyData.eqv z (TD.d x)) = cntT x xs := by
  unfold cntT
  rw [List.countP_map]
  rfl
def rCntP (α : Type) [TD α] : V → List V → Hp → VK → Prop := fun x vs H Q => ∃ (F : Hp) (p : Addr) (y : V) (a : α) (b : List α), x = .ref p ∧ vs = [y] ∧ Sub F H ∧ R F x b ∧ R F y a ∧ Q (.int (cntT a b : Nat)) H
theorem mt_countP {α : Type} [TD α] [PL α] (hd : PL.dep α ≤ 50) (hu : X.A.units + 65 < cLine) : MtR X "list.count" (rCntP α) := by
  intro pins s σ H x xs v us Q I rx rxs h
  obtain ⟨F, p, y, a, b, rfl, rfl, sb, hb, ha, q⟩ := h
  cases rx
  cases rxs with
  | cons ry rt =>
    cases rt
    obtain ⟨as, r1⟩ := Dp.reads I _ _ _ (ha.dpP (K := X.K) sb (PL.pl a)) ry
    obtain ⟨bs, r2⟩ := Dp.reads I _ (.ref p) (.ref p) (hb.dpP (K := X.K) sb (PL.pl b)) rfl
    cases r2 with
    | list h1 h2 h3 h4 => exact SeqAt.count_list_data ⟨_, h1, h2, _, h3⟩ h4 r1 (pl_all b) (PL.pl a) (room_pl hd hu b a) ⟨.int ((cntT a b : Nat) : Int), H, I.tok _, ⟨_, by rw [count_eq]⟩, q⟩
def idxB (x : Bool) (xs : List Bool) : Option Nat := xs.findIdx? fun y => y == x
theorem index_of {K : PySem.W.Frag} {F H : Hp} {p : Addr} {us : List V} {x : Bool} {xs : List Bool} {j : Nat} {Q : VK} (h : H p = some (.lst us)) (r : Rs F us xs) (e : idxB x xs = some j) (q : Q (.int (j : Nat)) H) : rIndex K (.ref p) [.bl x] H Q := by
  obtain rfl := Rs_bl r
  obtain ⟨h1, h2, h3⟩ := List.findIdx?_eq_some_iff_getElem.mp e
  refine ⟨p, _, .bl x, j, .bl xs[j], rfl, rfl, .inl (.inl h), rfl, ?_, ?_, ?_, fun m z hm hz => ?_, q⟩
  · exact List.all_eq_true.mpr fun z hz => by
      obtain ⟨b, _, rfl⟩ := List.mem_map.mp hz
      rfl
  · rw [List.getElem?_map, List.getElem?_eq_getElem h1]; rfl
  · have : xs[j] = x := beq_iff_eq.mp h2
    rw [this]; cases x <;> rfl
  · rw [List.getElem?_map, List.getElem?_eq_getElem (Nat.lt_trans hm h1)] at hz
    cases hz
    have := h3 m hm
    revert this
    generalize xs[m]'(Nat.lt_trans hm h1) = b
    cases b <;> cases x <;> simp <;> rfl
end

/-! #### isinstance of a kept exception, several classes -/
def erIn (o : Option Er) (es : List Er) : Bool := match o with | none => false | some e => es.any fun f => decide (e = f)
section
variable [ErT] {X : Cx}
def rIsXT (K : PySem.W.Frag) : List V → Hp → VK → Prop := fun xs H Q => ∃ (F : Hp) (x : V) (tp : Addr) (cs : List V) (us : List Value) (o : Option Er) (f : Er → Bool), xs = [x, .ref tp] ∧ H tp = some (.tup cs) ∧ Paired ClsV cs us ∧ Sub F H ∧ RX F x o ∧
  PySem.W.kitAny K (.type "NoneType") us = some false ∧ (∀ e, ExcC K (ErT.ad e) ∧ PySem.W.kitAny K (.ref (ErT.ad e)) us = some (f e)) ∧ Q (.bl (match o with | none => false | some e => f e)) H
theorem call_isXT : CallR X (.builtin "isinstance") (rIsXT X.K) := by
  intro pins s σ H xs us Q I r h
  obtain ⟨F, x, tp, cs, ws, o, f, rfl, hT, hc, sb, hx, kn, ke, q⟩ := h
  cases o with
  | none =>
    cases (show x = .non from hx)
    exact call_isiT pins s σ H _ us Q I r ⟨_, _, _, _, _, _, rfl, hT, hc, TyX.base .non, kn, q⟩
  | some e =>
    obtain ⟨a, rfl, ha⟩ := hx
    obtain ⟨kc, kf⟩ := ke e
    obtain ⟨u1, u2, rfl, r1, r2⟩ := vals2 r
    cases (show u1 = Value.ref a from r1)
    cases (show u2 = Value.ref tp from r2)
    obtain ⟨_, its, rv, ot, t1, t2, n, t3⟩ := (show ObjOk X.prog X.w H s.heap tp (.tup cs) from I.hok tp _ hT)
    have e3 := ClsV.all hc rv
    subst e3
    obtain ⟨tc, td, tt, tsl⟩ := ot
    simp only at t2 t3
    subst t2 t3
    obtain ⟨⟨oe, vs, hget, hz, hv⟩, _, _⟩ := I.hok a _ (sb _ _ ha)
    have J : PySem.W.InstAt s.heap a oe (ErT.ad e) none := by
      obtain ⟨oc, od, oda, osl⟩ := oe
      obtain ⟨h1, h2⟩ := hz
      dsimp only at h1 h2 hv
      subst h1 h2 hv
      exact ⟨hget, rfl, rfl, trivial⟩
    exact PySem.W.kia_tup (PySem.W.handS_kitx_exc kc.hg kc.hk kc.hs kc.hd kc.ha kc.hn kc.ht kc.hm) I.kIn J t1 kf (fun z => nomatch z) fun tk => ⟨.bl (f e), H, I.kept (t' := tk) fun _ _ z => z, rfl, q⟩
theorem isiXT_er {K : PySem.W.Frag} {mg : Str → Option Value} {F H : Hp} {v : V} {o : Option Er} {p : Addr} {Q : VK} (T : ErTxt K mg) (es : List Er) (s : Sub F H) (h : RX F v o) (hp : H p = some (.tup (es.map fun e => .ref (ErT.ad e)))) (q : Q (.bl (erIn o es)) H) : rIsXT K [v, .ref p] H Q := by
  refine ⟨F, v, p, _, es.map fun e => .ref (ErT.ad e), o, fun e => es.any fun f => decide (e = f), rfl, hp, ?_, s, h, ?_, fun e => ⟨T.c e, ?_⟩, q⟩
  · clear hp q
    induction es with
    | nil => exact .nil
    | cons e es ih => exact .cons (ClsV.own _) ih
  · clear hp q
    induction es with
    | nil => rfl
    | cons f es ih => exact kitAny_cons (T.non f) (fun _ => ih) (fun z => nomatch z)
  · clear hp q
    induction es with
    | nil => rfl
    | cons f es ih =>
      refine kitAny_cons (T.kit e f) (fun z => ?_) fun z => ?_
      · rw [ih]; simp [of_decide_eq_false z]
      · simp [of_decide_eq_true z]
end
/-! #### a method within a block: the written part named -/
section
variable {X : Cx} {K : PySem.W.Frag} {T id : String} {name : Str} {apos cpos : Pos} {o e : Expr} {es : List Expr} {to : TE} {t : TA} {r : V → List V → Hp → VK → Prop}
theorem pe_bmK (hK : X.K = K) (pa : PlainAttrs T) (slot : Slot T name id) (hty : typeOf (.builtin id) = pure (.type "method_descriptor")) (hm : MtR X id r) (ho : PE X o to) (ha : PA X (e :: es) t)
    (h1 : attributeBase o name X.env (eval o X.env) = eval o X.env := by rfl)
    (h2 : ((backTo cpos (starEach (e :: es) X.env)).all (fun x => !x.1) && (backToKw cpos (keywordEach [] X.env)).all (fun x => x.1.isSome) && decide ((e :: es).length + ([] : List Keyword).length + (if ([] : List Keyword).isEmpty then 0 else 1) < 30)) = true := by rfl)
    (h3 : (apos.endLine == cpos.line) = true := by rfl) (h4 : starEach (e :: es) X.env = (false, eval e X.env) :: starEach es X.env := by rfl) (h5 : (backTo cpos (starEach es X.env)).any (·.1) = false := by rfl) :
    PE X (.Call (.Attribute o name apos) (e :: es) [] cpos) (tBM K T r to t) := by
  subst hK
  exact pe_bm pa slot hty hm ho ha h1 h2 h3 h4 h5
end
theorem hu65m {A : Around} {k : Nat} {m : Option Value} (hr : Room k A) : (A.mark m).units + 65 < cLine := by rw [Around.mark_units]; exact hu65 hr
end My

namespace My
open PySem PySem.Spec PyProof.Rows L2
def topS (i : Nat) : Stmt := PySem.Challenge.pw_lackstretch_k38_texts_that_write_none.main.body.getD i (.Pass ⟨0, 0, 0, 0⟩)
abbrev s_is_whole : Stmt := topS 20
abbrev s_is_base : Stmt := topS 21
abbrev s_is_figure : Stmt := topS 24
abbrev s_are_figures : Stmt := topS 25
abbrev s_need_base : Stmt := topS 22
abbrev s_worth : Stmt := topS 27
abbrev s_number_by : Stmt := topS 29
abbrev s_read_figures : Stmt := topS 36
abbrev s_read_number : Stmt := topS 39
abbrev s_is_stretch : Stmt := topS 30
abbrev s_is_rule : Stmt := topS 31
abbrev s_read_rule : Stmt := topS 37
abbrev s_need_from : Stmt := topS 23
abbrev s_written : Stmt := topS 26
abbrev s_figures_of : Stmt := topS 28
abbrev s_figures_text : Stmt := topS 34
abbrev s_show_number : Stmt := topS 38
abbrev s_show_rule : Stmt := topS 35
abbrev s__law_asked : Stmt := topS 51
abbrev s__law_bad : Stmt := topS 52
abbrev s__law_cell : Stmt := topS 41
abbrev s__law_figures : Stmt := topS 44
abbrev s__law_mixed : Stmt := topS 42
abbrev s__law_number : Stmt := topS 46
abbrev s__law_odd : Stmt := topS 49
abbrev s__law_rule : Stmt := topS 43
abbrev s__law_text : Stmt := topS 45
abbrev s__law_given : Stmt := topS 50
abbrev s__law_writes_number : Stmt := topS 48
abbrev s__law_writes_rule : Stmt := topS 47
abbrev s_law : Stmt := topS 53

def is_whole (thing : PyData) : Option Bool :=
  (if (isIntD thing) = true then (some (!(isBlD thing))) else (some false))


def is_base (thing : PyData) : Option Bool :=
  ((is_whole thing).bind fun r1 => (if r1 = true then ((asInt thing).bind fun x1 => (if (decide ((2 : Int) ≤ x1)) = true then (some (decide (x1 ≤ (16 : Int)))) else (some false))) else (some false)))


def is_figure (base : Int) (thing : PyData) : Option Bool :=
  ((is_whole thing).bind fun r1 => (if r1 = true then ((asInt thing).bind fun x1 => (if (decide ((0 : Int) ≤ x1)) = true then (some (decide (x1 < base))) else (some false))) else (some false)))

def are_figures_c1 (base : Int) : (List PyData) → PyData → ((List PyData) → Option Bool) → Option Bool
  | x3, t1, next1 => ((is_figure base t1).bind fun r1 => (if (!r1) = true then (if x3.length < 16777216 then (next1 (x3 ++ [t1])) else none) else (next1 x3)))
def are_figures_k2 : (List PyData) → Option Bool
  | x3 => (some (x3).isEmpty)
def are_figures (base : Int) (thing : PyData) : Option Bool :=
  (if (isLstD thing) = true then ((asLst thing).bind fun x1 => (forK (are_figures_c1 base) (x1) [] (are_figures_k2))) else (some false))


def need_base (thing : PyData) : Option (Except Er Unit) :=
  ((is_base thing).bind fun r1 => (if (!r1) = true then (some (.error .NoBase)) else (some (.ok ()))))

def worth_b1 (base : Int) : Int → Int → (Int → Option Int) → Option Int
  | x1, t1, next1 => (if Mv x1 base then (next1 ((x1 * base) + t1)) else none)
def worth_e2 : Int → Option Int
  | x1 => (some x1)
def worth (base : Int) (figures : (List Int)) : Option Int :=
  (forK (worth_b1 base) (figures) (0 : Int) (worth_e2))


def number_by (base : PyData) (figures : PyData) : Option (Except Er Int) :=
  ((need_base base).bind fun r1 => exB r1 (fun y1 => ((asInt base).bind fun x1 => ((are_figures x1 figures).bind fun r2 => (if (!r2) = true then (some (.error .NoFigures)) else (if EqOk figures (PyData.list ([] : (List PyData))) then (if (PyData.eqv figures (PyData.list ([] : (List PyData)))) = true then (some (.error .NoFigures)) else ((asSeq figures).bind fun x2 => (if (decide ((1 : Int) < (x2.length : Int))) = true then ((asSeq figures).bind fun x3 => ((atI x3 (0 : Int)).bind fun x4 => (if EqOk x4 (PyData.int (0 : Int)) then (if (PyData.eqv x4 (PyData.int (0 : Int))) = true then (some (.error .NoFigures)) else (((UD.un (α := (List Int))) figures).bind fun x5 => ((worth x1 x5).bind fun r3 => (some (.ok r3))))) else none))) else (((UD.un (α := (List Int))) figures).bind fun x6 => ((worth x1 x6).bind fun r4 => (some (.ok r4))))))) else none))))) (fun er1 => (some (.error er1))))

def read_figures_c1 (base : Int) : (List Str) → Nat → ((List Str) → Option (Except Er (List Int))) → Option (Except Er (List Int))
  | x2, t1, next1 => (if ("0123456789abcdef" : Str).length ≤ 16777216 then (if (!decide (t1 ∈ (cutS ("0123456789abcdef" : Str) none (some base)).cps.toList)) = true then (if x2.length < 16777216 then (next1 (x2 ++ [(⟨#[t1]⟩ : Str)])) else none) else (next1 x2)) else none)
def read_figures_c3 : (List Int) → Nat → ((List Int) → Option (Except Er (List Int))) → Option (Except Er (List Int))
  | x4, t2, next2 => ((sIdx ("0123456789abcdef" : Str) (⟨#[t2]⟩ : Str)).bind fun x5 => (if x4.length < 16777216 then (next2 (x4 ++ [(x5 : Int)])) else none))
def read_figures_k4 : (List Int) → Option (Except Er (List Int))
  | x4 => (some (.ok x4))
def read_figures_k2 (word : Str) : (List Str) → Option (Except Er (List Int))
  | x2 => (if (!(x2).isEmpty) = true then (some (.error .NoText)) else (forK (read_figures_c3) (word.cps.toList) [] (read_figures_k4)))
def read_figures (base : Int) (word : Str) : Option (Except Er (List Int)) :=
  (if (decide (word = ("" : Str))) = true then (some (.error .NoText)) else (forK (read_figures_c1 base) (word.cps.toList) [] (read_figures_k2 word)))


def read_number (base : PyData) (text : PyData) : Option (Except Er Int) :=
  ((is_base base).bind fun r1 => (if (!r1) = true then (some (.error .NoBase)) else (if (!(isStrD text)) = true then (some (.error .NoText)) else ((asInt base).bind fun x1 => ((asStr text).bind fun x2 => ((read_figures x1 x2).bind fun r2 => exB r2 (fun y1 => (if (decide ((1 : Int) < (y1.length : Int))) = true then ((atI y1 (0 : Int)).bind fun x3 => (if (decide (x3 = (0 : Int))) = true then (some (.error .NoText)) else ((number_by base (PyData.list (y1.map fun z => (PyData.int z)))).bind fun r3 => exB r3 (fun y2 => (some (.ok y2))) (fun er2 => (some (.error er2)))))) else ((number_by base (PyData.list (y1.map fun z => (PyData.int z)))).bind fun r4 => exB r4 (fun y3 => (some (.ok y3))) (fun er3 => (some (.error er3)))))) (fun er1 => (some (.error er1)))))))))


def is_stretch (base : Int) (thing : PyData) : Option Bool :=
  ((are_figures base thing).bind fun r1 => (if r1 = true then ((asSeq thing).bind fun x1 => (if (decide ((1 : Int) ≤ (x1.length : Int))) = true then (some (decide ((x1.length : Int) ≤ (4 : Int)))) else (some false))) else (some false)))

def is_rule_c1 (x4 : (PyData × PyData)) : (List PyData) → PyData → ((List PyData) → Option Bool) → Option Bool
  | x8, t1, next1 => ((asInt (x4).1).bind fun x9 => ((is_stretch x9 t1).bind fun r2 => (if (!r2) = true then (if x8.length < 16777216 then (next1 (x8 ++ [t1])) else none) else (next1 x8))))
def is_rule_c3 (x4 : (PyData × PyData)) : (List Int) → Int → ((List Int) → Option Bool) → Option Bool
  | x11, t2, next2 => ((asSeq (x4).2).bind fun x12 => ((atI x12 (t2 - (1 : Int))).bind fun x13 => ((asSeq (x4).2).bind fun x14 => ((atI x14 t2).bind fun x15 => (if LtOk x13 x15 then (if (!PySem.W.dataLt x13 x15) = true then (if x11.length < 16777216 then (next2 (x11 ++ [t2])) else none) else (next2 x11)) else none)))))
def is_rule_k4 : (List Int) → Option Bool
  | x11 => (some (eqT x11 ([] : (List Int))))
def is_rule_k2 (x6 : (List PyData)) (x4 : (PyData × PyData)) : (List PyData) → Option Bool
  | x8 => (if (!(x8).isEmpty) = true then (some false) else (if Rg2 (1 : Int) (x6.length : Int) then (forK (is_rule_c3 x4) (irange (1 : Int) (x6.length : Int)) [] (is_rule_k4)) else none))
def is_rule (thing : PyData) : Option Bool :=
  (if (!(isTupD thing)) = true then (some false) else ((asSeq thing).bind fun x1 => (if ((!decide ((x1.length : Int) = (2 : Int)))) = true then (some false) else ((asSeq thing).bind fun x2 => ((atI x2 (0 : Int)).bind fun x3 => ((is_base x3).bind fun r1 => (if (!r1) = true then (some false) else ((asPair thing).bind fun x4 => (if (!(isLstD (x4).2)) = true then (some false) else ((asSeq (x4).2).bind fun x5 => (if (decide ((4 : Int) < (x5.length : Int))) = true then (some false) else ((asLst (x4).2).bind fun x6 => (forK (is_rule_c1 x4) (x6) [] (is_rule_k2 x6 x4))))))))))))))

def read_rule_c1 (x1 : Str) : (List Int) → Int → ((List Int) → Option (Except Er (Int × (List (List Int))))) → Option (Except Er (Int × (List (List Int))))
  | x3, t1, next1 => (if (t1).natAbs.log2 < 1920 then ((atI (Txt.split x1 (" " : Str)) (0 : Int)).bind fun x4 => (if (decide ((Str.ofString (toString t1)) = x4)) = true then (if x3.length < 16777216 then (next1 (x3 ++ [t1])) else none) else (next1 x3))) else none)
def read_rule_c3 (x3 : (List Int)) : (List (List Int)) → Str → ((List (List Int)) → Option (Except Er (Int × (List (List Int))))) → Option (Except Er (Int × (List (List Int))))
  | x7, t2, next2 => ((atI x3 (0 : Int)).bind fun x8 => ((read_figures x8 t2).bind fun r1 => exB r1 (fun y1 => (if x7.length < 16777216 then (next2 (x7 ++ [y1])) else none)) (fun er1 => (some (.error er1)))))
def read_rule_k4 (x5 : Int) : (List (List Int)) → Option (Except Er (Int × (List (List Int))))
  | x7 => ((is_rule (PyData.tuple [(PyData.int x5), (PyData.list (x7.map fun z => (PyData.list (z.map fun z => (PyData.int z)))))])).bind fun r2 => (if (!r2) = true then (some (.error .NoText)) else (some (.ok (x5, x7)))))
def read_rule_k2 (x1 : Str) : (List Int) → Option (Except Er (Int × (List (List Int))))
  | x3 => (if (eqT x3 []) = true then (some (.error .NoText)) else ((atI x3 (0 : Int)).bind fun x5 => (forK (read_rule_c3 x3) ((cutT (Txt.split x1 (" " : Str)) (some (1 : Int)) none)) [] (read_rule_k4 x5))))
def read_rule (text : PyData) : Option (Except Er (Int × (List (List Int)))) :=
  (if (!(isStrD text)) = true then (some (.error .NoText)) else ((asStr text).bind fun x1 => (if x1.length + 2 ≤ 16777216 then (forK (read_rule_c1 x1) (irange (2 : Int) (17 : Int)) [] (read_rule_k2 x1)) else none)))


def need_from (thing : PyData) (least : Int) : Option (Except Er Unit) :=
  ((is_whole thing).bind fun r1 => (if (!r1) = true then (some (.error .NoNumber)) else ((asInt thing).bind fun x1 => (if (decide (x1 < least)) = true then (some (.error .NoNumber)) else (some (.ok ()))))))

def written_w1 (base : Int) : (Int × (List Int)) → ((Int × (List Int)) → Option (List Int)) → Option (List Int)
  | (x1, x2), next1 => (if (decide ((0 : Int) < x1)) = true then (if Dv base then (if x2.length < 16777216 then (if Dv base then (next1 ((x1 / base), (x2 ++ [(x1 % base)]))) else none) else none) else none) else (some ((x2).reverse)))
def written (base : Int) (n : Int) : Option (List Int) :=
  (if Dv base then (if Dv base then (whileK (written_w1 base) fuel ((n / base), ([(n % base)] : (List Int)))) else none) else none)


def figures_of (base : PyData) (n : PyData) : Option (Except Er (List Int)) :=
  ((need_base base).bind fun r1 => exB r1 (fun y1 => ((need_from n (0 : Int)).bind fun r2 => exB r2 (fun y2 => ((asInt base).bind fun x1 => ((asInt n).bind fun x2 => ((written x1 x2).bind fun r3 => (some (.ok r3)))))) (fun er2 => (some (.error er2))))) (fun er1 => (some (.error er1))))

def figures_text_c1 : (List Str) → Int → ((List Str) → Option Str) → Option Str
  | x2, t1, next1 => (if ("0123456789abcdef" : Str).length ≤ 16777216 then ((atI ("0123456789abcdef" : Str).cps.toList t1).bind fun x3 => (if x2.length < 16777216 then (next1 (x2 ++ [(⟨#[x3]⟩ : Str)])) else none)) else none)
def figures_text_k2 : (List Str) → Option Str
  | x2 => (if (x2.map (·.length)).sum + x2.length * ("" : Str).length ≤ 16777216 then (some (Txt.join ("" : Str) x2)) else none)
def figures_text (figures : (List Int)) : Option Str :=
  (forK (figures_text_c1) (figures) [] (figures_text_k2))


def show_number (base : PyData) (n : PyData) : Option (Except Er Str) :=
  ((figures_of base n).bind fun r1 => exB r1 (fun y1 => ((figures_text y1).bind fun r2 => (some (.ok r2)))) (fun er1 => (some (.error er1))))

def show_rule_c1 : (List Str) → PyData → ((List Str) → Option (Except Er Str)) → Option (Except Er Str)
  | x8, t1, next1 => (((UD.un (α := (List Int))) t1).bind fun x9 => ((figures_text x9).bind fun r2 => (if x8.length < 16777216 then (next1 (x8 ++ [r2])) else none)))
def show_rule_k2 (x3 : Int) : (List Str) → Option (Except Er Str)
  | x8 => (if ([(Str.ofString (toString x3))] : (List Str)).length + x8.length ≤ 16777216 then (if ((([(Str.ofString (toString x3))] : (List Str)) ++ x8).map (·.length)).sum + (([(Str.ofString (toString x3))] : (List Str)) ++ x8).length * (" " : Str).length ≤ 16777216 then (some (.ok (Txt.join (" " : Str) (([(Str.ofString (toString x3))] : (List Str)) ++ x8)))) else none) else none)
def show_rule (rule : PyData) : Option (Except Er Str) :=
  ((is_rule rule).bind fun r1 => (if (!r1) = true then (some (.error .NoRule)) else ((asSeq rule).bind fun x1 => ((atI x1 (0 : Int)).bind fun x2 => ((asInt x2).bind fun x3 => (if (x3).natAbs.log2 < 1920 then ((asSeq rule).bind fun x4 => ((atI x4 (1 : Int)).bind fun x5 => ((asLst x5).bind fun x6 => (forK (show_rule_c1) (x6) [] (show_rule_k2 x3))))) else none))))))


def _law_asked (ask : Int) (base : PyData) (thing : PyData) : Option (List PyData) :=
  (if (decide (ask = (0 : Int))) = true then ((read_rule thing).bind fun r1 => exB r1 (fun y1 => ((ixN ([(PyData.bool false), PyData.none] : (List PyData)).length (1 : Int)).bind fun j1 => (some (([(PyData.bool false), PyData.none] : (List PyData)).set j1 (PyData.tuple [(PyData.int (y1).1), (PyData.list ((y1).2.map fun z => (PyData.list (z.map fun z => (PyData.int z)))))]))))) (fun er1 => (if ([(decide ((some er1) = some .NoText)), (decide ((some er1) = some .NoRule))] : (List Bool)).length + ([(decide ((some er1) = some .NoBase)), (decide ((some er1) = some .NoNumber))] : (List Bool)).length ≤ 16777216 then ((some ((([(decide ((some er1) = some .NoText)), (decide ((some er1) = some .NoRule))] : (List Bool)) ++ ([(decide ((some er1) = some .NoBase)), (decide ((some er1) = some .NoNumber))] : (List Bool))))).bind fun x1 => (if (erIn (some er1) [.Endless, .NoFigures, .NoGood, .NoName, .NoRow]) = true then (if ((some er1)).isSome = true then (some ([(PyData.bool true), (PyData.str ("other" : Str))] : (List PyData))) else (some ([(PyData.bool true), (PyData.str ("other" : Str))] : (List PyData)))) else (if ((some er1)).isSome = true then (if (!(erIn (some er1) [.NoRules, .NoStand, .NoStretch, .TooMany])) = true then (if (decide (((cntT true x1 : Nat) : Int) = (1 : Int))) = true then ((some ([("text" : Str), ("rule" : Str), ("base" : Str), ("number" : Str)] : (List Str))).bind fun x2 => ((idxB true x1).bind fun x3 => ((atI x2 (x3 : Int)).bind fun x4 => (some ([(PyData.bool true), (PyData.str x4)] : (List PyData)))))) else (some ([(PyData.bool true), (PyData.str ("other" : Str))] : (List PyData)))) else (some ([(PyData.bool true), (PyData.str ("other" : Str))] : (List PyData)))) else (some ([(PyData.bool true), (PyData.str ("other" : Str))] : (List PyData)))))) else none))) else (if (decide (ask = (1 : Int))) = true then ((read_number base thing).bind fun r2 => exB r2 (fun y2 => ((ixN ([(PyData.bool false), PyData.none] : (List PyData)).length (1 : Int)).bind fun j2 => (some (([(PyData.bool false), PyData.none] : (List PyData)).set j2 (PyData.int y2))))) (fun er2 => (if ([(decide ((some er2) = some .NoText)), (decide ((some er2) = some .NoRule))] : (List Bool)).length + ([(decide ((some er2) = some .NoBase)), (decide ((some er2) = some .NoNumber))] : (List Bool)).length ≤ 16777216 then ((some ((([(decide ((some er2) = some .NoText)), (decide ((some er2) = some .NoRule))] : (List Bool)) ++ ([(decide ((some er2) = some .NoBase)), (decide ((some er2) = some .NoNumber))] : (List Bool))))).bind fun x5 => (if (erIn (some er2) [.Endless, .NoFigures, .NoGood, .NoName, .NoRow]) = true then (if ((some er2)).isSome = true then (some ([(PyData.bool true), (PyData.str ("other" : Str))] : (List PyData))) else (some ([(PyData.bool true), (PyData.str ("other" : Str))] : (List PyData)))) else (if ((some er2)).isSome = true then (if (!(erIn (some er2) [.NoRules, .NoStand, .NoStretch, .TooMany])) = true then (if (decide (((cntT true x5 : Nat) : Int) = (1 : Int))) = true then ((some ([("text" : Str), ("rule" : Str), ("base" : Str), ("number" : Str)] : (List Str))).bind fun x6 => ((idxB true x5).bind fun x7 => ((atI x6 (x7 : Int)).bind fun x8 => (some ([(PyData.bool true), (PyData.str x8)] : (List PyData)))))) else (some ([(PyData.bool true), (PyData.str ("other" : Str))] : (List PyData)))) else (some ([(PyData.bool true), (PyData.str ("other" : Str))] : (List PyData)))) else (some ([(PyData.bool true), (PyData.str ("other" : Str))] : (List PyData)))))) else none))) else (if (decide (ask = (2 : Int))) = true then ((show_rule thing).bind fun r3 => exB r3 (fun y3 => ((ixN ([(PyData.bool false), PyData.none] : (List PyData)).length (1 : Int)).bind fun j3 => (some (([(PyData.bool false), PyData.none] : (List PyData)).set j3 (PyData.str y3))))) (fun er3 => (if ([(decide ((some er3) = some .NoText)), (decide ((some er3) = some .NoRule))] : (List Bool)).length + ([(decide ((some er3) = some .NoBase)), (decide ((some er3) = some .NoNumber))] : (List Bool)).length ≤ 16777216 then ((some ((([(decide ((some er3) = some .NoText)), (decide ((some er3) = some .NoRule))] : (List Bool)) ++ ([(decide ((some er3) = some .NoBase)), (decide ((some er3) = some .NoNumber))] : (List Bool))))).bind fun x9 => (if (erIn (some er3) [.Endless, .NoFigures, .NoGood, .NoName, .NoRow]) = true then (if ((some er3)).isSome = true then (some ([(PyData.bool true), (PyData.str ("other" : Str))] : (List PyData))) else (some ([(PyData.bool true), (PyData.str ("other" : Str))] : (List PyData)))) else (if ((some er3)).isSome = true then (if (!(erIn (some er3) [.NoRules, .NoStand, .NoStretch, .TooMany])) = true then (if (decide (((cntT true x9 : Nat) : Int) = (1 : Int))) = true then ((some ([("text" : Str), ("rule" : Str), ("base" : Str), ("number" : Str)] : (List Str))).bind fun x10 => ((idxB true x9).bind fun x11 => ((atI x10 (x11 : Int)).bind fun x12 => (some ([(PyData.bool true), (PyData.str x12)] : (List PyData)))))) else (some ([(PyData.bool true), (PyData.str ("other" : Str))] : (List PyData)))) else (some ([(PyData.bool true), (PyData.str ("other" : Str))] : (List PyData)))) else (some ([(PyData.bool true), (PyData.str ("other" : Str))] : (List PyData)))))) else none))) else ((show_number base thing).bind fun r4 => exB r4 (fun y4 => ((ixN ([(PyData.bool false), PyData.none] : (List PyData)).length (1 : Int)).bind fun j4 => (some (([(PyData.bool false), PyData.none] : (List PyData)).set j4 (PyData.str y4))))) (fun er4 => (if ([(decide ((some er4) = some .NoText)), (decide ((some er4) = some .NoRule))] : (List Bool)).length + ([(decide ((some er4) = some .NoBase)), (decide ((some er4) = some .NoNumber))] : (List Bool)).length ≤ 16777216 then ((some ((([(decide ((some er4) = some .NoText)), (decide ((some er4) = some .NoRule))] : (List Bool)) ++ ([(decide ((some er4) = some .NoBase)), (decide ((some er4) = some .NoNumber))] : (List Bool))))).bind fun x13 => (if (erIn (some er4) [.Endless, .NoFigures, .NoGood, .NoName, .NoRow]) = true then (if ((some er4)).isSome = true then (some ([(PyData.bool true), (PyData.str ("other" : Str))] : (List PyData))) else (some ([(PyData.bool true), (PyData.str ("other" : Str))] : (List PyData)))) else (if ((some er4)).isSome = true then (if (!(erIn (some er4) [.NoRules, .NoStand, .NoStretch, .TooMany])) = true then (if (decide (((cntT true x13 : Nat) : Int) = (1 : Int))) = true then ((some ([("text" : Str), ("rule" : Str), ("base" : Str), ("number" : Str)] : (List Str))).bind fun x14 => ((idxB true x13).bind fun x15 => ((atI x14 (x15 : Int)).bind fun x16 => (some ([(PyData.bool true), (PyData.str x16)] : (List PyData)))))) else (some ([(PyData.bool true), (PyData.str ("other" : Str))] : (List PyData)))) else (some ([(PyData.bool true), (PyData.str ("other" : Str))] : (List PyData)))) else (some ([(PyData.bool true), (PyData.str ("other" : Str))] : (List PyData)))))) else none))))))

def _law_bad_b1 (rule : (Int × (List (List Int)))) (cell : Int) : (List PyData) → PyData → ((List PyData) → Option PyData) → Option PyData
  | x2, t1, next1 => (if ((cutT (rule).2 none (some ((cell / (100 : Int)) % (((rule).2.length : Int) + (1 : Int))))).map fun z => (PyData.list (z.map fun z => (PyData.int z)))).length + ([t1] : (List PyData)).length ≤ 16777216 then (if (((cutT (rule).2 none (some ((cell / (100 : Int)) % (((rule).2.length : Int) + (1 : Int))))).map fun z => (PyData.list (z.map fun z => (PyData.int z)))) ++ ([t1] : (List PyData))).length + ((cutT (rule).2 (some (((cell / (100 : Int)) % (((rule).2.length : Int) + (1 : Int))) + (1 : Int))) none).map fun z => (PyData.list (z.map fun z => (PyData.int z)))).length ≤ 16777216 then (if x2.length < 16777216 then (next1 (x2 ++ [(PyData.tuple [(PyData.int (rule).1), (PyData.list ((((cutT (rule).2 none (some ((cell / (100 : Int)) % (((rule).2.length : Int) + (1 : Int))))).map fun z => (PyData.list (z.map fun z => (PyData.int z)))) ++ ([t1] : (List PyData))) ++ ((cutT (rule).2 (some (((cell / (100 : Int)) % (((rule).2.length : Int) + (1 : Int))) + (1 : Int))) none).map fun z => (PyData.list (z.map fun z => (PyData.int z))))))])])) else none) else none) else none)
def _law_bad_j3 (cell : Int) : (List PyData) → Option PyData
  | x3 => (if Dv (x3.length : Int) then ((atI x3 (cell % (x3.length : Int))).bind fun x4 => (some x4)) else none)
def _law_bad_e2 (rule : (Int × (List (List Int)))) (cell : Int) : (List PyData) → Option PyData
  | x2 => (if x2.length < 16777216 then (if (x2 ++ [(PyData.tuple [(PyData.int (rule).1), (PyData.list (([([(0 : Int)] : (List Int)), ([(0 : Int), (1 : Int)] : (List Int)), ([(1 : Int)] : (List Int)), ([(1 : Int), (0 : Int)] : (List Int)), ([(1 : Int), (1 : Int)] : (List Int))] : (List (List Int))).map fun z => (PyData.list (z.map fun z => (PyData.int z)))))])]).length < 16777216 then (if ((x2 ++ [(PyData.tuple [(PyData.int (rule).1), (PyData.list (([([(0 : Int)] : (List Int)), ([(0 : Int), (1 : Int)] : (List Int)), ([(1 : Int)] : (List Int)), ([(1 : Int), (0 : Int)] : (List Int)), ([(1 : Int), (1 : Int)] : (List Int))] : (List (List Int))).map fun z => (PyData.list (z.map fun z => (PyData.int z)))))])]) ++ [(PyData.tuple [(PyData.int (rule).1), (PyData.list (([([(1 : Int)] : (List Int)), ([(0 : Int)] : (List Int))] : (List (List Int))).map fun z => (PyData.list (z.map fun z => (PyData.int z)))))])]).length < 16777216 then (if (decide ((1 : Int) < ((rule).2.length : Int))) = true then (if (((x2 ++ [(PyData.tuple [(PyData.int (rule).1), (PyData.list (([([(0 : Int)] : (List Int)), ([(0 : Int), (1 : Int)] : (List Int)), ([(1 : Int)] : (List Int)), ([(1 : Int), (0 : Int)] : (List Int)), ([(1 : Int), (1 : Int)] : (List Int))] : (List (List Int))).map fun z => (PyData.list (z.map fun z => (PyData.int z)))))])]) ++ [(PyData.tuple [(PyData.int (rule).1), (PyData.list (([([(1 : Int)] : (List Int)), ([(0 : Int)] : (List Int))] : (List (List Int))).map fun z => (PyData.list (z.map fun z => (PyData.int z)))))])]) ++ [(PyData.tuple [(PyData.int (rule).1), (PyData.list (([([(0 : Int), (1 : Int)] : (List Int)), ([(0 : Int), (1 : Int)] : (List Int))] : (List (List Int))).map fun z => (PyData.list (z.map fun z => (PyData.int z)))))])]).length < 16777216 then ((_law_bad_j3 cell) ((((x2 ++ [(PyData.tuple [(PyData.int (rule).1), (PyData.list (([([(0 : Int)] : (List Int)), ([(0 : Int), (1 : Int)] : (List Int)), ([(1 : Int)] : (List Int)), ([(1 : Int), (0 : Int)] : (List Int)), ([(1 : Int), (1 : Int)] : (List Int))] : (List (List Int))).map fun z => (PyData.list (z.map fun z => (PyData.int z)))))])]) ++ [(PyData.tuple [(PyData.int (rule).1), (PyData.list (([([(1 : Int)] : (List Int)), ([(0 : Int)] : (List Int))] : (List (List Int))).map fun z => (PyData.list (z.map fun z => (PyData.int z)))))])]) ++ [(PyData.tuple [(PyData.int (rule).1), (PyData.list (([([(0 : Int), (1 : Int)] : (List Int)), ([(0 : Int), (1 : Int)] : (List Int))] : (List (List Int))).map fun z => (PyData.list (z.map fun z => (PyData.int z)))))])]) ++ [(PyData.tuple [(PyData.int (rule).1), (PyData.list ((((rule).2).reverse).map fun z => (PyData.list (z.map fun z => (PyData.int z)))))])])) else none) else ((_law_bad_j3 cell) (((x2 ++ [(PyData.tuple [(PyData.int (rule).1), (PyData.list (([([(0 : Int)] : (List Int)), ([(0 : Int), (1 : Int)] : (List Int)), ([(1 : Int)] : (List Int)), ([(1 : Int), (0 : Int)] : (List Int)), ([(1 : Int), (1 : Int)] : (List Int))] : (List (List Int))).map fun z => (PyData.list (z.map fun z => (PyData.int z)))))])]) ++ [(PyData.tuple [(PyData.int (rule).1), (PyData.list (([([(1 : Int)] : (List Int)), ([(0 : Int)] : (List Int))] : (List (List Int))).map fun z => (PyData.list (z.map fun z => (PyData.int z)))))])]) ++ [(PyData.tuple [(PyData.int (rule).1), (PyData.list (([([(0 : Int), (1 : Int)] : (List Int)), ([(0 : Int), (1 : Int)] : (List Int))] : (List (List Int))).map fun z => (PyData.list (z.map fun z => (PyData.int z)))))])]))) else none) else none) else none)
def _law_bad (rule : (Int × (List (List Int)))) (cell : Int) : Option PyData :=
  (if ((rule).1).natAbs.log2 < 1920 then (if ([PyData.none, (PyData.int (rule).1), (PyData.tuple [(PyData.int (rule).1)]), (PyData.list ([(PyData.int (rule).1), (PyData.list ((rule).2.map fun z => (PyData.list (z.map fun z => (PyData.int z)))))] : (List PyData))), (PyData.tuple [(PyData.int (rule).1), (PyData.list ((rule).2.map fun z => (PyData.list (z.map fun z => (PyData.int z))))), (PyData.int (0 : Int))]), (PyData.tuple [(PyData.int (1 : Int)), (PyData.list ([] : (List PyData)))])] : (List PyData)).length + ([(PyData.tuple [(PyData.int (17 : Int)), (PyData.list ([] : (List PyData)))]), (PyData.tuple [(PyData.bool true), (PyData.list ([] : (List PyData)))]), (PyData.tuple [(PyData.str (Str.ofString (toString (rule).1))), (PyData.list ((rule).2.map fun z => (PyData.list (z.map fun z => (PyData.int z)))))])] : (List PyData)).length ≤ 16777216 then (if (([PyData.none, (PyData.int (rule).1), (PyData.tuple [(PyData.int (rule).1)]), (PyData.list ([(PyData.int (rule).1), (PyData.list ((rule).2.map fun z => (PyData.list (z.map fun z => (PyData.int z)))))] : (List PyData))), (PyData.tuple [(PyData.int (rule).1), (PyData.list ((rule).2.map fun z => (PyData.list (z.map fun z => (PyData.int z))))), (PyData.int (0 : Int))]), (PyData.tuple [(PyData.int (1 : Int)), (PyData.list ([] : (List PyData)))])] : (List PyData)) ++ ([(PyData.tuple [(PyData.int (17 : Int)), (PyData.list ([] : (List PyData)))]), (PyData.tuple [(PyData.bool true), (PyData.list ([] : (List PyData)))]), (PyData.tuple [(PyData.str (Str.ofString (toString (rule).1))), (PyData.list ((rule).2.map fun z => (PyData.list (z.map fun z => (PyData.int z)))))])] : (List PyData))).length + ([(PyData.tuple [(PyData.int (rule).1), PyData.none]), (PyData.tuple [(PyData.int (rule).1), (PyData.tuple ((rule).2.map fun z => (PyData.list (z.map fun z => (PyData.int z)))))])] : (List PyData)).length ≤ 16777216 then (if Dv (((rule).2.length : Int) + (1 : Int)) then ((some (([(PyData.list (([] : (List Int)).map fun z => (PyData.int z))), (PyData.list (([(rule).1] : (List Int)).map fun z => (PyData.int z))), (PyData.list (([(-(1 : Int))] : (List Int)).map fun z => (PyData.int z))), (PyData.list (([true] : (List Bool)).map fun z => (PyData.bool z))), (PyData.list (([()] : (List Unit)).map fun z => PyData.none)), (PyData.list (([("0" : Str)] : (List Str)).map fun z => (PyData.str z))), (PyData.list (([(0 : Int), (0 : Int), (0 : Int), (0 : Int), (0 : Int)] : (List Int)).map fun z => (PyData.int z))), (PyData.tuple [(PyData.int (0 : Int))])] : (List PyData)))).bind fun x1 => (if x1.length + ([(PyData.int (0 : Int)), (PyData.str ("0" : Str)), PyData.none, (PyData.list (([([(0 : Int)] : (List Int))] : (List (List Int))).map fun z => (PyData.list (z.map fun z => (PyData.int z))))), (PyData.list (([(0 : Int), (rule).1] : (List Int)).map fun z => (PyData.int z))), (PyData.list (([(0 : Int), (0 : Int), (-(1 : Int))] : (List Int)).map fun z => (PyData.int z)))] : (List PyData)).length ≤ 16777216 then (forK (_law_bad_b1 rule cell) ((x1 ++ ([(PyData.int (0 : Int)), (PyData.str ("0" : Str)), PyData.none, (PyData.list (([([(0 : Int)] : (List Int))] : (List (List Int))).map fun z => (PyData.list (z.map fun z => (PyData.int z))))), (PyData.list (([(0 : Int), (rule).1] : (List Int)).map fun z => (PyData.int z))), (PyData.list (([(0 : Int), (0 : Int), (-(1 : Int))] : (List Int)).map fun z => (PyData.int z)))] : (List PyData)))) ((([PyData.none, (PyData.int (rule).1), (PyData.tuple [(PyData.int (rule).1)]), (PyData.list ([(PyData.int (rule).1), (PyData.list ((rule).2.map fun z => (PyData.list (z.map fun z => (PyData.int z)))))] : (List PyData))), (PyData.tuple [(PyData.int (rule).1), (PyData.list ((rule).2.map fun z => (PyData.list (z.map fun z => (PyData.int z))))), (PyData.int (0 : Int))]), (PyData.tuple [(PyData.int (1 : Int)), (PyData.list ([] : (List PyData)))])] : (List PyData)) ++ ([(PyData.tuple [(PyData.int (17 : Int)), (PyData.list ([] : (List PyData)))]), (PyData.tuple [(PyData.bool true), (PyData.list ([] : (List PyData)))]), (PyData.tuple [(PyData.str (Str.ofString (toString (rule).1))), (PyData.list ((rule).2.map fun z => (PyData.list (z.map fun z => (PyData.int z)))))])] : (List PyData))) ++ ([(PyData.tuple [(PyData.int (rule).1), PyData.none]), (PyData.tuple [(PyData.int (rule).1), (PyData.tuple ((rule).2.map fun z => (PyData.list (z.map fun z => (PyData.int z)))))])] : (List PyData))) (_law_bad_e2 rule cell)) else none)) else none) else none) else none) else none)


def _law_cell (script : (List Int)) (k : Int) : Option Int :=
  (if (decide (k < (script.length : Int))) = true then ((atI script k).bind fun x1 => (some x1)) else (if Mv ((109 : Int) * k) k then (some (((((109 : Int) * k) * k) + ((97 : Int) * k)) + (23 : Int))) else none))

def _law_figures_w1 (base : Int) : (Int × (List Int)) → ((Int × (List Int)) → Option (List Int)) → Option (List Int)
  | (x1, x2), next1 => (if (decide (base ≤ x1)) = true then (if Dv base then (if Dv base then (if ([((x1 / base) % base)] : (List Int)).length + x2.length ≤ 16777216 then (next1 ((x1 / base), (([((x1 / base) % base)] : (List Int)) ++ x2))) else none) else none) else none) else (some x2))
def _law_figures (base : Int) (n : Int) : Option (List Int) :=
  (if Dv base then (whileK (_law_figures_w1 base) fuel (n, ([(n % base)] : (List Int)))) else none)


def _law_mixed (cell : Int) (k : Int) : Option Int :=
  (if Mv ((7919 : Int) * k) k then (if Mv (((((cell * (48271 : Int)) + (((7919 : Int) * k) * k)) + ((104729 : Int) * k)) + (11 : Int)) % (2147483647 : Int)) (((((cell * (48271 : Int)) + (((7919 : Int) * k) * k)) + ((104729 : Int) * k)) + (11 : Int)) % (2147483647 : Int)) then ((atI ([(2147483629 : Int), (2147483587 : Int), (2147483579 : Int), (2147483563 : Int), (2147483549 : Int), (2147483543 : Int), (2147483497 : Int)] : (List Int)) (k % (7 : Int))).bind fun x1 => (if Dv x1 then (some ((((((((((cell * (48271 : Int)) + (((7919 : Int) * k) * k)) + ((104729 : Int) * k)) + (11 : Int)) % (2147483647 : Int)) * (((((cell * (48271 : Int)) + (((7919 : Int) * k) * k)) + ((104729 : Int) * k)) + (11 : Int)) % (2147483647 : Int))) % x1) * (16811 : Int)) + (cell % (5 : Int))) / (8 : Int))) else none)) else none) else none)


def _law_number (cell : Int) (k : Int) : Option Int :=
  ((_law_mixed cell k).bind fun r1 => (if Mv r1 (((46337 : Int) * ((10 : Int) ^ (9 : Int).toNat)) + (461 : Int)) then ((_law_mixed cell (k + (1 : Int))).bind fun r2 => ((atI ([(30 : Int), (1000 : Int), ((10 : Int) ^ (12 : Int).toNat), ((10 : Int) ^ (26 : Int).toNat)] : (List Int)) (r2 % (4 : Int))).bind fun x1 => (if Dv x1 then (some ((r1 * (((46337 : Int) * ((10 : Int) ^ (9 : Int).toNat)) + (461 : Int))) % x1)) else none))) else none))


def _law_odd (cell : Int) : Option Str :=
  ((some ([("" : Str), (" " : Str), ("10" : Str), ("10 " : Str), (" 10" : Str), ("10  1" : Str), ("10 1" : Str), ("10 1 2" : Str), ("10 2 1" : Str)] : (List Str))).bind fun x1 => ((some ([("10 1 1" : Str), ("1" : Str), ("17" : Str), ("16" : Str), ("02 1" : Str), ("2 1" : Str), ("2 2" : Str), ("2 0 1" : Str), ("2 1 0" : Str)] : (List Str))).bind fun x2 => (if x1.length + x2.length ≤ 16777216 then ((some ([("10 1234" : Str), ("10 12345" : Str), ("10 a" : Str), ("16 a" : Str), ("16 f" : Str), ("16 g" : Str), ("16 A" : Str), ("11 a" : Str)] : (List Str))).bind fun x3 => (if (x1 ++ x2).length + x3.length ≤ 16777216 then ((some ([("11 b" : Str), ("10 1,2" : Str), ("10 1\n" : Str), ("10\t1" : Str), ("-10" : Str), ("+10" : Str), ("1 0" : Str)] : (List Str))).bind fun x4 => (if ((x1 ++ x2) ++ x3).length + x4.length ≤ 16777216 then ((some ([("10 1 2 3 4" : Str), ("10 1 2 3 4 5" : Str), ("10 01" : Str), ("10 00" : Str), ("10 0" : Str), ("10 0 00" : Str)] : (List Str))).bind fun x5 => (if (((x1 ++ x2) ++ x3) ++ x4).length + x5.length ≤ 16777216 then ((some ([("10 00 0" : Str), ("10 1 12" : Str), ("10 12 1" : Str), ("10 12 123 2" : Str), ("x" : Str), ("10 x" : Str)] : (List Str))).bind fun x6 => (if ((((x1 ++ x2) ++ x3) ++ x4) ++ x5).length + x6.length ≤ 16777216 then ((some ([("0" : Str), ("00" : Str), ("01" : Str), ("1" : Str), ("a" : Str), ("f" : Str), ("g" : Str), ("1a" : Str), ("a1" : Str), ("12 34" : Str)] : (List Str))).bind fun x7 => (if (((((x1 ++ x2) ++ x3) ++ x4) ++ x5) ++ x6).length + x7.length ≤ 16777216 then ((some ([("-1" : Str), ("+1" : Str), ("1.0" : Str), ("1_0" : Str), ("ffffffffffffffffffffffff" : Str), ("1 " : Str), (" 1" : Str), ("1\n" : Str), ("A" : Str)] : (List Str))).bind fun x8 => (if ((((((x1 ++ x2) ++ x3) ++ x4) ++ x5) ++ x6) ++ x7).length + x8.length ≤ 16777216 then (if Dv ((((((((x1 ++ x2) ++ x3) ++ x4) ++ x5) ++ x6) ++ x7) ++ x8).length : Int) then ((atI (((((((x1 ++ x2) ++ x3) ++ x4) ++ x5) ++ x6) ++ x7) ++ x8) (cell % ((((((((x1 ++ x2) ++ x3) ++ x4) ++ x5) ++ x6) ++ x7) ++ x8).length : Int))).bind fun x9 => (some x9)) else none) else none)) else none)) else none)) else none)) else none)) else none)) else none)))

def _law_rule_c3 (cell : Int) (t1 : Int) (x2 : Int) : (List Int) → Int → ((List Int) → Option (Int × (List (List Int)))) → Option (Int × (List (List Int)))
  | x4, t2, next2 => ((_law_mixed cell (((20 : Int) + ((4 : Int) * t1)) + t2)).bind fun r3 => (if Dv x2 then (if x4.length < 16777216 then (next2 (x4 ++ [(r3 % x2)])) else none) else none))
def _law_rule_k4 (x1 : (List (List Int))) (next1 : ((List (List Int)) → Option (Int × (List (List Int))))) : (List Int) → Option (Int × (List (List Int)))
  | x4 => (if (!memT x4 x1) = true then (if x1.length < 16777216 then (next1 (x1 ++ [x4])) else none) else (next1 x1))
def _law_rule_b1 (cell : Int) : (List (List Int)) → Int → ((List (List Int)) → Option (Int × (List (List Int)))) → Option (Int × (List (List Int)))
  | x1, t1, next1 => ((_law_mixed cell t1).bind fun r1 => ((atI ([((2 : Int) + (cell % (15 : Int))), (if (3 : Int) < ((2 : Int) + (cell % (15 : Int))) then (3 : Int) else ((2 : Int) + (cell % (15 : Int)))), (2 : Int)] : (List Int)) (r1 % (3 : Int))).bind fun x2 => ((_law_mixed cell ((10 : Int) + t1)).bind fun r2 => (if Rg1 ((1 : Int) + (r2 % (4 : Int))) then (forK (_law_rule_c3 cell t1 x2) (irange 0 ((1 : Int) + (r2 % (4 : Int)))) [] (_law_rule_k4 x1 next1)) else none))))
def _law_rule_e2 (cell : Int) : (List (List Int)) → Option (Int × (List (List Int)))
  | x1 => (if x1.length ≤ 16777216 then (some (((2 : Int) + (cell % (15 : Int))), (sortT x1))) else none)
def _law_rule (cell : Int) : Option (Int × (List (List Int))) :=
  (if Rg1 ((cell / (15 : Int)) % (5 : Int)) then (forK (_law_rule_b1 cell) (irange 0 ((cell / (15 : Int)) % (5 : Int))) ([] : (List (List Int))) (_law_rule_e2 cell)) else none)

def _law_text_c1 : (List Str) → Int → ((List Str) → Option Str) → Option Str
  | x2, t1, next1 => (if ("0123456789abcdef" : Str).length ≤ 16777216 then ((atI ("0123456789abcdef" : Str).cps.toList t1).bind fun x3 => (if x2.length < 16777216 then (next1 (x2 ++ [(⟨#[x3]⟩ : Str)])) else none)) else none)
def _law_text_k2 : (List Str) → Option Str
  | x2 => (if (x2.map (·.length)).sum + x2.length * ("" : Str).length ≤ 16777216 then (some (Txt.join ("" : Str) x2)) else none)
def _law_text (figures : (List Int)) : Option Str :=
  (forK (_law_text_c1) (figures) [] (_law_text_k2))

def _law_given_c1 : (List Str) → (List Int) → ((List Str) → Option Str) → Option Str
  | x2, t1, next1 => ((_law_text t1).bind fun r4 => (if x2.length < 16777216 then (next1 (x2 ++ [r4])) else none))
def _law_given_j4 (x3 : Str) (cell : Int) : Str → Option Str
  | x4 => (if x3.length ≤ 16777216 then (if Dv ((x3.length : Int) + (1 : Int)) then (if x4.length ≤ 16777216 then (if Dv (x4.length : Int) then (if x4.length ≤ 16777216 then ((atI x4.cps.toList ((cell / (24000 : Int)) % (x4.length : Int))).bind fun x5 => (if (decide ((cell % (4 : Int)) = (1 : Int))) = true then (if x3.length ≤ 16777216 then (if x3.length ≤ 16777216 then (if (cutS x3 none (some ((cell / (24 : Int)) % ((x3.length : Int) + (1 : Int))))).length + (cutS x3 (some (((cell / (24 : Int)) % ((x3.length : Int) + (1 : Int))) + (1 : Int))) none).length ≤ 16777216 then (some ((cutS x3 none (some ((cell / (24 : Int)) % ((x3.length : Int) + (1 : Int))))) ++ (cutS x3 (some (((cell / (24 : Int)) % ((x3.length : Int) + (1 : Int))) + (1 : Int))) none))) else none) else none) else none) else (if x3.length ≤ 16777216 then (if (cutS x3 none (some ((cell / (24 : Int)) % ((x3.length : Int) + (1 : Int))))).length + (⟨#[x5]⟩ : Str).length ≤ 16777216 then (if x3.length ≤ 16777216 then (if ((cutS x3 none (some ((cell / (24 : Int)) % ((x3.length : Int) + (1 : Int))))) ++ (⟨#[x5]⟩ : Str)).length + (cutS x3 (some (((cell / (24 : Int)) % ((x3.length : Int) + (1 : Int))) + (if (decide ((cell % (4 : Int)) = (2 : Int))) = true then (1 : Int) else 0))) none).length ≤ 16777216 then (some (((cutS x3 none (some ((cell / (24 : Int)) % ((x3.length : Int) + (1 : Int))))) ++ (⟨#[x5]⟩ : Str)) ++ (cutS x3 (some (((cell / (24 : Int)) % ((x3.length : Int) + (1 : Int))) + (if (decide ((cell % (4 : Int)) = (2 : Int))) = true then (1 : Int) else 0))) none))) else none) else none) else none) else none))) else none) else none) else none) else none) else none)
def _law_given_j3 (cell : Int) : Str → Option Str
  | x3 => (if (decide ((0 : Int) < ((cell / (8 : Int)) % (3 : Int)))) = true then ((_law_given_j4 x3 cell) ("0123456789abcdefg " : Str)) else ((_law_given_j4 x3 cell) (" !\"\\#$&'()*+,-./0123456789:;<=>?@ABCDEFGHIJKLMNOPQRSTUVWXYZ[]^_`abcdefghijklmnopqrstuvwxyz{|}~\t\n" : Str)))
def _law_given_c5 (cell : Int) (r3 : (Int × (List (List Int)))) : (List Int) → Int → ((List Int) → Option Str) → Option Str
  | x7, t2, next2 => ((_law_mixed cell ((60 : Int) + t2)).bind fun r9 => (if Dv (r3).1 then (if x7.length < 16777216 then (next2 (x7 ++ [(r9 % (r3).1)])) else none) else none))
def _law_given_k6 (cell : Int) : (List Int) → Option Str
  | x7 => ((_law_text x7).bind fun r10 => (if ("1" : Str).length + r10.length ≤ 16777216 then ((_law_given_j3 cell) (("1" : Str) ++ r10)) else none))
def _law_given_k2 (r3 : (Int × (List (List Int)))) (cell : Int) : (List Str) → Option Str
  | x2 => (if ([(Str.ofString (toString (r3).1))] : (List Str)).length + x2.length ≤ 16777216 then (if ((([(Str.ofString (toString (r3).1))] : (List Str)) ++ x2).map (·.length)).sum + (([(Str.ofString (toString (r3).1))] : (List Str)) ++ x2).length * (" " : Str).length ≤ 16777216 then (if (decide (((cell / (4 : Int)) % (2 : Int)) = (1 : Int))) = true then ((_law_number cell (40 : Int)).bind fun r5 => ((_law_figures ((r3).1) r5).bind fun r6 => ((_law_text r6).bind fun r7 => (if (decide (((cell / (8 : Int)) % (5 : Int)) = (1 : Int))) = true then ((_law_mixed cell (50 : Int)).bind fun r8 => (if Rg1 ((1 : Int) + (r8 % (198 : Int))) then (forK (_law_given_c5 cell r3) (irange 0 ((1 : Int) + (r8 % (198 : Int)))) [] (_law_given_k6 cell)) else none)) else ((_law_given_j3 cell) r7))))) else ((_law_given_j3 cell) (Txt.join (" " : Str) (([(Str.ofString (toString (r3).1))] : (List Str)) ++ x2)))) else none) else none)
def _law_given (cell : Int) : Option Str :=
  (if (decide ((cell % (4 : Int)) = (0 : Int))) = true then ((_law_odd (cell / (4 : Int))).bind fun r1 => (some r1)) else ((_law_mixed cell (3 : Int)).bind fun r2 => ((_law_rule r2).bind fun r3 => (if ((r3).1).natAbs.log2 < 1920 then (forK (_law_given_c1) ((r3).2) [] (_law_given_k2 r3 cell)) else none))))

def _law_writes_number_c1 (base : Int) : (List Str) → Nat → ((List Str) → Option Bool) → Option Bool
  | x2, t1, next1 => (if (!decide (t1 ∈ (cutS ("0123456789abcdef" : Str) none (some base)).cps.toList)) = true then (if x2.length < 16777216 then (next1 (x2 ++ [(⟨#[t1]⟩ : Str)])) else none) else (next1 x2))
def _law_writes_number_k2 (text : Str) : (List Str) → Option Bool
  | x2 => (if (!(x2).isEmpty) = true then (some false) else (if text.length ≤ 16777216 then (if (decide ((text.length : Int) = (1 : Int))) = true then (some true) else (if text.length ≤ 16777216 then ((atI text.cps.toList (0 : Int)).bind fun x3 => (some (!decide ((⟨#[x3]⟩ : Str) = ("0" : Str))))) else none)) else none))
def _law_writes_number (base : Int) (text : Str) : Option Bool :=
  (if ("0123456789abcdef" : Str).length ≤ 16777216 then (if (decide (text = ("" : Str))) = true then (some false) else (forK (_law_writes_number_c1 base) (text.cps.toList) [] (_law_writes_number_k2 text))) else none)

def _law_writes_rule_c1 : (List Str) → Int → ((List Str) → Option Bool) → Option Bool
  | x3, t1, next1 => (if (t1).natAbs.log2 < 1920 then (if x3.length < 16777216 then (next1 (x3 ++ [(Str.ofString (toString t1))])) else none) else none)
def _law_writes_rule_c5 (x5 : Int) : (List Str) → Nat → ((List Str) → Option Bool) → Option Bool
  | x8, t3, next3 => (if (!decide (t3 ∈ (cutS ("0123456789abcdef" : Str) none (some x5)).cps.toList)) = true then (if x8.length < 16777216 then (next3 (x8 ++ [(⟨#[t3]⟩ : Str)])) else none) else (next3 x8))
def _law_writes_rule_c7 (x5 : Int) : (List Int) → Nat → ((List Int) → Option Bool) → Option Bool
  | x10, t4, next4 => ((sIdx (cutS ("0123456789abcdef" : Str) none (some x5)) (⟨#[t4]⟩ : Str)).bind fun x11 => (if x10.length < 16777216 then (next4 (x10 ++ [(x11 : Int)])) else none))
def _law_writes_rule_k8 (x6 : (List (List Int))) (next2 : ((List (List Int)) → Option Bool)) : (List Int) → Option Bool
  | x10 => (if x6.length < 16777216 then (next2 (x6 ++ [x10])) else none)
def _law_writes_rule_k6 (x5 : Int) (t2 : Str) (x6 : (List (List Int))) (next2 : ((List (List Int)) → Option Bool)) : (List Str) → Option Bool
  | x8 => (if (!(x8).isEmpty) = true then (some false) else (forK (_law_writes_rule_c7 x5) (t2.cps.toList) [] (_law_writes_rule_k8 x6 next2)))
def _law_writes_rule_b3 (x5 : Int) : (List (List Int)) → Str → ((List (List Int)) → Option Bool) → Option Bool
  | x6, t2, next2 => (if t2.length ≤ 16777216 then (if (decide ((1 : Int) ≤ (t2.length : Int))) = true then (if (!(decide ((t2.length : Int) ≤ (4 : Int)))) = true then (some false) else (forK (_law_writes_rule_c5 x5) (t2.cps.toList) [] (_law_writes_rule_k6 x5 t2 x6 next2))) else (some false)) else none)
def _law_writes_rule_c9 (x6 : (List (List Int))) : (List (List Int)) → (List Int) → ((List (List Int)) → Option Bool) → Option Bool
  | x13, t5, next5 => (if (decide ((1 : Int) < ((cntT t5 x6 : Nat) : Int))) = true then (if x13.length < 16777216 then (next5 (x13 ++ [t5])) else none) else (next5 x13))
def _law_writes_rule_k10 (x6 : (List (List Int))) : (List (List Int)) → Option Bool
  | x13 => (if x6.length ≤ 16777216 then (if (eqT x6 (sortT x6)) = true then (some (eqT x13 [])) else (some false)) else none)
def _law_writes_rule_e4 : (List (List Int)) → Option Bool
  | x6 => (forK (_law_writes_rule_c9 x6) (x6) [] (_law_writes_rule_k10 x6))
def _law_writes_rule_k2 (x1 : Str) (text : Str) : (List Str) → Option Bool
  | x3 => (if (!memT x1 x3) = true then (some false) else (if (decide ((5 : Int) < ((Txt.split text (" " : Str)).length : Int))) = true then (some false) else ((atI (Txt.split text (" " : Str)) (0 : Int)).bind fun x4 => ((PySem.intText? x4).bind fun x5 => (if x4.length ≤ 640 then (if ("0123456789abcdef" : Str).length ≤ 16777216 then (forK (_law_writes_rule_b3 x5) ((cutT (Txt.split text (" " : Str)) (some (1 : Int)) none)) ([] : (List (List Int))) (_law_writes_rule_e4)) else none) else none)))))
def _law_writes_rule (text : Str) : Option Bool :=
  (if text.length + 2 ≤ 16777216 then ((atI (Txt.split text (" " : Str)) (0 : Int)).bind fun x1 => (forK (_law_writes_rule_c1) (irange (2 : Int) (17 : Int)) [] (_law_writes_rule_k2 x1 text))) else none)

def law_b3 (r3 : Int) (r2 : Str) : Unit → Int → (Unit → Option Bool) → Option Bool
  | _, t2, next2 => ((_law_asked t2 (PyData.int ((2 : Int) + (r3 % (15 : Int)))) (PyData.str r2)).bind fun r4 => ((_law_writes_rule r2).bind fun r5 => ((_law_writes_number ((2 : Int) + (r3 % (15 : Int))) r2).bind fun r6 => ((atI ([r5, r6] : (List Bool)) t2).bind fun x1 => (if x1 = true then ((atI r4 (0 : Int)).bind fun x2 => ((asBl x2).bind fun x3 => (if x3 = true then (some false) else ((atI r4 (1 : Int)).bind fun x4 => ((_law_asked ((2 : Int) + t2) (PyData.int ((2 : Int) + (r3 % (15 : Int)))) x4).bind fun r7 => (if EqOk (PyData.list r7) (PyData.list ([(PyData.bool false), (PyData.str r2)] : (List PyData))) then (if (!PyData.eqv (PyData.list r7) (PyData.list ([(PyData.bool false), (PyData.str r2)] : (List PyData)))) = true then (some false) else (next2 ())) else none)))))) else (if EqOk (PyData.list r4) (PyData.list ([(PyData.bool true), (PyData.str ("text" : Str))] : (List PyData))) then (if (!PyData.eqv (PyData.list r4) (PyData.list ([(PyData.bool true), (PyData.str ("text" : Str))] : (List PyData)))) = true then (some false) else (next2 ())) else none))))))
def law_e4 (r1 : Int) (r3 : Int) (r2 : Str) (next1 : (Unit → Option Bool)) : Unit → Option Bool
  | _ => ((_law_mixed (if r1 < 0 then -r1 else r1) (5 : Int)).bind fun r8 => ((_law_rule r8).bind fun r9 => ((_law_mixed (if r1 < 0 then -r1 else r1) (6 : Int)).bind fun r10 => ((_law_bad r9 r10).bind fun r11 => (if ShowOk r11 then ((_law_asked (2 : Int) (PyData.int ((2 : Int) + (r3 % (15 : Int)))) r11).bind fun r12 => (if EqOk (PyData.list r12) (PyData.list ([(PyData.bool true), (PyData.str ("rule" : Str))] : (List PyData))) then (if (!PyData.eqv (PyData.list r12) (PyData.list ([(PyData.bool true), (PyData.str ("rule" : Str))] : (List PyData)))) = true then (some false) else (if ShowOk r11 then (if (!decide ((PyData.shown r11) = (PyData.shown r11))) = true then (some false) else ((_law_mixed (if r1 < 0 then -r1 else r1) (7 : Int)).bind fun r13 => ((atI ([PyData.none, (PyData.int (0 : Int)), (PyData.int (1 : Int)), (PyData.int (17 : Int)), (PyData.bool true), (PyData.str ("10" : Str)), (PyData.list (([(10 : Int)] : (List Int)).map fun z => (PyData.int z))), (PyData.int (-(2 : Int))), (PyData.int ((10 : Int) ^ (25 : Int).toNat)), (PyData.tuple [(PyData.int (10 : Int))]), (PyData.dict [])] : (List PyData)) (r13 % (11 : Int))).bind fun x5 => ((_law_asked (1 : Int) x5 (PyData.str r2)).bind fun r14 => (if EqOk (PyData.list r14) (PyData.list ([(PyData.bool true), (PyData.str ("base" : Str))] : (List PyData))) then (if (!PyData.eqv (PyData.list r14) (PyData.list ([(PyData.bool true), (PyData.str ("base" : Str))] : (List PyData)))) = true then (some false) else ((_law_asked (3 : Int) x5 (PyData.int (5 : Int))).bind fun r15 => (if EqOk (PyData.list r15) (PyData.list ([(PyData.bool true), (PyData.str ("base" : Str))] : (List PyData))) then (if (!PyData.eqv (PyData.list r15) (PyData.list ([(PyData.bool true), (PyData.str ("base" : Str))] : (List PyData)))) = true then (some false) else ((_law_mixed (if r1 < 0 then -r1 else r1) (8 : Int)).bind fun r16 => ((atI ([PyData.none, (PyData.int (-(1 : Int))), (PyData.bool true), (PyData.str ("5" : Str)), (PyData.list (([(5 : Int)] : (List Int)).map fun z => (PyData.int z))), (PyData.tuple [(PyData.int (5 : Int))]), (PyData.dict []), (PyData.int (-((10 : Int) ^ (25 : Int).toNat))), (PyData.bool false)] : (List PyData)) (r16 % (9 : Int))).bind fun x6 => ((_law_asked (3 : Int) (PyData.int ((2 : Int) + (r3 % (15 : Int)))) x6).bind fun r17 => (if EqOk (PyData.list r17) (PyData.list ([(PyData.bool true), (PyData.str ("number" : Str))] : (List PyData))) then (if (!PyData.eqv (PyData.list r17) (PyData.list ([(PyData.bool true), (PyData.str ("number" : Str))] : (List PyData)))) = true then (some false) else ((_law_asked (3 : Int) x5 x6).bind fun r18 => (if EqOk (PyData.list r18) (PyData.list ([(PyData.bool true), (PyData.str ("base" : Str))] : (List PyData))) then (if (!PyData.eqv (PyData.list r18) (PyData.list ([(PyData.bool true), (PyData.str ("base" : Str))] : (List PyData)))) = true then (some false) else (next1 ())) else none))) else none))))) else none))) else none))))) else none)) else none)) else none)))))
def law_b1 (ns : (List Int)) : Unit → Int → (Unit → Option Bool) → Option Bool
  | _, t1, next1 => ((_law_cell ns t1).bind fun r1 => ((_law_given (if r1 < 0 then -r1 else r1)).bind fun r2 => ((_law_mixed (if r1 < 0 then -r1 else r1) (9 : Int)).bind fun r3 => (forK (law_b3 r3 r2) (irange 0 (2 : Int)) () (law_e4 r1 r3 r2 next1)))))
def law_b5 : Unit → PyData → (Unit → Option Bool) → Option Bool
  | _, t3, next3 => ((_law_asked (0 : Int) (PyData.int (10 : Int)) t3).bind fun r19 => (if EqOk (PyData.list r19) (PyData.list ([(PyData.bool true), (PyData.str ("text" : Str))] : (List PyData))) then (if (!PyData.eqv (PyData.list r19) (PyData.list ([(PyData.bool true), (PyData.str ("text" : Str))] : (List PyData)))) = true then (some false) else ((_law_asked (1 : Int) (PyData.int (10 : Int)) t3).bind fun r20 => (if EqOk (PyData.list r20) (PyData.list ([(PyData.bool true), (PyData.str ("text" : Str))] : (List PyData))) then (if (!PyData.eqv (PyData.list r20) (PyData.list ([(PyData.bool true), (PyData.str ("text" : Str))] : (List PyData)))) = true then (some false) else (next3 ())) else none))) else none))
def law_e6 : Unit → Option Bool
  | _ => (some true)
def law_e2 : Unit → Option Bool
  | _ => (forK (law_b5) (([PyData.none, (PyData.int (0 : Int)), (PyData.list (([("10" : Str)] : (List Str)).map fun z => (PyData.str z))), (PyData.tuple [(PyData.int (10 : Int)), (PyData.list ([] : (List PyData)))]), (PyData.bool true), (PyData.dict []), (PyData.list (([(1 : Int)] : (List Int)).map fun z => (PyData.int z)))] : (List PyData))) () (law_e6))
def law (ns : List Int) : Option Bool :=
  (if Rg1 (if (if (63 : Int) < (ns.length : Int) then (63 : Int) else (ns.length : Int)) > (16 : Int) then (if (63 : Int) < (ns.length : Int) then (63 : Int) else (ns.length : Int)) else (16 : Int)) then (forK (law_b1 ns) (irange 0 (if (if (63 : Int) < (ns.length : Int) then (63 : Int) else (ns.length : Int)) > (16 : Int) then (if (63 : Int) < (ns.length : Int) then (63 : Int) else (ns.length : Int)) else (16 : Int))) () (law_e2)) else none)
section
variable [ErT]
structure Txt (K : PySem.W.Frag) (mg : Str → Option Value) where
  f_is_whole : FnAt K mg "is_whole" s_is_whole ["thing"]
  f_is_base : FnAt K mg "is_base" s_is_base ["thing"]
  f_is_figure : FnAt K mg "is_figure" s_is_figure ["base", "thing"]
  f_are_figures : FnAt K mg "are_figures" s_are_figures ["base", "thing"]
  f_need_base : FnAt K mg "need_base" s_need_base ["thing"]
  f_worth : FnAt K mg "worth" s_worth ["base", "figures"]
  f_number_by : FnAt K mg "number_by" s_number_by ["base", "figures"]
  f_read_figures : FnAt K mg "read_figures" s_read_figures ["base", "word"]
  f_read_number : FnAt K mg "read_number" s_read_number ["base", "text"]
  f_is_stretch : FnAt K mg "is_stretch" s_is_stretch ["base", "thing"]
  f_is_rule : FnAt K mg "is_rule" s_is_rule ["thing"]
  f_read_rule : FnAt K mg "read_rule" s_read_rule ["text"]
  f_need_from : FnAt K mg "need_from" s_need_from ["thing", "least"]
  f_written : FnAt K mg "written" s_written ["base", "n"]
  f_figures_of : FnAt K mg "figures_of" s_figures_of ["base", "n"]
  f_figures_text : FnAt K mg "figures_text" s_figures_text ["figures"]
  f_show_number : FnAt K mg "show_number" s_show_number ["base", "n"]
  f_show_rule : FnAt K mg "show_rule" s_show_rule ["rule"]
  f__law_asked : FnAt K mg "_law_asked" s__law_asked ["ask", "base", "thing"]
  f__law_bad : FnAt K mg "_law_bad" s__law_bad ["rule", "cell"]
  f__law_cell : FnAt K mg "_law_cell" s__law_cell ["script", "k"]
  f__law_figures : FnAt K mg "_law_figures" s__law_figures ["base", "n"]
  f__law_mixed : FnAt K mg "_law_mixed" s__law_mixed ["cell", "k"]
  f__law_number : FnAt K mg "_law_number" s__law_number ["cell", "k"]
  f__law_odd : FnAt K mg "_law_odd" s__law_odd ["cell"]
  f__law_rule : FnAt K mg "_law_rule" s__law_rule ["cell"]
  f__law_text : FnAt K mg "_law_text" s__law_text ["figures"]
  f__law_given : FnAt K mg "_law_given" s__law_given ["cell"]
  f__law_writes_number : FnAt K mg "_law_writes_number" s__law_writes_number ["base", "text"]
  f__law_writes_rule : FnAt K mg "_law_writes_rule" s__law_writes_rule ["text"]
  f_law : FnAt K mg "law" s_law ["script"]
  er : ErTxt K mg
  c_LEAST_BASE : CAt mg "LEAST_BASE" 2
  c_MOST_BASE : CAt mg "MOST_BASE" 16
  c_MOST_FIGURES : CAt mg "MOST_FIGURES" 4
  c_MOST_STRETCHES : CAt mg "MOST_STRETCHES" 4
  c_SIGNS : CAtS mg "SIGNS" ("0123456789abcdef" : Str)
  z_ValueError : mg "ValueError" = none
  z_abs : mg "abs" = none
  z_bool : mg "bool" = none
  z_int : mg "int" = none
  z_isinstance : mg "isinstance" = none
  z_len : mg "len" = none
  z_list : mg "list" = none
  z_max : mg "max" = none
  z_min : mg "min" = none
  z_range : mg "range" = none
  z_repr : mg "repr" = none
  z_sorted : mg "sorted" = none
  z_str : mg "str" = none
  z_tuple : mg "tuple" = none
abbrev N_is_whole : List Str := ["thing"]
theorem sc_is_whole : FnScope N_is_whole ["thing"] (defScope s_is_whole) := ⟨rfl, rfl, rfl, by decide +kernel, rfl, by decide +kernel, by decide +kernel⟩
def sp_is_whole : Sp := fun vs H Q _ => ∃ (F : Hp) (v_thing : V) (thing : PyData) (r : Bool), vs = [v_thing] ∧ Sub F H ∧ R F v_thing thing ∧ is_whole thing = some r ∧ ∀ N H2 v, Gr NA F H N H2 → R N v r → Q v H2
theorem ok_is_whole {P : Program} {w : World} {K : PySem.W.Frag} {mg : Str → Option Value} {base : Heap} (T : Txt K mg) : FnOk P w K mg base CX0 1 T.f_is_whole.f T.f_is_whole.fd ["thing"] sp_is_whole := by
  have nd := (sc_is_whole).nd
  refine T.f_is_whole.F.ok sc_is_whole (fun vs H Q E h => ?_) (fun cdv A0 outer s H vs Q E hr h => ?_)
  · obtain ⟨_, _, _, _, rfl, _⟩ := h
    rfl
  obtain ⟨F0, v_thing, thing, r, rfl, s0, f_thing, hm, q⟩ := h
  have G0 : Gr NA F0 H F0 H := Gr.refl s0
  refine ⟨_, (pss_one (ps_ret (pe_and (pe_callB (r := rIsi K) call_isi (by rfl) T.z_isinstance (by decide +kernel) (pa_cons (pv 0) (pa_cons (pe_bltn (v := .ty "int") (by rfl) T.z_int (by decide +kernel) rfl) pa_nil))) (pe_one (pe_not (pe_callB (r := rIsi K) call_isi (by rfl) T.z_isinstance (by decide +kernel) (pa_cons (pv 0) (pa_cons (pe_bltn (v := .ty "bool") (by rfl) T.z_bool (by decide +kernel) rfl) pa_nil)))))))), ?_⟩
  refine x_start (σ' := ([some v_thing] : L2.St)) (by with_unfolding_all rfl) ?_
  rw [is_whole] at hm
  with_reducible refine x_ret ?_
  with_reducible refine x_andV ?_
  with_reducible refine x_cb ?_
  with_reducible refine x_cons ?_
  refine ⟨_, rfl, ?_⟩
  with_reducible refine x_cons ?_
  with_reducible refine x_c ?_
  with_reducible refine x_nil ?_
  refine isi_int (K := K) G0.sub (RD.mono (Sub.refl _) f_thing) _ ?_
  refine ⟨_, rfl, ?_⟩
  refine ifD (fun hc => ?_) (fun hc => ?_)
  · replace hm := itep hm hc
    with_reducible refine x_notV ?_
    with_reducible refine x_cb ?_
    with_reducible refine x_cons ?_
    refine ⟨_, rfl, ?_⟩
    with_reducible refine x_cons ?_
    with_reducible refine x_c ?_
    with_reducible refine x_nil ?_
    refine isi_bool (K := K) G0.sub (RD.mono (Sub.refl _) f_thing) _ ?_
    refine ⟨_, rfl, ?_⟩
    obtain rfl : _ = r := Option.some.inj hm
    exact q _ _ _ G0 (.bl _)
  · replace hm := iten hm (bF hc)
    obtain rfl : _ = r := Option.some.inj hm
    exact q _ _ _ G0 (.bl _)

abbrev N_is_base : List Str := ["thing"]
theorem sc_is_base : FnScope N_is_base ["thing"] (defScope s_is_base) := ⟨rfl, rfl, rfl, by decide +kernel, rfl, by decide +kernel, by decide +kernel⟩
def sp_is_base : Sp := fun vs H Q _ => ∃ (F : Hp) (v_thing : V) (thing : PyData) (r : Bool), vs = [v_thing] ∧ Sub F H ∧ R F v_thing thing ∧ is_base thing = some r ∧ ∀ N H2 v, Gr NA F H N H2 → R N v r → Q v H2
theorem ok_is_base {P : Program} {w : World} {K : PySem.W.Frag} {mg : Str → Option Value} {base : Heap} (T : Txt K mg) : FnOk P w K mg base CX0 2 T.f_is_base.f T.f_is_base.fd ["thing"] sp_is_base := by
  have nd := (sc_is_base).nd
  refine T.f_is_base.F.ok sc_is_base (fun vs H Q E h => ?_) (fun cdv A0 outer s H vs Q E hr h => ?_)
  · obtain ⟨_, _, _, _, rfl, _⟩ := h
    rfl
  obtain ⟨F0, v_thing, thing, r, rfl, s0, f_thing, hm, q⟩ := h
  have G0 : Gr NA F0 H F0 H := Gr.refl s0
  refine ⟨_, (pss_one (ps_ret (pe_and (pe_call (ok_is_whole T) (hr.mono (by decide)) (by rfl) T.f_is_whole.g T.f_is_whole.F.kp T.f_is_whole.b .nil pass0 (pa_cons (pv 0) pa_nil)) (pe_one (pe_chain op_le op_le (pe_glob (v := .int 2) rfl T.c_LEAST_BASE.g ⟨_, rfl⟩) (pv 0) (pe_glob (v := .int 16) rfl T.c_MOST_BASE.g ⟨_, rfl⟩)))))), ?_⟩
  refine x_start (σ' := ([some v_thing] : L2.St)) (by with_unfolding_all rfl) ?_
  rw [is_base] at hm
  with_reducible refine x_ret ?_
  with_reducible refine x_andV ?_
  with_reducible refine x_call ?_
  with_reducible refine x_cons ?_
  refine ⟨_, rfl, ?_⟩
  obtain ⟨r1, hr1, hm⟩ := bindp hm
  refine ⟨_, _, thing, r1, rfl, G0.sub, (RD.mono (Sub.refl _) f_thing), hr1, fun N1 H1 v1 g1 d1  => ?_⟩
  have G1 := G0.step g1
  obtain rfl := bl_of d1
  refine ⟨_, rfl, ?_⟩
  refine ifD (fun hc => ?_) (fun hc => ?_)
  · replace hm := itep hm hc
    with_reducible refine x_chain ?_
    with_reducible refine x_c ?_
    refine ⟨_, rfl, ?_⟩
    obtain ⟨x1, hx1, hm⟩ := bindp hm
    obtain rfl := asInt_of (RD.mono g1.ex f_thing) hx1
    refine ⟨_, _, rfl, rfl, _, rfl, ?_⟩
    refine ifD (fun hc => ?_) (fun hc => ?_)
    · replace hm := itep hm hc
      with_reducible refine x_c ?_
      refine ⟨_, _, rfl, rfl, ?_⟩
      obtain rfl : _ = r := Option.some.inj hm
      exact q _ _ _ G1 (.bl _)
    · replace hm := iten hm (bF hc)
      obtain rfl : _ = r := Option.some.inj hm
      exact q _ _ _ G1 (.bl _)
  · replace hm := iten hm (bF hc)
    obtain rfl : _ = r := Option.some.inj hm
    exact q _ _ _ G1 (.bl _)

abbrev N_is_figure : List Str := ["base", "thing"]
theorem sc_is_figure : FnScope N_is_figure ["base", "thing"] (defScope s_is_figure) := ⟨rfl, rfl, rfl, by decide +kernel, rfl, by decide +kernel, by decide +kernel⟩
def sp_is_figure : Sp := fun vs H Q _ => ∃ (F : Hp) (v_base : V) (v_thing : V) (base : Int) (thing : PyData) (r : Bool), vs = [v_base, v_thing] ∧ Sub F H ∧ R F v_base base ∧ R F v_thing thing ∧ is_figure base thing = some r ∧ ∀ N H2 v, Gr NA F H N H2 → R N v r → Q v H2
theorem ok_is_figure {P : Program} {w : World} {K : PySem.W.Frag} {mg : Str → Option Value} {base : Heap} (T : Txt K mg) : FnOk P w K mg base CX0 2 T.f_is_figure.f T.f_is_figure.fd ["base", "thing"] sp_is_figure := by
  have nd := (sc_is_figure).nd
  refine T.f_is_figure.F.ok sc_is_figure (fun vs H Q E h => ?_) (fun cdv A0 outer s H vs Q E hr h => ?_)
  · obtain ⟨_, _, _, _, _, _, rfl, _⟩ := h
    rfl
  obtain ⟨F0, v_base, v_thing, base, thing, r, rfl, s0, f_base, f_thing, hm, q⟩ := h
  have G0 : Gr NA F0 H F0 H := Gr.refl s0
  obtain rfl := int_of f_base
  refine ⟨_, (pss_one (ps_ret (pe_and (pe_call (ok_is_whole T) (hr.mono (by decide)) (by rfl) T.f_is_whole.g T.f_is_whole.F.kp T.f_is_whole.b .nil pass0 (pa_cons (pv 1) pa_nil)) (pe_one (pe_chain op_le op_lt pe_int (pv 1) (pv 0)))))), ?_⟩
  refine x_start (σ' := ([some (.int base), some v_thing] : L2.St)) (by with_unfolding_all rfl) ?_
  rw [is_figure] at hm
  with_reducible refine x_ret ?_
  with_reducible refine x_andV ?_
  with_reducible refine x_call ?_
  with_reducible refine x_cons ?_
  refine ⟨_, rfl, ?_⟩
  obtain ⟨r1, hr1, hm⟩ := bindp hm
  refine ⟨_, _, thing, r1, rfl, G0.sub, (RD.mono (Sub.refl _) f_thing), hr1, fun N1 H1 v1 g1 d1  => ?_⟩
  have G1 := G0.step g1
  obtain rfl := bl_of d1
  refine ⟨_, rfl, ?_⟩
  refine ifD (fun hc => ?_) (fun hc => ?_)
  · replace hm := itep hm hc
    with_reducible refine x_chain ?_
    with_reducible refine x_c ?_
    refine ⟨_, rfl, ?_⟩
    obtain ⟨x1, hx1, hm⟩ := bindp hm
    obtain rfl := asInt_of (RD.mono g1.ex f_thing) hx1
    refine ⟨_, _, rfl, rfl, _, rfl, ?_⟩
    refine ifD (fun hc => ?_) (fun hc => ?_)
    · replace hm := itep hm hc
      refine ⟨_, rfl, ?_⟩
      refine ⟨_, _, rfl, rfl, ?_⟩
      obtain rfl : _ = r := Option.some.inj hm
      exact q _ _ _ G1 (.bl _)
    · replace hm := iten hm (bF hc)
      obtain rfl : _ = r := Option.some.inj hm
      exact q _ _ _ G1 (.bl _)
  · replace hm := iten hm (bF hc)
    obtain rfl : _ = r := Option.some.inj hm
    exact q _ _ _ G1 (.bl _)

abbrev N_are_figures : List Str := ["base", "thing", "one"]
theorem sc_are_figures : FnScope N_are_figures ["base", "thing"] (defScope s_are_figures) := ⟨rfl, rfl, rfl, by decide +kernel, rfl, by decide +kernel, by decide +kernel⟩
def sp_are_figures : Sp := fun vs H Q _ => ∃ (F : Hp) (v_base : V) (v_thing : V) (base : Int) (thing : PyData) (r : Bool), vs = [v_base, v_thing] ∧ Sub F H ∧ R F v_base base ∧ R F v_thing thing ∧ are_figures base thing = some r ∧ ∀ N H2 v, Gr NA F H N H2 → R N v r → Q v H2
theorem ok_are_figures {P : Program} {w : World} {K : PySem.W.Frag} {mg : Str → Option Value} {base : Heap} (T : Txt K mg) : FnOk P w K mg base CX0 3 T.f_are_figures.f T.f_are_figures.fd ["base", "thing"] sp_are_figures := by
  have nd := (sc_are_figures).nd
  refine T.f_are_figures.F.ok sc_are_figures (fun vs H Q E h => ?_) (fun cdv A0 outer s H vs Q E hr h => ?_)
  · obtain ⟨_, _, _, _, _, _, rfl, _⟩ := h
    rfl
  obtain ⟨F0, v_base, v_thing, base, thing, r, rfl, s0, f_base, f_thing, hm, q⟩ := h
  have G0 : Gr NA F0 H F0 H := Gr.refl s0
  obtain rfl := int_of f_base
  refine ⟨_, (pss_one (ps_ret (pe_and (pe_callB (r := rIsi K) call_isi (by rfl) T.z_isinstance (by decide +kernel) (pa_cons (pv 1) (pa_cons (pe_bltn (v := .ty "list") (by rfl) T.z_list (by decide +kernel) rfl) pa_nil))) (pe_one (pe_cmpR (op_eqNil (hu64 hr)) (pe_lc (own := [("one", 2)]) (g := (gName 2)) rfl nd (pi_list (pv 1)) (blkOk_by (own := [("one", 2)]) (N := N_are_figures) (sc := defScope s_are_figures) (by decide +kernel)) (fun _ _ _ _ _ => pg_name (i := 2) nd rfl (Or.inl rfl)) (fun _ _ _ _ _ => pts_one (pt_not (pt_val (pe_call (ok_is_figure T) (hr.mono (by decide)) (by rfl) T.f_is_figure.g T.f_is_figure.F.kp T.f_is_figure.b .nil pass0 (pa_cons (pv 0) (pa_cons (pv 2) pa_nil)))))) (fun _ _ _ _ _ => (pv 2))) (pe_lst pa_nil) (nomark _)))))), ?_⟩
  refine x_start (σ' := ([some (.int base), some v_thing, none] : L2.St)) (by with_unfolding_all rfl) ?_
  rw [are_figures] at hm
  with_reducible refine x_ret ?_
  with_reducible refine x_andV ?_
  with_reducible refine x_cb ?_
  with_reducible refine x_cons ?_
  refine ⟨_, rfl, ?_⟩
  with_reducible refine x_cons ?_
  with_reducible refine x_c ?_
  with_reducible refine x_nil ?_
  refine isi_list (K := K) G0.sub (RD.mono (Sub.refl _) f_thing) _ ?_
  refine ⟨_, rfl, ?_⟩
  refine ifD (fun hc => ?_) (fun hc => ?_)
  · replace hm := itep hm hc
    with_reducible refine x_op ?_
    with_reducible refine x_lc ?_
    with_reducible refine x_iter ?_
    refine ⟨_, rfl, ?_⟩
    obtain ⟨x1, hx1, hm⟩ := bindp hm
    have d1 : R (F0) v_thing x1 := asLst_of (RD.mono (Sub.refl _) f_thing) hx1
    obtain ⟨a1, us1, rfl, fa1, fr1⟩ := lst_of d1
    refine ⟨_, rfl, ⟨_, .inl (.inl (G0.sub _ _ fa1))⟩, fun p1 np1 => ?_⟩
    have g1 := Gr.newO (o := .lst []) G0.sub np1
    have o1 := Ow.new (us := []) G0 np1
    have G1 := G0.step g1
    refine lc_lst (α := PyData) (fun (ts1 : List PyData) H1 => ∃ (F1 : Hp) (x3 : List PyData) (us3 : List V), forK (are_figures_c1 base) ts1 x3 (are_figures_k2) = some r ∧ Sub (F0) F1 ∧ Gr NA F0 H F1 H1 ∧ Ow H F1 H1 p1 us3 ∧ Rs F1 us3 x3) (Rs_mono (Sub.refl _) fr1) ⟨F0, ([] : List PyData), _, hm, (Sub.refl _), G1, o1, Rs_nil⟩ (fun _ _ h => ?_) (fun t1 ts2 v1 H1 hv1 hW => ?_) (fun H1 hW => ?_)
    · obtain ⟨F9z, _, _, _, s9z, G9z, _⟩ := h
      exact G9z.sub _ _ (s9z _ _ ((Sub.refl _) _ _ fa1))
    · skip
      obtain ⟨F1, x3, us3, hm, s1, G2, o2, fr2⟩ := hW
      obtain ⟨next1, hnx1⟩ : ∃ nx, nx = fun s => forK (are_figures_c1 base) ts2 s (are_figures_k2) := ⟨_, rfl⟩
      have hm : (are_figures_c1 base) x3 t1 next1 = some r := by rw [hnx1]; exact forK_c hm
      rw [are_figures_c1] at hm
      with_reducible refine x_gnE (σ' := ([some (.int base), some (.ref a1), some v1] : L2.St)) (by with_unfolding_all rfl) ?_
      refine ⟨rfl, ?_⟩
      with_reducible refine x_not ?_
      with_reducible refine x_B ?_
      with_reducible refine x_call ?_
      with_reducible refine x_cons ?_
      refine ⟨_, rfl, ?_⟩
      with_reducible refine x_cons ?_
      refine ⟨_, rfl, ?_⟩
      obtain ⟨r1, hr1, hm⟩ := bindp hm
      refine ⟨_, _, _, base, t1, r1, rfl, G2.sub, (.int _), (RD.mono s1 hv1), hr1, fun N1 H2 v2 g2 d2  => ?_⟩
      have G3 := G2.step g2
      have o3 := o2.step g2
      obtain rfl := bl_of d2
      refine ⟨_, rfl, ?_⟩
      refine ifD (fun hc => ?_) (fun hc => ?_)
      · replace hm := itep hm hc
        refine ⟨_, rfl, ?_⟩
        obtain ⟨c1, hm⟩ := guardp hm
        have G4 := o3.mutG (o := .lst (us3 ++ [v1])) G3
        have o4 := o3.mut (ws := us3 ++ [v1])
        have fr3 : Rs (α := PyData) (N1) (us3 ++ [v1]) (x3 ++ [t1]) := Rs_snoc (Rs_mono g2.ex fr2) (RD.mono (s1.trans g2.ex) hv1)
        rw [hnx1] at hm
        exact ⟨_, o3.at_, szl (by rw [Rs_len (Rs_mono g2.ex fr2)]; exact c1), ⟨N1, (x3 ++ [t1]), _, hm, (s1.trans g2.ex), G4, o4, fr3⟩⟩
      · replace hm := iten hm (bF hc)
        rw [hnx1] at hm
        exact ⟨N1, x3, _, hm, (s1.trans g2.ex), G3, o3, (Rs_mono g2.ex fr2)⟩
    · skip
      obtain ⟨F1, x3, us3, hm, s2, G5, o5, fr4⟩ := hW
      have hm : (are_figures_k2) x3 = some r := forK_n hm
      rw [are_figures_k2] at hm
      with_reducible refine x_lst ?_
      refine ⟨szle (show 0 ≤ 16777216 from by decide), fun p2 np2 => ?_⟩
      have fr5 : Rs (α := PyData) (F1) [] ([] : (List PyData)) := Rs_nil
      have g3 := Gr.newO (o := .lst []) G5.sub np2
      have o6 := Ow.new (us := []) G5 np2
      have ne1 := o5.ne_new np2
      have G6 := G5.step g3
      have o7 := o5.step g3
      refine eqNil_use (.inl (.inl o7.at_)) (.inl (.inl o6.at_)) (emp_len (Rs_len fr4)) ?_
      obtain rfl : _ = r := Option.some.inj hm
      exact q _ _ _ G6 (.bl _)
  · replace hm := iten hm (bF hc)
    obtain rfl : _ = r := Option.some.inj hm
    exact q _ _ _ G0 (.bl _)

abbrev N_need_base : List Str := ["thing"]
theorem sc_need_base : FnScope N_need_base ["thing"] (defScope s_need_base) := ⟨rfl, rfl, rfl, by decide +kernel, rfl, by decide +kernel, by decide +kernel⟩
def sp_need_base : Sp := fun vs H Q E => ∃ (F : Hp) (v_thing : V) (thing : PyData) (r : (Except Er Unit)), vs = [v_thing] ∧ Sub F H ∧ R F v_thing thing ∧ need_base thing = some r ∧ (∀ x9, r = .ok x9 → ∀ N H2 v, Gr NA F H N H2 → R N v x9 → Q v H2) ∧ ∀ e9, r = .error e9 → ∀ N H2, Gr NA F H N H2 → E (.ref (ErT.ad e9)) none H2
theorem ok_need_base {P : Program} {w : World} {K : PySem.W.Frag} {mg : Str → Option Value} {base : Heap} (T : Txt K mg) : FnOk P w K mg base (L2.CX P w) 3 T.f_need_base.f T.f_need_base.fd ["thing"] sp_need_base := by
  have nd := (sc_need_base).nd
  refine T.f_need_base.F.okX sc_need_base (fun vs H Q E h => ?_) (fun cdv A0 outer s H vs Q E hr h => ?_)
  · obtain ⟨_, _, _, _, rfl, _⟩ := h
    rfl
  obtain ⟨F0, v_thing, thing, r, rfl, s0, f_thing, hm, q, qe⟩ := h
  have G0 : Gr NA F0 H F0 H := Gr.refl s0
  refine ⟨_, (pss_one (ps_if (pt_not (pt_val (pe_call (ok_is_base T) (hr.mono (by decide)) (by rfl) T.f_is_base.g T.f_is_base.F.kp T.f_is_base.b .nil pass0 (pa_cons (pv 0) pa_nil)))) (pss_one (ps_raiseE rfl (takes_of rfl rfl rfl rfl) (T.er.r .NoBase) (by rfl))) pss_nil)), ?_⟩
  refine x_start (σ' := ([some v_thing] : L2.St)) (by with_unfolding_all rfl) ?_
  rw [need_base] at hm
  with_reducible refine x_if ?_
  with_reducible refine x_not ?_
  with_reducible refine x_B ?_
  with_reducible refine x_call ?_
  with_reducible refine x_cons ?_
  refine ⟨_, rfl, ?_⟩
  obtain ⟨r1, hr1, hm⟩ := bindp hm
  refine ⟨_, _, thing, r1, rfl, G0.sub, (RD.mono (Sub.refl _) f_thing), hr1, fun N1 H1 v1 g1 d1  => ?_⟩
  have G1 := G0.step g1
  obtain rfl := bl_of d1
  refine ⟨_, rfl, ?_⟩
  refine ifD (fun hc => ?_) (fun hc => ?_)
  · replace hm := itep hm hc
    obtain rfl : Except.error _ = r := Option.some.inj hm
    exact qe _ rfl _ _ G1
  · replace hm := iten hm (bF hc)
    with_reducible refine x_next ?_
    obtain rfl : Except.ok _ = r := Option.some.inj hm
    exact q _ rfl _ _ _ G1 .non

abbrev N_worth : List Str := ["base", "figures", "found", "figure"]
theorem sc_worth : FnScope N_worth ["base", "figures"] (defScope s_worth) := ⟨rfl, rfl, rfl, by decide +kernel, rfl, by decide +kernel, by decide +kernel⟩
def sp_worth : Sp := fun vs H Q _ => ∃ (F : Hp) (v_base : V) (v_figures : V) (base : Int) (figures : (List Int)) (r : Int), vs = [v_base, v_figures] ∧ Sub F H ∧ R F v_base base ∧ R F v_figures figures ∧ worth base figures = some r ∧ ∀ N H2 v, Gr NA F H N H2 → R N v r → Q v H2
theorem ok_worth {P : Program} {w : World} {K : PySem.W.Frag} {mg : Str → Option Value} {base : Heap} (T : Txt K mg) : FnOk P w K mg base CX0 1 T.f_worth.f T.f_worth.fd ["base", "figures"] sp_worth := by
  have nd := (sc_worth).nd
  refine T.f_worth.F.ok sc_worth (fun vs H Q E h => ?_) (fun cdv A0 outer s H vs Q E hr h => ?_)
  · obtain ⟨_, _, _, _, _, _, rfl, _⟩ := h
    rfl
  obtain ⟨F0, v_base, v_figures, base, figures, r, rfl, s0, f_base, f_figures, hm, q⟩ := h
  have G0 : Gr NA F0 H F0 H := Gr.refl s0
  obtain rfl := int_of f_base
  obtain ⟨a1, us1, rfl, fa1, fr1⟩ := lst_of f_figures
  refine ⟨_, (pss_cons (ps_set (i := 2) nd rfl (by first | exact Or.inl rfl | exact Or.inr rfl) pe_int) (pss_cons (ps_for PassesOwn.never rfl (pi_list (pv 1)) (pg_name (i := 3) nd rfl (by first | exact Or.inl rfl | exact Or.inr rfl)) (pss_one (ps_set (i := 2) nd rfl (by first | exact Or.inl rfl | exact Or.inr rfl) (pe_op op_add (pe_op op_mulW (pv 2) (pv 0)) (pv 3))))) (pss_one (ps_ret (pv 2))))), ?_⟩
  refine x_start (σ' := ([some (.int base), some (.ref a1), none, none] : L2.St)) (by with_unfolding_all rfl) ?_
  rw [worth] at hm
  with_reducible refine x_seq ?_
  with_reducible refine x_asg ?_
  with_reducible refine x_c ?_
  with_reducible refine x_gnE (σ' := ([some (.int base), some (.ref a1), some (.int 0), none] : L2.St)) (by with_unfolding_all rfl) ?_
  with_reducible refine x_seq ?_
  with_reducible refine x_for ?_
  with_reducible refine x_iter ?_
  refine ⟨_, rfl, ?_⟩
  refine ⟨_, rfl, ⟨_, .inl (.inl (G0.sub _ _ fa1))⟩, ?_⟩
  refine for_lst (α := Int) (fun (ts1 : List Int) σ H1 => ∃ (F1 : Hp) (x1 : Int) (y1 : Option V), forK (worth_b1 base) ts1 x1 (worth_e2) = some r ∧ Sub (F0) F1 ∧ Gr NA F0 H F1 H1 ∧ σ = [some (.int base), some (.ref a1), some (.int x1), y1]) (Rs_mono (Sub.refl _) fr1) ⟨F0, (0 : Int), _, hm, (Sub.refl _), G0, rfl⟩ (fun _ _ _ h => ?_) (fun t1 ts2 v1 σ H1 hv1 hW => ?_) (fun σ H1 hW => ?_)
  · obtain ⟨F1, x1, y1, _, s9z, G9z, _⟩ := h
    exact G9z.sub _ _ (s9z _ _ ((Sub.refl _) _ _ fa1))
  · skip
    obtain ⟨F1, x1, y1, hm, s1, G1, rfl⟩ := hW
    obtain ⟨next1, hnx1⟩ : ∃ nx, nx = fun s => forK (worth_b1 base) ts2 s (worth_e2) := ⟨_, rfl⟩
    have hm : (worth_b1 base) x1 t1 next1 = some r := by rw [hnx1]; exact forK_c hm
    rw [worth_b1] at hm
    obtain rfl := int_of hv1
    with_reducible refine x_gnE (σ' := ([some (.int base), some (.ref a1), some (.int x1), some (.int t1)] : L2.St)) (by with_unfolding_all rfl) ?_
    with_reducible refine x_asg ?_
    with_reducible refine x_op ?_
    with_reducible refine x_op ?_
    refine ⟨_, rfl, ?_⟩
    refine ⟨_, rfl, ?_⟩
    obtain ⟨c1, hm⟩ := guardp hm
    refine ⟨_, _, rfl, rfl, c1.w, ?_⟩
    refine ⟨_, rfl, ?_⟩
    refine ⟨_, _, rfl, rfl, ?_⟩
    with_reducible refine x_gnE (σ' := ([some (.int base), some (.ref a1), some (.int ((x1 * base) + t1)), some (.int t1)] : L2.St)) (by with_unfolding_all rfl) ?_
    rw [hnx1] at hm
    exact ⟨F1, ((x1 * base) + t1), _, hm, s1, G1, rfl⟩
  · skip
    obtain ⟨F1, x1, y1, hm, s2, G2, rfl⟩ := hW
    have hm : (worth_e2) x1 = some r := forK_n hm
    rw [worth_e2] at hm
    with_reducible refine x_ret ?_
    refine ⟨_, rfl, ?_⟩
    obtain rfl : _ = r := Option.some.inj hm
    exact q _ _ _ G2 (.int _)

abbrev N_number_by : List Str := ["base", "figures"]
theorem sc_number_by : FnScope N_number_by ["base", "figures"] (defScope s_number_by) := ⟨rfl, rfl, rfl, by decide +kernel, rfl, by decide +kernel, by decide +kernel⟩
def sp_number_by : Sp := fun vs H Q E => ∃ (F : Hp) (v_base : V) (v_figures : V) (base : PyData) (figures : PyData) (r : (Except Er Int)), vs = [v_base, v_figures] ∧ Sub F H ∧ R F v_base base ∧ R F v_figures figures ∧ number_by base figures = some r ∧ (∀ x9, r = .ok x9 → ∀ N H2 v, Gr NA F H N H2 → R N v x9 → Q v H2) ∧ ∀ e9, r = .error e9 → ∀ N H2, Gr NA F H N H2 → E (.ref (ErT.ad e9)) none H2
theorem ok_number_by {P : Program} {w : World} {K : PySem.W.Frag} {mg : Str → Option Value} {base : Heap} (T : Txt K mg) : FnOk P w K mg base (L2.CX P w) 4 T.f_number_by.f T.f_number_by.fd ["base", "figures"] sp_number_by := by
  have nd := (sc_number_by).nd
  refine T.f_number_by.F.okX sc_number_by (fun vs H Q E h => ?_) (fun cdv A0 outer s H vs Q E hr h => ?_)
  · obtain ⟨_, _, _, _, _, _, rfl, _⟩ := h
    rfl
  obtain ⟨F0, v_base, v_figures, base, figures, r, rfl, s0, f_base, f_figures, hm, q, qe⟩ := h
  have G0 : Gr NA F0 H F0 H := Gr.refl s0
  refine ⟨_, (pss_cons (ps_expr (pe_callS (ok_need_base T) (hr.mono (by decide)) (by rfl) T.f_need_base.g T.f_need_base.F.kp T.f_need_base.b (fun σ => passAt (takes_of rfl rfl rfl rfl) σ) (pa_cons (pv 0) pa_nil))) (pss_cons (ps_if (PW.pt (pw_or (pt_not (pt_val (pe_call (ok_are_figures T) (hr.mono (by decide)) (by rfl) T.f_are_figures.g T.f_are_figures.F.kp T.f_are_figures.b .nil pass0 (pa_cons (pv 0) (pa_cons (pv 1) pa_nil))))) (pw_or (pt_cmpR (op_eqA (hu64 hr)) (pv 1) (pe_lst pa_nil) (nomark _)) (pw_or1 (PW.pt (pw_and (pt_cmp (pc_gt (pe_callB (r := rLenT K) call_lenT (by rfl) T.z_len PySem.boot_len (pa_cons (pv 1) pa_nil)) pe_int)) (pw_and1 (pt_cmpR (op_eqA (hu64 hr)) (pe_ix (r := rIx K) ix_seq (pv 1) pe_int (fun _ _ => rfl)) pe_int (nomark _))))))))) (pss_one (ps_raiseE rfl (takes_of rfl rfl rfl rfl) (T.er.r .NoFigures) (by rfl))) pss_nil) (pss_one (ps_ret (pe_call (ok_worth T) (hr.mono (by decide)) (by rfl) T.f_worth.g T.f_worth.F.kp T.f_worth.b .nil pass0 (pa_cons (pv 0) (pa_cons (pv 1) pa_nil))))))), ?_⟩
  refine x_start (σ' := ([some v_base, some v_figures] : L2.St)) (by with_unfolding_all rfl) ?_
  rw [number_by] at hm
  with_reducible refine x_seq ?_
  with_reducible refine x_drop ?_
  with_reducible refine x_callS ?_
  with_reducible refine x_cons ?_
  refine ⟨_, rfl, ?_⟩
  obtain ⟨r1, hr1, hm⟩ := bindp hm
  refine ⟨_, _, base, r1, rfl, G0.sub, (RD.mono (Sub.refl _) f_base), hr1, fun y1 e9 N1 H1 v1 g1 d1 => ?_, fun er1 e9 N1 H1 g1 => ?_⟩
  · subst e9; rw [exB_ok] at hm
    have G1 := G0.step g1
    obtain rfl := non_of d1
    with_reducible refine x_seq ?_
    with_reducible refine x_if ?_
    with_reducible refine x_or ?_
    with_reducible refine x_not ?_
    with_reducible refine x_B ?_
    with_reducible refine x_call ?_
    with_reducible refine x_cons ?_
    refine ⟨_, rfl, ?_⟩
    with_reducible refine x_cons ?_
    refine ⟨_, rfl, ?_⟩
    obtain ⟨x1, hx1, hm⟩ := bindp hm
    obtain rfl := asInt_of (RD.mono g1.ex f_base) hx1
    obtain ⟨r2, hr2, hm⟩ := bindp hm
    refine ⟨_, _, _, x1, figures, r2, rfl, G1.sub, (.int _), (RD.mono g1.ex f_figures), hr2, fun N2 H2 v2 g2 d2  => ?_⟩
    have G2 := G1.step g2
    obtain rfl := bl_of d2
    refine ⟨_, rfl, ?_⟩
    refine ifD (fun hc => ?_) (fun hc => ?_)
    · replace hm := itep hm hc
      refine iteT ?_
      obtain rfl : Except.error _ = r := Option.some.inj hm
      exact qe _ rfl _ _ G2
    · replace hm := iten hm (bF hc)
      with_reducible refine x_or ?_
      with_reducible refine x_test ?_
      with_reducible refine x_op ?_
      refine ⟨_, rfl, ?_⟩
      with_reducible refine x_lst ?_
      refine ⟨szle (show 0 ≤ 16777216 from by decide), fun p1 np1 => ?_⟩
      have fr1 : Rs (α := PyData) (N2) [] ([] : (List PyData)) := Rs_nil
      have g3 := Gr.newO (o := .lst []) G2.sub np1
      have o1 := Ow.new (us := []) G2 np1
      have G3 := G2.step g3
      obtain ⟨F1, G4, ex1, fa1, nf1⟩ := o1.frzE G3
      have fr2 := Rs_mono ex1 fr1
      have d3 : R (α := PyData) (F1) (.ref p1) (PyData.list ([] : (List PyData))) := (R_anyL (mk_lst ((Sub.refl _) _ _ fa1) (Rs_mono (Sub.refl _) fr2)))
      obtain ⟨c1, hm⟩ := guardp hm
      refine eqA_use (a := figures) (b := (PyData.list ([] : (List PyData)))) G4.sub (RD.mono ((g1.ex.trans g2.ex).trans ex1) f_figures) (RD.mono (Sub.refl _) d3) c1 ?_
      refine ⟨_, rfl, ?_⟩
      refine ifD (fun hc => ?_) (fun hc => ?_)
      · replace hm := itep hm hc
        refine iteT ?_
        obtain rfl : Except.error _ = r := Option.some.inj hm
        exact qe _ rfl _ _ G4
      · replace hm := iten hm (bF hc)
        with_reducible refine x_and ?_
        with_reducible refine x_B ?_
        with_reducible refine x_cmp ?_
        with_reducible refine x_cb ?_
        with_reducible refine x_cons ?_
        refine ⟨_, rfl, ?_⟩
        obtain ⟨x2, hx2, hm⟩ := bindp hm
        with_reducible refine x_nil ?_
        refine lenD (K := K) G4.sub (RD.mono ((g1.ex.trans g2.ex).trans ex1) f_figures) hx2 _ ?_
        with_reducible refine x_c ?_
        refine ⟨_, _, rfl, rfl, ?_⟩
        refine ⟨_, rfl, ?_⟩
        refine ifD (fun hc => ?_) (fun hc => ?_)
        · replace hm := itep hm hc
          with_reducible refine x_test ?_
          with_reducible refine x_op ?_
          with_reducible refine x_op ?_
          refine ⟨_, rfl, ?_⟩
          with_reducible refine x_c ?_
          obtain ⟨x3, hx3, hm⟩ := bindp hm
          obtain ⟨x4, hx4, hm⟩ := bindp hm
          obtain ⟨v3, d4, kq1⟩ := ixD (K := K) G4.sub (RD.mono ((g1.ex.trans g2.ex).trans ex1) f_figures) hx3 hx4
          refine kq1 _ ?_
          with_reducible refine x_c ?_
          have d5 : R (α := PyData) (F1) (.int 0) (PyData.int (0 : Int)) := (.int _)
          obtain ⟨c2, hm⟩ := guardp hm
          refine eqA_use (a := x4) (b := (PyData.int (0 : Int))) G4.sub (RD.mono (Sub.refl _) d4) (RD.mono (Sub.refl _) d5) c2 ?_
          refine ⟨_, rfl, ?_⟩
          refine ifD (fun hc => ?_) (fun hc => ?_)
          · replace hm := itep hm hc
            obtain rfl : Except.error _ = r := Option.some.inj hm
            exact qe _ rfl _ _ G4
          · replace hm := iten hm (bF hc)
            with_reducible refine x_next ?_
            with_reducible refine x_ret ?_
            with_reducible refine x_call ?_
            with_reducible refine x_cons ?_
            refine ⟨_, rfl, ?_⟩
            with_reducible refine x_cons ?_
            refine ⟨_, rfl, ?_⟩
            obtain ⟨x5, hx5, hm⟩ := bindp hm
            have d6 : R (F1) v_figures x5 := un_of (RD.mono ((g1.ex.trans g2.ex).trans ex1) f_figures) hx5
            obtain ⟨a1, us1, rfl, fa2, fr3⟩ := lst_of d6
            obtain ⟨r3, hr3, hm⟩ := bindp hm
            refine ⟨_, _, _, x1, x5, r3, rfl, G4.sub, (.int _), (mk_lst ((Sub.refl _) _ _ fa2) (Rs_mono (Sub.refl _) fr3)), hr3, fun N3 H3 v4 g4 d7  => ?_⟩
            have G5 := G4.step g4
            obtain rfl := int_of d7
            obtain rfl : Except.ok _ = r := Option.some.inj hm
            exact q _ rfl _ _ _ G5 (.int _)
        · replace hm := iten hm (bF hc)
          refine iteF ?_
          with_reducible refine x_next ?_
          with_reducible refine x_ret ?_
          with_reducible refine x_call ?_
          with_reducible refine x_cons ?_
          refine ⟨_, rfl, ?_⟩
          with_reducible refine x_cons ?_
          refine ⟨_, rfl, ?_⟩
          obtain ⟨x6, hx6, hm⟩ := bindp hm
          have d8 : R (F1) v_figures x6 := un_of (RD.mono ((g1.ex.trans g2.ex).trans ex1) f_figures) hx6
          obtain ⟨a2, us2, rfl, fa3, fr4⟩ := lst_of d8
          obtain ⟨r4, hr4, hm⟩ := bindp hm
          refine ⟨_, _, _, x1, x6, r4, rfl, G4.sub, (.int _), (mk_lst ((Sub.refl _) _ _ fa3) (Rs_mono (Sub.refl _) fr4)), hr4, fun N4 H4 v5 g5 d9  => ?_⟩
          have G6 := G4.step g5
          obtain rfl := int_of d9
          obtain rfl : Except.ok _ = r := Option.some.inj hm
          exact q _ rfl _ _ _ G6 (.int _)
  · subst e9; rw [exB_err] at hm
    have G7 := G0.step g1
    obtain rfl : Except.error _ = r := Option.some.inj hm
    exact qe _ rfl _ _ G7

abbrev N_read_figures : List Str := ["base", "word", "sign"]
theorem sc_read_figures : FnScope N_read_figures ["base", "word"] (defScope s_read_figures) := ⟨rfl, rfl, rfl, by decide +kernel, rfl, by decide +kernel, by decide +kernel⟩
def sp_read_figures : Sp := fun vs H Q E => ∃ (F : Hp) (v_base : V) (v_word : V) (base : Int) (word : Str) (r : (Except Er (List Int))), vs = [v_base, v_word] ∧ Sub F H ∧ R F v_base base ∧ R F v_word word ∧ read_figures base word = some r ∧ (∀ x9, r = .ok x9 → ∀ N H2 v, Gr NA F H N H2 → R N v x9 → Q v H2) ∧ ∀ e9, r = .error e9 → ∀ N H2, Gr NA F H N H2 → E (.ref (ErT.ad e9)) none H2
theorem ok_read_figures {P : Program} {w : World} {K : PySem.W.Frag} {mg : Str → Option Value} {base : Heap} (T : Txt K mg) : FnOk P w K mg base (L2.CX P w) 1 T.f_read_figures.f T.f_read_figures.fd ["base", "word"] sp_read_figures := by
  have nd := (sc_read_figures).nd
  refine T.f_read_figures.F.okX sc_read_figures (fun vs H Q E h => ?_) (fun cdv A0 outer s H vs Q E hr h => ?_)
  · obtain ⟨_, _, _, _, _, _, rfl, _⟩ := h
    rfl
  obtain ⟨F0, v_base, v_word, base, word, r, rfl, s0, f_base, f_word, hm, q, qe⟩ := h
  have G0 : Gr NA F0 H F0 H := Gr.refl s0
  obtain rfl := int_of f_base
  obtain rfl := str_of f_word
  refine ⟨_, (pss_cons (ps_if (PW.pt (pw_or (pt_cmpR op_eqS (pv 1) pe_str (nomark _)) (pw_or1 (pt_cmpR (op_neNil (hu64 hr)) (pe_lc (own := [("sign", 2)]) (g := (gName 2)) rfl nd (pi_str (pv 1)) (blkOk_by (own := [("sign", 2)]) (N := N_read_figures) (sc := defScope s_read_figures) (by decide +kernel)) (fun _ _ _ _ _ => pg_name (i := 2) nd rfl (Or.inl rfl)) (fun _ _ _ _ _ => pts_one (pt_cmpR op_notIn_sign (pv 2) (pe_slice (r := rSlS) sl_str (pe_glob (v := .str ("0123456789abcdef" : Str)) rfl T.c_SIGNS.g ⟨_, rfl⟩) po_none (po_some (pv 0))) (by rfl))) (fun _ _ _ _ _ => (pv 2))) (pe_lst pa_nil) (nomark _))))) (pss_one (ps_raiseE rfl (takes_of rfl rfl rfl rfl) (T.er.r .NoText) (by rfl))) pss_nil) (pss_one (ps_ret (pe_lc (own := [("sign", 2)]) (g := (gName 2)) rfl nd (pi_str (pv 1)) (blkOk_by (own := [("sign", 2)]) (N := N_read_figures) (sc := defScope s_read_figures) (by decide +kernel)) (fun _ _ _ _ _ => pg_name (i := 2) nd rfl (Or.inl rfl)) (fun _ _ _ _ _ => pts_nil) (fun _ _ _ _ _ => (pe_m1 PySem.F.slot_str_index PySem.F.type_str_index mt_sindex (pe_glob (v := .str ("0123456789abcdef" : Str)) rfl T.c_SIGNS.g ⟨_, rfl⟩) (pv 2))))))), ?_⟩
  refine x_start (σ' := ([some (.int base), some (.str word), none] : L2.St)) (by with_unfolding_all rfl) ?_
  rw [read_figures] at hm
  with_reducible refine x_seq ?_
  with_reducible refine x_if ?_
  with_reducible refine x_or ?_
  with_reducible refine x_test ?_
  with_reducible refine x_op ?_
  refine ⟨_, rfl, ?_⟩
  with_reducible refine x_c ?_
  refine eqS_use ?_
  refine ⟨_, rfl, ?_⟩
  refine ifD (fun hc => ?_) (fun hc => ?_)
  · replace hm := itep hm hc
    refine iteT ?_
    obtain rfl : Except.error _ = r := Option.some.inj hm
    exact qe _ rfl _ _ G0
  · replace hm := iten hm (bF hc)
    with_reducible refine x_test ?_
    with_reducible refine x_op ?_
    with_reducible refine x_lc ?_
    with_reducible refine x_iterS ?_
    refine ⟨_, rfl, ?_⟩
    refine ⟨_, rfl, fun p1 np1 => ?_⟩
    have g1 := Gr.newO (o := .lst []) G0.sub np1
    have o1 := Ow.new (us := []) G0 np1
    have G1 := G0.step g1
    refine lc_str (z := word) (fun (ts1 : List Nat) H1 => ∃ (F1 : Hp) (x2 : List Str) (us2 : List V), forK (read_figures_c1 base) ts1 x2 (read_figures_k2 word) = some r ∧ Sub (F0) F1 ∧ Gr NA F0 H F1 H1 ∧ Ow H F1 H1 p1 us2 ∧ Rs F1 us2 x2) ⟨F0, ([] : List Str), _, hm, (Sub.refl _), G1, o1, Rs_nil⟩ (fun t1 ts2 H1 hW => ?_) (fun H1 hW => ?_)
    · skip
      obtain ⟨F1, x2, us2, hm, s1, G2, o2, fr1⟩ := hW
      obtain ⟨next1, hnx1⟩ : ∃ nx, nx = fun s => forK (read_figures_c1 base) ts2 s (read_figures_k2 word) := ⟨_, rfl⟩
      have hm : (read_figures_c1 base) x2 t1 next1 = some r := by rw [hnx1]; exact forK_c hm
      rw [read_figures_c1] at hm
      with_reducible refine x_gnE (σ' := ([some (.int base), some (.str word), some (.str ⟨#[t1]⟩)] : L2.St)) (by with_unfolding_all rfl) ?_
      refine ⟨rfl, ?_⟩
      with_reducible refine x_test ?_
      with_reducible refine x_op ?_
      refine ⟨_, rfl, ?_⟩
      with_reducible refine x_sl ?_
      with_reducible refine x_c ?_
      with_reducible refine x_nopart ?_
      with_reducible refine x_part ?_
      refine ⟨_, rfl, ?_⟩
      refine ⟨_, rfl, ?_⟩
      obtain ⟨c1, hm⟩ := guardp hm
      refine ⟨_, rfl, szle c1, ?_⟩
      refine ⟨_, _, rfl, rfl, ?_⟩
      refine ⟨_, rfl, ?_⟩
      refine ifD (fun hc => ?_) (fun hc => ?_)
      · replace hm := itep hm hc
        refine ⟨_, rfl, ?_⟩
        obtain ⟨c2, hm⟩ := guardp hm
        have G3 := o2.mutG (o := .lst (us2 ++ [(.str ⟨#[t1]⟩)])) G2
        have o3 := o2.mut (ws := us2 ++ [(.str ⟨#[t1]⟩)])
        have fr2 : Rs (α := Str) (F1) (us2 ++ [(.str ⟨#[t1]⟩)]) (x2 ++ [(⟨#[t1]⟩ : Str)]) := Rs_snoc fr1 (.str _)
        rw [hnx1] at hm
        exact ⟨_, o2.at_, szl (by rw [Rs_len fr1]; exact c2), ⟨F1, (x2 ++ [(⟨#[t1]⟩ : Str)]), _, hm, s1, G3, o3, fr2⟩⟩
      · replace hm := iten hm (bF hc)
        rw [hnx1] at hm
        exact ⟨F1, x2, _, hm, s1, G2, o2, fr1⟩
    · skip
      obtain ⟨F1, x2, us2, hm, s2, G4, o4, fr3⟩ := hW
      have hm : (read_figures_k2 word) x2 = some r := forK_n hm
      rw [read_figures_k2] at hm
      with_reducible refine x_lst ?_
      refine ⟨szle (show 0 ≤ 16777216 from by decide), fun p2 np2 => ?_⟩
      have fr4 : Rs (α := Str) (F1) [] ([] : (List Str)) := Rs_nil
      have g2 := Gr.newO (o := .lst []) G4.sub np2
      have o5 := Ow.new (us := []) G4 np2
      have ne1 := o4.ne_new np2
      have G5 := G4.step g2
      have o6 := o4.step g2
      refine neNil_use (.inl (.inl o6.at_)) (.inl (.inl o5.at_)) (emp_len (Rs_len fr3)) ?_
      refine ⟨_, rfl, ?_⟩
      refine ifD (fun hc => ?_) (fun hc => ?_)
      · replace hm := itep hm hc
        obtain rfl : Except.error _ = r := Option.some.inj hm
        exact qe _ rfl _ _ G5
      · replace hm := iten hm (bF hc)
        with_reducible refine x_next ?_
        with_reducible refine x_ret ?_
        with_reducible refine x_lc ?_
        with_reducible refine x_iterS ?_
        refine ⟨_, rfl, ?_⟩
        refine ⟨_, rfl, fun p3 np3 => ?_⟩
        have g3 := Gr.newO (o := .lst []) G5.sub np3
        have o7 := Ow.new (us := []) G5 np3
        have G6 := G5.step g3
        refine lc_str (z := word) (fun (ts3 : List Nat) H2 => ∃ (F2 : Hp) (x4 : List Int) (us4 : List V), forK (read_figures_c3) ts3 x4 (read_figures_k4) = some r ∧ Sub (F1) F2 ∧ Gr NA F0 H F2 H2 ∧ Ow H F2 H2 p3 us4 ∧ Rs F2 us4 x4) ⟨F1, ([] : List Int), _, hm, (Sub.refl _), G6, o7, Rs_nil⟩ (fun t2 ts4 H1 hW => ?_) (fun H1 hW => ?_)
        · skip
          obtain ⟨F2, x4, us4, hm, s3, G7, o8, fr5⟩ := hW
          obtain ⟨next2, hnx2⟩ : ∃ nx, nx = fun s => forK (read_figures_c3) ts4 s (read_figures_k4) := ⟨_, rfl⟩
          have hm : (read_figures_c3) x4 t2 next2 = some r := by rw [hnx2]; exact forK_c hm
          rw [read_figures_c3] at hm
          with_reducible refine x_gnE (σ' := ([some (.int base), some (.str word), some (.str ⟨#[t2]⟩)] : L2.St)) (by with_unfolding_all rfl) ?_
          refine ⟨rfl, ?_⟩
          with_reducible refine x_yes ?_
          refine iteT ?_
          with_reducible refine x_m1 ?_
          with_reducible refine x_c ?_
          refine ⟨⟨_, rfl⟩, ?_⟩
          refine ⟨_, rfl, ?_⟩
          obtain ⟨x5, hx1, hm⟩ := bindp hm
          obtain ⟨rs1, ho1⟩ := sidx_ex hx1
          refine ⟨_, _, _, rs1, rfl, rfl, ho1, ?_⟩
          obtain ⟨c3, hm⟩ := guardp hm
          have G8 := o8.mutG (o := .lst (us4 ++ [(.int (x5 : Int))])) G7
          have o9 := o8.mut (ws := us4 ++ [(.int (x5 : Int))])
          have fr6 : Rs (α := Int) (F2) (us4 ++ [(.int (x5 : Int))]) (x4 ++ [(x5 : Int)]) := Rs_snoc fr5 (.int _)
          rw [hnx2] at hm
          exact ⟨_, o8.at_, szl (by rw [Rs_len fr5]; exact c3), ⟨F2, (x4 ++ [(x5 : Int)]), _, hm, s3, G8, o9, fr6⟩⟩
        · skip
          obtain ⟨F2, x4, us4, hm, s4, G9, o10, fr7⟩ := hW
          have hm : (read_figures_k4) x4 = some r := forK_n hm
          rw [read_figures_k4] at hm
          obtain ⟨F3, G10, ex1, fa1, nf1⟩ := o10.frzE G9
          have fr8 := Rs_mono ex1 fr7
          obtain rfl : Except.ok _ = r := Option.some.inj hm
          exact q _ rfl _ _ _ G10 (mk_lst ((Sub.refl _) _ _ fa1) (Rs_mono (Sub.refl _) fr8))

abbrev N_read_number : List Str := ["base", "text", "figures"]
theorem sc_read_number : FnScope N_read_number ["base", "text"] (defScope s_read_number) := ⟨rfl, rfl, rfl, by decide +kernel, rfl, by decide +kernel, by decide +kernel⟩
def sp_read_number : Sp := fun vs H Q E => ∃ (F : Hp) (v_base : V) (v_text : V) (base : PyData) (text : PyData) (r : (Except Er Int)), vs = [v_base, v_text] ∧ Sub F H ∧ R F v_base base ∧ R F v_text text ∧ read_number base text = some r ∧ (∀ x9, r = .ok x9 → ∀ N H2 v, Gr NA F H N H2 → R N v x9 → Q v H2) ∧ ∀ e9, r = .error e9 → ∀ N H2, Gr NA F H N H2 → E (.ref (ErT.ad e9)) none H2
theorem ok_read_number {P : Program} {w : World} {K : PySem.W.Frag} {mg : Str → Option Value} {base : Heap} (T : Txt K mg) : FnOk P w K mg base (L2.CX P w) 5 T.f_read_number.f T.f_read_number.fd ["base", "text"] sp_read_number := by
  have nd := (sc_read_number).nd
  refine T.f_read_number.F.okX sc_read_number (fun vs H Q E h => ?_) (fun cdv A0 outer s H vs Q E hr h => ?_)
  · obtain ⟨_, _, _, _, _, _, rfl, _⟩ := h
    rfl
  obtain ⟨F0, v_base, v_text, base, text, r, rfl, s0, f_base, f_text, hm, q, qe⟩ := h
  have G0 : Gr NA F0 H F0 H := Gr.refl s0
  refine ⟨_, (pss_cons (ps_if (pt_not (pt_val (pe_call (ok_is_base T) (hr.mono (by decide)) (by rfl) T.f_is_base.g T.f_is_base.F.kp T.f_is_base.b .nil pass0 (pa_cons (pv 0) pa_nil)))) (pss_one (ps_raiseE rfl (takes_of rfl rfl rfl rfl) (T.er.r .NoBase) (by rfl))) pss_nil) (pss_cons (ps_if (pt_not (pt_val (pe_callB (r := rIsi K) call_isi (by rfl) T.z_isinstance (by decide +kernel) (pa_cons (pv 1) (pa_cons (pe_bltn (v := .ty "str") (by rfl) T.z_str (by decide +kernel) rfl) pa_nil))))) (pss_one (ps_raiseE rfl (takes_of rfl rfl rfl rfl) (T.er.r .NoText) (by rfl))) pss_nil) (pss_cons (ps_set (i := 2) nd rfl (by first | exact Or.inl rfl | exact Or.inr rfl) (pe_callS (ok_read_figures T) (hr.mono (by decide)) (by rfl) T.f_read_figures.g T.f_read_figures.F.kp T.f_read_figures.b (fun σ => passAt (takes_of rfl rfl rfl rfl) σ) (pa_cons (pv 0) (pa_cons (pv 1) pa_nil)))) (pss_cons (ps_if (PW.pt (pw_and (pt_cmp (pc_gt (pe_callB (r := rLenT K) call_lenT (by rfl) T.z_len PySem.boot_len (pa_cons (pv 2) pa_nil)) pe_int)) (pw_and1 (pt_cmp (pc_eqI (pe_ix (r := rIxL K) ix_list (pv 2) pe_int (fun _ _ => rfl)) pe_int))))) (pss_one (ps_raiseE rfl (takes_of rfl rfl rfl rfl) (T.er.r .NoText) (by rfl))) pss_nil) (pss_one (ps_ret (pe_callS (ok_number_by T) (hr.mono (by decide)) (by rfl) T.f_number_by.g T.f_number_by.F.kp T.f_number_by.b (fun σ => passAt (takes_of rfl rfl rfl rfl) σ) (pa_cons (pv 0) (pa_cons (pv 2) pa_nil))))))))), ?_⟩
  refine x_start (σ' := ([some v_base, some v_text, none] : L2.St)) (by with_unfolding_all rfl) ?_
  rw [read_number] at hm
  with_reducible refine x_seq ?_
  with_reducible refine x_if ?_
  with_reducible refine x_not ?_
  with_reducible refine x_B ?_
  with_reducible refine x_call ?_
  with_reducible refine x_cons ?_
  refine ⟨_, rfl, ?_⟩
  obtain ⟨r1, hr1, hm⟩ := bindp hm
  refine ⟨_, _, base, r1, rfl, G0.sub, (RD.mono (Sub.refl _) f_base), hr1, fun N1 H1 v1 g1 d1  => ?_⟩
  have G1 := G0.step g1
  obtain rfl := bl_of d1
  refine ⟨_, rfl, ?_⟩
  refine ifD (fun hc => ?_) (fun hc => ?_)
  · replace hm := itep hm hc
    obtain rfl : Except.error _ = r := Option.some.inj hm
    exact qe _ rfl _ _ G1
  · replace hm := iten hm (bF hc)
    with_reducible refine x_next ?_
    with_reducible refine x_seq ?_
    with_reducible refine x_if ?_
    with_reducible refine x_not ?_
    with_reducible refine x_B ?_
    with_reducible refine x_cb ?_
    with_reducible refine x_cons ?_
    refine ⟨_, rfl, ?_⟩
    with_reducible refine x_cons ?_
    with_reducible refine x_c ?_
    with_reducible refine x_nil ?_
    refine isi_str (K := K) G1.sub (RD.mono g1.ex f_text) _ ?_
    refine ⟨_, rfl, ?_⟩
    refine ifD (fun hc => ?_) (fun hc => ?_)
    · replace hm := itep hm hc
      obtain rfl : Except.error _ = r := Option.some.inj hm
      exact qe _ rfl _ _ G1
    · replace hm := iten hm (bF hc)
      with_reducible refine x_next ?_
      with_reducible refine x_seq ?_
      with_reducible refine x_asg ?_
      with_reducible refine x_callS ?_
      with_reducible refine x_cons ?_
      refine ⟨_, rfl, ?_⟩
      with_reducible refine x_cons ?_
      refine ⟨_, rfl, ?_⟩
      obtain ⟨x1, hx1, hm⟩ := bindp hm
      obtain rfl := asInt_of (RD.mono g1.ex f_base) hx1
      obtain ⟨x2, hx2, hm⟩ := bindp hm
      obtain rfl := asStr_of (RD.mono g1.ex f_text) hx2
      obtain ⟨r2, hr2, hm⟩ := bindp hm
      refine ⟨_, _, _, x1, x2, r2, rfl, G1.sub, (.int _), (.str _), hr2, fun y1 e9 N2 H2 v2 g2 d2 => ?_, fun er1 e9 N2 H2 g2 => ?_⟩
      · subst e9; rw [exB_ok] at hm
        have G2 := G1.step g2
        obtain ⟨a1, us1, rfl, fa1, fr1⟩ := lst_of d2
        with_reducible refine x_gnE (σ' := ([some (.int x1), some (.str x2), some (.ref a1)] : L2.St)) (by with_unfolding_all rfl) ?_
        with_reducible refine x_seq ?_
        with_reducible refine x_if ?_
        with_reducible refine x_and ?_
        with_reducible refine x_B ?_
        refine useEv (.bl (decide ((1 : Int) < (y1.length : Int)))) (by exact (ev_cmp (ev_lenT (Evl.ev_var rfl) (G2.sub _ _ fa1) (Rs_mono (Sub.refl _) fr1)) Evl.ev_c)) (fun H3 e1 => ?_)
        have g3 := gr_ex G2.sub e1
        have G3 := G2.step g3
        refine ⟨_, rfl, ?_⟩
        refine ifD (fun hc => ?_) (fun hc => ?_)
        · replace hm := itep hm hc
          with_reducible refine x_B ?_
          with_reducible refine x_cmp ?_
          with_reducible refine x_op ?_
          refine ⟨_, rfl, ?_⟩
          with_reducible refine x_c ?_
          obtain ⟨x3, hx3, hm⟩ := bindp hm
          obtain ⟨v3, hu1, d3⟩ := Rs_at (Rs_mono (Sub.refl _) fr1) hx3
          refine ⟨_, _, _, _, rfl, rfl, .inl (.inl (G3.sub _ _ fa1)), hu1, ?_⟩
          obtain rfl := int_of d3
          with_reducible refine x_c ?_
          refine ⟨_, _, rfl, rfl, ?_⟩
          refine ⟨_, rfl, ?_⟩
          refine ifD (fun hc => ?_) (fun hc => ?_)
          · replace hm := itep hm hc
            obtain rfl : Except.error _ = r := Option.some.inj hm
            exact qe _ rfl _ _ G3
          · replace hm := iten hm (bF hc)
            with_reducible refine x_next ?_
            with_reducible refine x_ret ?_
            with_reducible refine x_callS ?_
            with_reducible refine x_cons ?_
            refine ⟨_, rfl, ?_⟩
            with_reducible refine x_cons ?_
            refine ⟨_, rfl, ?_⟩
            have d4 : R (α := PyData) (N2) (.ref a1) (PyData.list (y1.map fun z => (PyData.int z))) := (mk_lst ((Sub.refl _) _ _ fa1) (Rs_mono (Sub.refl _) fr1))
            obtain ⟨r3, hr3, hm⟩ := bindp hm
            refine ⟨_, _, _, base, (PyData.list (y1.map fun z => (PyData.int z))), r3, rfl, G3.sub, (RD.mono (g1.ex.trans g2.ex) f_base), (RD.mono (Sub.refl _) d4), hr3, fun y2 e9 N3 H4 v4 g4 d5 => ?_, fun er2 e9 N3 H4 g4 => ?_⟩
            · subst e9; rw [exB_ok] at hm
              have G4 := G3.step g4
              obtain rfl := int_of d5
              obtain rfl : Except.ok _ = r := Option.some.inj hm
              exact q _ rfl _ _ _ G4 (.int _)
            · subst e9; rw [exB_err] at hm
              have G5 := G3.step g4
              obtain rfl : Except.error _ = r := Option.some.inj hm
              exact qe _ rfl _ _ G5
        · replace hm := iten hm (bF hc)
          refine iteF ?_
          with_reducible refine x_next ?_
          with_reducible refine x_ret ?_
          with_reducible refine x_callS ?_
          with_reducible refine x_cons ?_
          refine ⟨_, rfl, ?_⟩
          with_reducible refine x_cons ?_
          refine ⟨_, rfl, ?_⟩
          have d6 : R (α := PyData) (N2) (.ref a1) (PyData.list (y1.map fun z => (PyData.int z))) := (mk_lst ((Sub.refl _) _ _ fa1) (Rs_mono (Sub.refl _) fr1))
          obtain ⟨r4, hr4, hm⟩ := bindp hm
          refine ⟨_, _, _, base, (PyData.list (y1.map fun z => (PyData.int z))), r4, rfl, G3.sub, (RD.mono (g1.ex.trans g2.ex) f_base), (RD.mono (Sub.refl _) d6), hr4, fun y3 e9 N4 H5 v5 g5 d7 => ?_, fun er3 e9 N4 H5 g5 => ?_⟩
          · subst e9; rw [exB_ok] at hm
            have G6 := G3.step g5
            obtain rfl := int_of d7
            obtain rfl : Except.ok _ = r := Option.some.inj hm
            exact q _ rfl _ _ _ G6 (.int _)
          · subst e9; rw [exB_err] at hm
            have G7 := G3.step g5
            obtain rfl : Except.error _ = r := Option.some.inj hm
            exact qe _ rfl _ _ G7
      · subst e9; rw [exB_err] at hm
        have G8 := G1.step g2
        obtain rfl : Except.error _ = r := Option.some.inj hm
        exact qe _ rfl _ _ G8

abbrev N_is_stretch : List Str := ["base", "thing"]
theorem sc_is_stretch : FnScope N_is_stretch ["base", "thing"] (defScope s_is_stretch) := ⟨rfl, rfl, rfl, by decide +kernel, rfl, by decide +kernel, by decide +kernel⟩
def sp_is_stretch : Sp := fun vs H Q _ => ∃ (F : Hp) (v_base : V) (v_thing : V) (base : Int) (thing : PyData) (r : Bool), vs = [v_base, v_thing] ∧ Sub F H ∧ R F v_base base ∧ R F v_thing thing ∧ is_stretch base thing = some r ∧ ∀ N H2 v, Gr NA F H N H2 → R N v r → Q v H2
theorem ok_is_stretch {P : Program} {w : World} {K : PySem.W.Frag} {mg : Str → Option Value} {base : Heap} (T : Txt K mg) : FnOk P w K mg base CX0 4 T.f_is_stretch.f T.f_is_stretch.fd ["base", "thing"] sp_is_stretch := by
  have nd := (sc_is_stretch).nd
  refine T.f_is_stretch.F.ok sc_is_stretch (fun vs H Q E h => ?_) (fun cdv A0 outer s H vs Q E hr h => ?_)
  · obtain ⟨_, _, _, _, _, _, rfl, _⟩ := h
    rfl
  obtain ⟨F0, v_base, v_thing, base, thing, r, rfl, s0, f_base, f_thing, hm, q⟩ := h
  have G0 : Gr NA F0 H F0 H := Gr.refl s0
  obtain rfl := int_of f_base
  refine ⟨_, (pss_one (ps_ret (pe_and (pe_call (ok_are_figures T) (hr.mono (by decide)) (by rfl) T.f_are_figures.g T.f_are_figures.F.kp T.f_are_figures.b .nil pass0 (pa_cons (pv 0) (pa_cons (pv 1) pa_nil))) (pe_one (pe_chain op_le op_le pe_int (pe_callB (r := rLenT K) call_lenT (by rfl) T.z_len PySem.boot_len (pa_cons (pv 1) pa_nil)) (pe_glob (v := .int 4) rfl T.c_MOST_FIGURES.g ⟨_, rfl⟩)))))), ?_⟩
  refine x_start (σ' := ([some (.int base), some v_thing] : L2.St)) (by with_unfolding_all rfl) ?_
  rw [is_stretch] at hm
  with_reducible refine x_ret ?_
  with_reducible refine x_andV ?_
  with_reducible refine x_call ?_
  with_reducible refine x_cons ?_
  refine ⟨_, rfl, ?_⟩
  with_reducible refine x_cons ?_
  refine ⟨_, rfl, ?_⟩
  obtain ⟨r1, hr1, hm⟩ := bindp hm
  refine ⟨_, _, _, base, thing, r1, rfl, G0.sub, (.int _), (RD.mono (Sub.refl _) f_thing), hr1, fun N1 H1 v1 g1 d1  => ?_⟩
  have G1 := G0.step g1
  obtain rfl := bl_of d1
  refine ⟨_, rfl, ?_⟩
  refine ifD (fun hc => ?_) (fun hc => ?_)
  · replace hm := itep hm hc
    with_reducible refine x_chain ?_
    with_reducible refine x_c ?_
    with_reducible refine x_cb ?_
    with_reducible refine x_cons ?_
    refine ⟨_, rfl, ?_⟩
    obtain ⟨x1, hx1, hm⟩ := bindp hm
    with_reducible refine x_nil ?_
    refine lenD (K := K) G1.sub (RD.mono g1.ex f_thing) hx1 _ ?_
    refine ⟨_, _, rfl, rfl, _, rfl, ?_⟩
    refine ifD (fun hc => ?_) (fun hc => ?_)
    · replace hm := itep hm hc
      with_reducible refine x_c ?_
      refine ⟨_, _, rfl, rfl, ?_⟩
      obtain rfl : _ = r := Option.some.inj hm
      exact q _ _ _ G1 (.bl _)
    · replace hm := iten hm (bF hc)
      obtain rfl : _ = r := Option.some.inj hm
      exact q _ _ _ G1 (.bl _)
  · replace hm := iten hm (bF hc)
    obtain rfl : _ = r := Option.some.inj hm
    exact q _ _ _ G1 (.bl _)

abbrev N_is_rule : List Str := ["thing", "base", "bad", "one", "k"]
theorem sc_is_rule : FnScope N_is_rule ["thing"] (defScope s_is_rule) := ⟨rfl, rfl, rfl, by decide +kernel, rfl, by decide +kernel, by decide +kernel⟩
def sp_is_rule : Sp := fun vs H Q _ => ∃ (F : Hp) (v_thing : V) (thing : PyData) (r : Bool), vs = [v_thing] ∧ Sub F H ∧ R F v_thing thing ∧ is_rule thing = some r ∧ ∀ N H2 v, Gr NA F H N H2 → R N v r → Q v H2
theorem ok_is_rule {P : Program} {w : World} {K : PySem.W.Frag} {mg : Str → Option Value} {base : Heap} (T : Txt K mg) : FnOk P w K mg base CX0 5 T.f_is_rule.f T.f_is_rule.fd ["thing"] sp_is_rule := by
  have nd := (sc_is_rule).nd
  refine T.f_is_rule.F.ok sc_is_rule (fun vs H Q E h => ?_) (fun cdv A0 outer s H vs Q E hr h => ?_)
  · obtain ⟨_, _, _, _, rfl, _⟩ := h
    rfl
  obtain ⟨F0, v_thing, thing, r, rfl, s0, f_thing, hm, q⟩ := h
  have G0 : Gr NA F0 H F0 H := Gr.refl s0
  refine ⟨_, (pss_cons (ps_if (PW.pt (pw_or (pt_not (pt_val (pe_callB (r := rIsi K) call_isi (by rfl) T.z_isinstance (by decide +kernel) (pa_cons (pv 0) (pa_cons (pe_bltn (v := .ty "tuple") (by rfl) T.z_tuple (by decide +kernel) rfl) pa_nil))))) (pw_or (pt_cmp (pc_neI (pe_callB (r := rLenT K) call_lenT (by rfl) T.z_len PySem.boot_len (pa_cons (pv 0) pa_nil)) pe_int)) (pw_or1 (pt_not (pt_val (pe_call (ok_is_base T) (hr.mono (by decide)) (by rfl) T.f_is_base.g T.f_is_base.F.kp T.f_is_base.b .nil pass0 (pa_cons (pe_ix (r := rIx K) ix_seq (pv 0) pe_int (fun _ _ => rfl)) pa_nil)))))))) (pss_one (ps_ret pe_bl)) pss_nil) (pss_cons (ps_asg (pv 0) (pg_tup rfl (pgs_cons (pg_name (i := 1) nd rfl (by first | exact Or.inl rfl | exact Or.inr rfl)) (pgs_cons (pg_name (i := 2) nd rfl (by first | exact Or.inl rfl | exact Or.inr rfl)) pgs_nil)))) (pss_cons (ps_if (PW.pt (pw_or (pt_not (pt_val (pe_callB (r := rIsi K) call_isi (by rfl) T.z_isinstance (by decide +kernel) (pa_cons (pv 2) (pa_cons (pe_bltn (v := .ty "list") (by rfl) T.z_list (by decide +kernel) rfl) pa_nil))))) (pw_or1 (pt_cmp (pc_gt (pe_callB (r := rLenT K) call_lenT (by rfl) T.z_len PySem.boot_len (pa_cons (pv 2) pa_nil)) (pe_glob (v := .int 4) rfl T.c_MOST_STRETCHES.g ⟨_, rfl⟩)))))) (pss_one (ps_ret pe_bl)) pss_nil) (pss_cons (ps_if (pt_cmpR (op_neNil (hu64 hr)) (pe_lc (own := [("one", 3)]) (g := (gName 3)) rfl nd (pi_list (pv 2)) (blkOk_by (own := [("one", 3)]) (N := N_is_rule) (sc := defScope s_is_rule) (by decide +kernel)) (fun _ _ _ _ _ => pg_name (i := 3) nd rfl (Or.inl rfl)) (fun _ _ _ _ _ => pts_one (pt_not (pt_val (pe_call (ok_is_stretch T) (hr.mono (by decide)) (by rfl) T.f_is_stretch.g T.f_is_stretch.F.kp T.f_is_stretch.b .nil pass0 (pa_cons (pv 1) (pa_cons (pv 3) pa_nil)))))) (fun _ _ _ _ _ => (pv 3))) (pe_lst pa_nil) (nomark _)) (pss_one (ps_ret pe_bl)) pss_nil) (pss_one (ps_ret (pe_cmpR (op_eqT (α := (List Int)) (by decide) (hu64 hr)) (pe_lc (own := [("k", 4)]) (g := (gName 4)) rfl nd (pi_range2 (by rfl) T.z_range (pa_cons pe_int (pa_cons (pe_callB (r := rLenT K) call_lenT (by rfl) T.z_len PySem.boot_len (pa_cons (pv 2) pa_nil)) pa_nil))) (blkOk_by (own := [("k", 4)]) (N := N_is_rule) (sc := defScope s_is_rule) (by decide +kernel)) (fun _ _ _ _ _ => pg_name (i := 4) nd rfl (Or.inl rfl)) (fun _ _ _ _ _ => pts_one (pt_cmpR (op_geA (hu64 hr)) (pe_ix (r := rIx K) ix_seq (pv 2) (pe_op op_sub (pv 4) pe_int) (fun _ _ => rfl)) (pe_ix (r := rIx K) ix_seq (pv 2) (pv 4) (fun _ _ => rfl)) (nomark _))) (fun _ _ _ _ _ => (pv 4))) (pe_lst pa_nil) (nomark _)))))))), ?_⟩
  refine x_start (σ' := ([some v_thing, none, none, none, none] : L2.St)) (by with_unfolding_all rfl) ?_
  rw [is_rule] at hm
  with_reducible refine x_seq ?_
  with_reducible refine x_if ?_
  with_reducible refine x_or ?_
  with_reducible refine x_not ?_
  with_reducible refine x_B ?_
  with_reducible refine x_cb ?_
  with_reducible refine x_cons ?_
  refine ⟨_, rfl, ?_⟩
  with_reducible refine x_cons ?_
  with_reducible refine x_c ?_
  with_reducible refine x_nil ?_
  refine isi_tuple (K := K) G0.sub (RD.mono (Sub.refl _) f_thing) _ ?_
  refine ⟨_, rfl, ?_⟩
  refine ifD (fun hc => ?_) (fun hc => ?_)
  · replace hm := itep hm hc
    refine iteT ?_
    with_reducible refine x_ret ?_
    with_reducible refine x_c ?_
    obtain rfl : _ = r := Option.some.inj hm
    exact q _ _ _ G0 (.bl _)
  · replace hm := iten hm (bF hc)
    with_reducible refine x_or ?_
    with_reducible refine x_B ?_
    with_reducible refine x_cmp ?_
    with_reducible refine x_cb ?_
    with_reducible refine x_cons ?_
    refine ⟨_, rfl, ?_⟩
    obtain ⟨x1, hx1, hm⟩ := bindp hm
    with_reducible refine x_nil ?_
    refine lenD (K := K) G0.sub (RD.mono (Sub.refl _) f_thing) hx1 _ ?_
    with_reducible refine x_c ?_
    refine ⟨_, _, rfl, rfl, ?_⟩
    refine ⟨_, rfl, ?_⟩
    refine ifD (fun hc => ?_) (fun hc => ?_)
    · replace hm := itep hm hc
      refine iteT ?_
      with_reducible refine x_ret ?_
      with_reducible refine x_c ?_
      obtain rfl : _ = r := Option.some.inj hm
      exact q _ _ _ G0 (.bl _)
    · replace hm := iten hm (bF hc)
      with_reducible refine x_not ?_
      with_reducible refine x_B ?_
      with_reducible refine x_call ?_
      with_reducible refine x_cons ?_
      with_reducible refine x_op ?_
      refine ⟨_, rfl, ?_⟩
      with_reducible refine x_c ?_
      obtain ⟨x2, hx2, hm⟩ := bindp hm
      obtain ⟨x3, hx3, hm⟩ := bindp hm
      obtain ⟨v1, d1, kq1⟩ := ixD (K := K) G0.sub (RD.mono (Sub.refl _) f_thing) hx2 hx3
      refine kq1 _ ?_
      obtain ⟨r1, hr1, hm⟩ := bindp hm
      refine ⟨_, _, x3, r1, rfl, G0.sub, (RD.mono (Sub.refl _) d1), hr1, fun N1 H1 v2 g1 d2  => ?_⟩
      have G1 := G0.step g1
      obtain rfl := bl_of d2
      refine ⟨_, rfl, ?_⟩
      refine ifD (fun hc => ?_) (fun hc => ?_)
      · replace hm := itep hm hc
        with_reducible refine x_ret ?_
        with_reducible refine x_c ?_
        obtain rfl : _ = r := Option.some.inj hm
        exact q _ _ _ G1 (.bl _)
      · replace hm := iten hm (bF hc)
        with_reducible refine x_next ?_
        with_reducible refine x_seq ?_
        with_reducible refine x_asg ?_
        refine ⟨_, rfl, ?_⟩
        obtain ⟨x4, hx4, hm⟩ := bindp hm
        have d3 : R (N1) v_thing x4 := asPair_of (RD.mono g1.ex f_thing) hx4
        obtain ⟨a1, v3, v4, rfl, fa1, d4, d5⟩ := tup2_of d3
        refine ⟨_, _, rfl, .inl (.inl (G1.sub _ _ fa1)), rfl, ?_⟩
        refine ⟨_, _, rfl, ?_⟩
        with_reducible refine x_gnE (σ' := ([some (.ref a1), some v3, none, none, none] : L2.St)) (by with_unfolding_all rfl) ?_
        refine ⟨_, _, rfl, ?_⟩
        with_reducible refine x_gnE (σ' := ([some (.ref a1), some v3, some v4, none, none] : L2.St)) (by with_unfolding_all rfl) ?_
        refine ⟨rfl, ?_⟩
        with_reducible refine x_seq ?_
        with_reducible refine x_if ?_
        with_reducible refine x_or ?_
        with_reducible refine x_not ?_
        with_reducible refine x_B ?_
        with_reducible refine x_cb ?_
        with_reducible refine x_cons ?_
        refine ⟨_, rfl, ?_⟩
        with_reducible refine x_cons ?_
        with_reducible refine x_c ?_
        with_reducible refine x_nil ?_
        refine isi_list (K := K) G1.sub (RD.mono (Sub.refl _) d5) _ ?_
        refine ⟨_, rfl, ?_⟩
        refine ifD (fun hc => ?_) (fun hc => ?_)
        · replace hm := itep hm hc
          refine iteT ?_
          with_reducible refine x_ret ?_
          with_reducible refine x_c ?_
          obtain rfl : _ = r := Option.some.inj hm
          exact q _ _ _ G1 (.bl _)
        · replace hm := iten hm (bF hc)
          with_reducible refine x_B ?_
          with_reducible refine x_cmp ?_
          with_reducible refine x_cb ?_
          with_reducible refine x_cons ?_
          refine ⟨_, rfl, ?_⟩
          obtain ⟨x5, hx5, hm⟩ := bindp hm
          with_reducible refine x_nil ?_
          refine lenD (K := K) G1.sub (RD.mono (Sub.refl _) d5) hx5 _ ?_
          with_reducible refine x_c ?_
          refine ⟨_, _, rfl, rfl, ?_⟩
          refine ⟨_, rfl, ?_⟩
          refine ifD (fun hc => ?_) (fun hc => ?_)
          · replace hm := itep hm hc
            with_reducible refine x_ret ?_
            with_reducible refine x_c ?_
            obtain rfl : _ = r := Option.some.inj hm
            exact q _ _ _ G1 (.bl _)
          · replace hm := iten hm (bF hc)
            with_reducible refine x_next ?_
            with_reducible refine x_seq ?_
            with_reducible refine x_if ?_
            with_reducible refine x_test ?_
            with_reducible refine x_op ?_
            with_reducible refine x_lc ?_
            with_reducible refine x_iter ?_
            refine ⟨_, rfl, ?_⟩
            obtain ⟨x6, hx6, hm⟩ := bindp hm
            have d6 : R (N1) v4 x6 := asLst_of (RD.mono (Sub.refl _) d5) hx6
            obtain ⟨a2, us1, rfl, fa2, fr1⟩ := lst_of d6
            refine ⟨_, rfl, ⟨_, .inl (.inl (G1.sub _ _ fa2))⟩, fun p1 np1 => ?_⟩
            have g2 := Gr.newO (o := .lst []) G1.sub np1
            have o1 := Ow.new (us := []) G1 np1
            have G2 := G1.step g2
            refine lc_lst (α := PyData) (fun (ts1 : List PyData) H2 => ∃ (F1 : Hp) (x8 : List PyData) (us3 : List V), forK (is_rule_c1 x4) ts1 x8 (is_rule_k2 x6 x4) = some r ∧ Sub (N1) F1 ∧ Gr NA F0 H F1 H2 ∧ Ow H F1 H2 p1 us3 ∧ Rs F1 us3 x8) (Rs_mono (Sub.refl _) fr1) ⟨N1, ([] : List PyData), _, hm, (Sub.refl _), G2, o1, Rs_nil⟩ (fun _ _ h => ?_) (fun t1 ts2 v5 H1 hv1 hW => ?_) (fun H1 hW => ?_)
            · obtain ⟨F9z, _, _, _, s9z, G9z, _⟩ := h
              exact G9z.sub _ _ (s9z _ _ ((Sub.refl _) _ _ fa2))
            · skip
              obtain ⟨F1, x8, us3, hm, s1, G3, o2, fr2⟩ := hW
              obtain ⟨next1, hnx1⟩ : ∃ nx, nx = fun s => forK (is_rule_c1 x4) ts2 s (is_rule_k2 x6 x4) := ⟨_, rfl⟩
              have hm : (is_rule_c1 x4) x8 t1 next1 = some r := by rw [hnx1]; exact forK_c hm
              rw [is_rule_c1] at hm
              with_reducible refine x_gnE (σ' := ([some (.ref a1), some v3, some (.ref a2), some v5, none] : L2.St)) (by with_unfolding_all rfl) ?_
              refine ⟨rfl, ?_⟩
              with_reducible refine x_not ?_
              with_reducible refine x_B ?_
              with_reducible refine x_call ?_
              with_reducible refine x_cons ?_
              refine ⟨_, rfl, ?_⟩
              with_reducible refine x_cons ?_
              refine ⟨_, rfl, ?_⟩
              obtain ⟨x9, hx7, hm⟩ := bindp hm
              obtain rfl := asInt_of (RD.mono s1 d4) hx7
              obtain ⟨r2, hr2, hm⟩ := bindp hm
              refine ⟨_, _, _, x9, t1, r2, rfl, G3.sub, (.int _), (RD.mono s1 hv1), hr2, fun N2 H3 v6 g3 d7  => ?_⟩
              have G4 := G3.step g3
              have o3 := o2.step g3
              obtain rfl := bl_of d7
              refine ⟨_, rfl, ?_⟩
              refine ifD (fun hc => ?_) (fun hc => ?_)
              · replace hm := itep hm hc
                refine ⟨_, rfl, ?_⟩
                obtain ⟨c1, hm⟩ := guardp hm
                have G5 := o3.mutG (o := .lst (us3 ++ [v5])) G4
                have o4 := o3.mut (ws := us3 ++ [v5])
                have fr3 : Rs (α := PyData) (N2) (us3 ++ [v5]) (x8 ++ [t1]) := Rs_snoc (Rs_mono g3.ex fr2) (RD.mono (s1.trans g3.ex) hv1)
                rw [hnx1] at hm
                exact ⟨_, o3.at_, szl (by rw [Rs_len (Rs_mono g3.ex fr2)]; exact c1), ⟨N2, (x8 ++ [t1]), _, hm, (s1.trans g3.ex), G5, o4, fr3⟩⟩
              · replace hm := iten hm (bF hc)
                rw [hnx1] at hm
                exact ⟨N2, x8, _, hm, (s1.trans g3.ex), G4, o3, (Rs_mono g3.ex fr2)⟩
            · skip
              obtain ⟨F1, x8, us3, hm, s2, G6, o5, fr4⟩ := hW
              have hm : (is_rule_k2 x6 x4) x8 = some r := forK_n hm
              rw [is_rule_k2] at hm
              with_reducible refine x_lst ?_
              refine ⟨szle (show 0 ≤ 16777216 from by decide), fun p2 np2 => ?_⟩
              have fr5 : Rs (α := PyData) (F1) [] ([] : (List PyData)) := Rs_nil
              have g4 := Gr.newO (o := .lst []) G6.sub np2
              have o6 := Ow.new (us := []) G6 np2
              have ne1 := o5.ne_new np2
              have G7 := G6.step g4
              have o7 := o5.step g4
              refine neNil_use (.inl (.inl o7.at_)) (.inl (.inl o6.at_)) (emp_len (Rs_len fr4)) ?_
              refine ⟨_, rfl, ?_⟩
              refine ifD (fun hc => ?_) (fun hc => ?_)
              · replace hm := itep hm hc
                with_reducible refine x_ret ?_
                with_reducible refine x_c ?_
                obtain rfl : _ = r := Option.some.inj hm
                exact q _ _ _ G7 (.bl _)
              · replace hm := iten hm (bF hc)
                with_reducible refine x_next ?_
                with_reducible refine x_ret ?_
                with_reducible refine x_op ?_
                with_reducible refine x_lc ?_
                with_reducible refine x_rng2 ?_
                with_reducible refine x_cons ?_
                with_reducible refine x_c ?_
                with_reducible refine x_cons ?_
                with_reducible refine x_cb ?_
                with_reducible refine x_cons ?_
                refine ⟨_, rfl, ?_⟩
                refine ⟨_, _, rfl, .inl (.inl (.inl ((s2.trans G7.sub) _ _ fa2))), ?_⟩
                rw [Rs_len (Rs_mono s2 fr1)]
                obtain ⟨c2, hm⟩ := guardp hm
                refine ⟨_, _, rfl, c2.ok, fun p3 np3 => ?_⟩
                have g5 := Gr.newO (o := .lst []) G7.sub np3
                have o8 := Ow.new (us := []) G7 np3
                have G8 := G7.step g5
                refine lc_rng (lo := (1 : Int)) (hi := (x6.length : Int)) rfl (fun (ts3 : List Int) H4 => ∃ (F2 : Hp) (x11 : List Int) (us5 : List V), forK (is_rule_c3 x4) ts3 x11 (is_rule_k4) = some r ∧ Sub (F1) F2 ∧ Gr NA F0 H F2 H4 ∧ Ow H F2 H4 p3 us5 ∧ Rs F2 us5 x11) ⟨F1, ([] : List Int), _, hm, (Sub.refl _), G8, o8, Rs_nil⟩ (fun t2 ts4 H1 hW => ?_) (fun H1 hW => ?_)
                · skip
                  obtain ⟨F2, x11, us5, hm, s3, G9, o9, fr6⟩ := hW
                  obtain ⟨next2, hnx2⟩ : ∃ nx, nx = fun s => forK (is_rule_c3 x4) ts4 s (is_rule_k4) := ⟨_, rfl⟩
                  have hm : (is_rule_c3 x4) x11 t2 next2 = some r := by rw [hnx2]; exact forK_c hm
                  rw [is_rule_c3] at hm
                  with_reducible refine x_gnE (σ' := ([some (.ref a1), some v3, some (.ref a2), none, some (.int t2)] : L2.St)) (by with_unfolding_all rfl) ?_
                  refine ⟨rfl, ?_⟩
                  with_reducible refine x_test ?_
                  with_reducible refine x_op ?_
                  with_reducible refine x_op ?_
                  refine ⟨_, rfl, ?_⟩
                  refine useEv (.int (t2 - (1 : Int))) (by exact (Evl.ev_op (Evl.ev_var rfl) Evl.ev_c Evl.rv_I0)) (fun H5 e1 => ?_)
                  have g6 := gr_ex G9.sub e1
                  have G10 := G9.step g6
                  have o10 := o9.step g6
                  obtain ⟨x12, hx8, hm⟩ := bindp hm
                  obtain ⟨x13, hx9, hm⟩ := bindp hm
                  obtain ⟨v8, d8, kq2⟩ := ixD (K := K) G10.sub (RD.mono (s2.trans s3) d5) hx8 hx9
                  refine kq2 _ ?_
                  with_reducible refine x_op ?_
                  refine ⟨_, rfl, ?_⟩
                  refine ⟨_, rfl, ?_⟩
                  obtain ⟨x14, hx10, hm⟩ := bindp hm
                  obtain ⟨x15, hx11, hm⟩ := bindp hm
                  obtain ⟨v9, d9, kq3⟩ := ixD (K := K) G10.sub (RD.mono (s2.trans s3) d5) hx10 hx11
                  refine kq3 _ ?_
                  obtain ⟨c3, hm⟩ := guardp hm
                  refine geA_use (a := x13) (b := x15) G10.sub (RD.mono (Sub.refl _) d8) (RD.mono (Sub.refl _) d9) c3 ?_
                  refine ⟨_, rfl, ?_⟩
                  refine ifD (fun hc => ?_) (fun hc => ?_)
                  · replace hm := itep hm hc
                    refine ⟨_, rfl, ?_⟩
                    obtain ⟨c4, hm⟩ := guardp hm
                    have G11 := o10.mutG (o := .lst (us5 ++ [(.int t2)])) G10
                    have o11 := o10.mut (ws := us5 ++ [(.int t2)])
                    have fr7 : Rs (α := Int) (F2) (us5 ++ [(.int t2)]) (x11 ++ [t2]) := Rs_snoc fr6 (.int _)
                    rw [hnx2] at hm
                    exact ⟨_, o10.at_, szl (by rw [Rs_len fr6]; exact c4), ⟨F2, (x11 ++ [t2]), _, hm, s3, G11, o11, fr7⟩⟩
                  · replace hm := iten hm (bF hc)
                    rw [hnx2] at hm
                    exact ⟨F2, x11, _, hm, s3, G10, o10, fr6⟩
                · skip
                  obtain ⟨F2, x11, us5, hm, s4, G12, o12, fr8⟩ := hW
                  have hm : (is_rule_k4) x11 = some r := forK_n hm
                  rw [is_rule_k4] at hm
                  with_reducible refine x_lst ?_
                  refine ⟨szle (show 0 ≤ 16777216 from by decide), fun p4 np4 => ?_⟩
                  have fr9 : Rs (α := Int) (F2) [] ([] : (List Int)) := Rs_nil
                  have g7 := Gr.newO (o := .lst []) G12.sub np4
                  have o13 := Ow.new (us := []) G12 np4
                  have ne2 := o12.ne_new np4
                  have G13 := G12.step g7
                  have o14 := o12.step g7
                  refine ⟨_, x11, ([] : (List Int)), Sub.refl _, (mk_lst o14.at_ (Rs_mono G13.sub fr8)), (mk_lst o13.at_ (Rs_mono G13.sub fr9)), ?_⟩
                  obtain rfl : _ = r := Option.some.inj hm
                  exact q _ _ _ G13 (.bl _)

abbrev N_read_rule : List Str := ["text", "words", "bases", "rule", "base", "word"]
theorem sc_read_rule : FnScope N_read_rule ["text"] (defScope s_read_rule) := ⟨rfl, rfl, rfl, by decide +kernel, rfl, by decide +kernel, by decide +kernel⟩
def sp_read_rule : Sp := fun vs H Q E => ∃ (F : Hp) (v_text : V) (text : PyData) (r : (Except Er (Int × (List (List Int))))), vs = [v_text] ∧ Sub F H ∧ R F v_text text ∧ read_rule text = some r ∧ (∀ x9, r = .ok x9 → ∀ N H2 v, Gr NA F H N H2 → R N v x9 → Q v H2) ∧ ∀ e9, r = .error e9 → ∀ N H2, Gr NA F H N H2 → E (.ref (ErT.ad e9)) none H2
theorem ok_read_rule {P : Program} {w : World} {K : PySem.W.Frag} {mg : Str → Option Value} {base : Heap} (T : Txt K mg) : FnOk P w K mg base (L2.CX P w) 6 T.f_read_rule.f T.f_read_rule.fd ["text"] sp_read_rule := by
  have nd := (sc_read_rule).nd
  refine T.f_read_rule.F.okX sc_read_rule (fun vs H Q E h => ?_) (fun cdv A0 outer s H vs Q E hr h => ?_)
  · obtain ⟨_, _, _, _, rfl, _⟩ := h
    rfl
  obtain ⟨F0, v_text, text, r, rfl, s0, f_text, hm, q, qe⟩ := h
  have G0 : Gr NA F0 H F0 H := Gr.refl s0
  refine ⟨_, (pss_cons (ps_if (pt_not (pt_val (pe_callB (r := rIsi K) call_isi (by rfl) T.z_isinstance (by decide +kernel) (pa_cons (pv 0) (pa_cons (pe_bltn (v := .ty "str") (by rfl) T.z_str (by decide +kernel) rfl) pa_nil))))) (pss_one (ps_raiseE rfl (takes_of rfl rfl rfl rfl) (T.er.r .NoText) (by rfl))) pss_nil) (pss_cons (ps_set (i := 1) nd rfl (by first | exact Or.inl rfl | exact Or.inr rfl) (pe_split (pv 0) pe_str)) (pss_cons (ps_set (i := 2) nd rfl (by first | exact Or.inl rfl | exact Or.inr rfl) (pe_lc (own := [("base", 4)]) (g := (gName 4)) rfl nd (pi_range2 (by rfl) T.z_range (pa_cons pe_int (pa_cons pe_int pa_nil))) (blkOk_by (own := [("base", 4)]) (N := N_read_rule) (sc := defScope s_read_rule) (by decide +kernel)) (fun _ _ _ _ _ => pg_name (i := 4) nd rfl (Or.inl rfl)) (fun _ _ _ _ _ => pts_one (pt_cmpR op_eqS (pe_callTy call_str_int (by rfl) T.z_str (by decide +kernel) (pa_cons (pv 4) pa_nil)) (pe_ix (r := rIxL K) ix_list (pv 1) pe_int (fun _ _ => rfl)) (nomark _))) (fun _ _ _ _ _ => (pv 4)))) (pss_cons (ps_if (pt_cmpR (op_eqT (α := (List Int)) (by decide) (hu64 hr)) (pv 2) (pe_lst pa_nil) (nomark _)) (pss_one (ps_raiseE rfl (takes_of rfl rfl rfl rfl) (T.er.r .NoText) (by rfl))) pss_nil) (pss_cons (ps_set (i := 3) nd rfl (by first | exact Or.inl rfl | exact Or.inr rfl) (pe_tup (pa_cons (pe_ix (r := rIxL K) ix_list (pv 2) pe_int (fun _ _ => rfl)) (pa_cons (pe_lcX (own := [("word", 5)]) (g := (gName 5)) rfl rfl rfl nd (takes_of rfl rfl rfl rfl) (pi_list (pe_slice (r := rSlL K) sl_list (pv 1) (po_some pe_int) po_none)) (blkOk_by (own := [("word", 5)]) (N := N_read_rule) (sc := defScope s_read_rule) (by decide +kernel)) (fun _ _ _ _ _ _ => pg_name (i := 5) nd rfl (Or.inl rfl)) (fun _ _ _ _ _ _ => pts_nil) (fun _ _ _ _ _ _ => (pe_callS (ok_read_figures T) (hr.mono (by decide)) (by rfl) T.f_read_figures.g T.f_read_figures.F.kp T.f_read_figures.b (fun σ => pass_blk σ) (pa_cons (pe_ix (r := rIxL K) ix_list (pv 2) pe_int (fun _ _ => rfl)) (pa_cons (pv 5) pa_nil))))) pa_nil)))) (pss_cons (ps_if (pt_not (pt_val (pe_call (ok_is_rule T) (hr.mono (by decide)) (by rfl) T.f_is_rule.g T.f_is_rule.F.kp T.f_is_rule.b .nil pass0 (pa_cons (pv 3) pa_nil)))) (pss_one (ps_raiseE rfl (takes_of rfl rfl rfl rfl) (T.er.r .NoText) (by rfl))) pss_nil) (pss_one (ps_ret (pv 3))))))))), ?_⟩
  refine x_start (σ' := ([some v_text, none, none, none, none, none] : L2.St)) (by with_unfolding_all rfl) ?_
  rw [read_rule] at hm
  with_reducible refine x_seq ?_
  with_reducible refine x_if ?_
  with_reducible refine x_not ?_
  with_reducible refine x_B ?_
  with_reducible refine x_cb ?_
  with_reducible refine x_cons ?_
  refine ⟨_, rfl, ?_⟩
  with_reducible refine x_cons ?_
  with_reducible refine x_c ?_
  with_reducible refine x_nil ?_
  refine isi_str (K := K) G0.sub (RD.mono (Sub.refl _) f_text) _ ?_
  refine ⟨_, rfl, ?_⟩
  refine ifD (fun hc => ?_) (fun hc => ?_)
  · replace hm := itep hm hc
    obtain rfl : Except.error _ = r := Option.some.inj hm
    exact qe _ rfl _ _ G0
  · replace hm := iten hm (bF hc)
    with_reducible refine x_next ?_
    with_reducible refine x_seq ?_
    with_reducible refine x_asg ?_
    with_reducible refine x_m1 ?_
    refine ⟨_, rfl, ?_⟩
    obtain ⟨x1, hx1, hm⟩ := bindp hm
    obtain rfl := asStr_of (RD.mono (Sub.refl _) f_text) hx1
    refine ⟨⟨_, rfl⟩, ?_⟩
    with_reducible refine x_c ?_
    obtain ⟨c1, hm⟩ := guardp hm
    refine split_of (by rfl) c1 (fun p1 np1 => ?_)
    have g1 := Gr.newO (o := .lst ((Txt.split x1 (" " : Str)).map V.str)) G0.sub np1
    have o1 := Ow.new (us := ((Txt.split x1 (" " : Str)).map V.str)) G0 np1
    have G1 := G0.step g1
    obtain ⟨F1, G2, ex1, fa1, nf1⟩ := o1.frzE G1
    have fr1 := Rs_mono ex1 (strs_Rs (Txt.split x1 (" " : Str)))
    with_reducible refine x_gnE (σ' := ([some (.str x1), some (.ref p1), none, none, none, none] : L2.St)) (by with_unfolding_all rfl) ?_
    with_reducible refine x_seq ?_
    with_reducible refine x_asg ?_
    with_reducible refine x_lc ?_
    with_reducible refine x_rng2 ?_
    with_reducible refine x_cons ?_
    with_reducible refine x_c ?_
    with_reducible refine x_cons ?_
    with_reducible refine x_c ?_
    refine ⟨_, _, rfl, (show Rg2 (2 : Int) (17 : Int) from by decide).ok, fun p2 np2 => ?_⟩
    have g2 := Gr.newO (o := .lst []) G2.sub np2
    have o2 := Ow.new (us := []) G2 np2
    have G3 := G2.step g2
    refine lc_rng (lo := (2 : Int)) (hi := (17 : Int)) rfl (fun (ts1 : List Int) H1 => ∃ (F2 : Hp) (x3 : List Int) (us2 : List V), forK (read_rule_c1 x1) ts1 x3 (read_rule_k2 x1) = some r ∧ Sub (F1) F2 ∧ Gr NA F0 H F2 H1 ∧ Ow H F2 H1 p2 us2 ∧ Rs F2 us2 x3) ⟨F1, ([] : List Int), _, hm, (Sub.refl _), G3, o2, Rs_nil⟩ (fun t1 ts2 H1 hW => ?_) (fun H1 hW => ?_)
    · skip
      obtain ⟨F2, x3, us2, hm, s1, G4, o3, fr2⟩ := hW
      obtain ⟨next1, hnx1⟩ : ∃ nx, nx = fun s => forK (read_rule_c1 x1) ts2 s (read_rule_k2 x1) := ⟨_, rfl⟩
      have hm : (read_rule_c1 x1) x3 t1 next1 = some r := by rw [hnx1]; exact forK_c hm
      rw [read_rule_c1] at hm
      with_reducible refine x_gnE (σ' := ([some (.str x1), some (.ref p1), none, none, some (.int t1), none] : L2.St)) (by with_unfolding_all rfl) ?_
      refine ⟨rfl, ?_⟩
      with_reducible refine x_test ?_
      with_reducible refine x_op ?_
      with_reducible refine x_cb ?_
      with_reducible refine x_cons ?_
      refine ⟨_, rfl, ?_⟩
      obtain ⟨c2, hm⟩ := guardp hm
      refine ⟨_, rfl, c2, ?_⟩
      with_reducible refine x_op ?_
      refine ⟨_, rfl, ?_⟩
      with_reducible refine x_c ?_
      obtain ⟨x4, hx2, hm⟩ := bindp hm
      obtain ⟨v2, hu1, d1⟩ := Rs_at (Rs_mono s1 fr1) hx2
      refine ⟨_, _, _, _, rfl, rfl, .inl (.inl ((s1.trans G4.sub) _ _ fa1)), hu1, ?_⟩
      obtain rfl := str_of d1
      refine eqS_use ?_
      refine ⟨_, rfl, ?_⟩
      refine ifD (fun hc => ?_) (fun hc => ?_)
      · replace hm := itep hm hc
        refine ⟨_, rfl, ?_⟩
        obtain ⟨c3, hm⟩ := guardp hm
        have G5 := o3.mutG (o := .lst (us2 ++ [(.int t1)])) G4
        have o4 := o3.mut (ws := us2 ++ [(.int t1)])
        have fr3 : Rs (α := Int) (F2) (us2 ++ [(.int t1)]) (x3 ++ [t1]) := Rs_snoc fr2 (.int _)
        rw [hnx1] at hm
        exact ⟨_, o3.at_, szl (by rw [Rs_len fr2]; exact c3), ⟨F2, (x3 ++ [t1]), _, hm, s1, G5, o4, fr3⟩⟩
      · replace hm := iten hm (bF hc)
        rw [hnx1] at hm
        exact ⟨F2, x3, _, hm, s1, G4, o3, fr2⟩
    · skip
      obtain ⟨F2, x3, us2, hm, s2, G6, o5, fr4⟩ := hW
      have hm : (read_rule_k2 x1) x3 = some r := forK_n hm
      rw [read_rule_k2] at hm
      obtain ⟨F3, G7, ex2, fa2, nf2⟩ := o5.frzE G6
      have fr5 := Rs_mono ex2 fr4
      with_reducible refine x_gnE (σ' := ([some (.str x1), some (.ref p1), some (.ref p2), none, none, none] : L2.St)) (by with_unfolding_all rfl) ?_
      with_reducible refine x_seq ?_
      with_reducible refine x_if ?_
      with_reducible refine x_test ?_
      refine useEv (.bl (eqT x3 [])) (by exact (ev_eqNil (α := Int) (Evl.ev_var rfl) (RD.mono G7.sub (mk_lst ((Sub.refl _) _ _ fa2) (Rs_mono (Sub.refl _) fr5))))) (fun H2 e1 => ?_)
      have g3 := gr_ex G7.sub e1
      have G8 := G7.step g3
      refine ⟨_, rfl, ?_⟩
      refine ifD (fun hc => ?_) (fun hc => ?_)
      · replace hm := itep hm hc
        obtain rfl : Except.error _ = r := Option.some.inj hm
        exact qe _ rfl _ _ G8
      · replace hm := iten hm (bF hc)
        with_reducible refine x_next ?_
        with_reducible refine x_seq ?_
        with_reducible refine x_asg ?_
        with_reducible refine x_tup ?_
        with_reducible refine x_cons ?_
        with_reducible refine x_op ?_
        refine ⟨_, rfl, ?_⟩
        with_reducible refine x_c ?_
        obtain ⟨x5, hx3, hm⟩ := bindp hm
        obtain ⟨v3, hu2, d2⟩ := Rs_at (Rs_mono (Sub.refl _) fr5) hx3
        refine ⟨_, _, _, _, rfl, rfl, .inl (.inl (G8.sub _ _ fa2)), hu2, ?_⟩
        obtain rfl := int_of d2
        with_reducible refine x_cons ?_
        with_reducible refine x_lcX ?_
        with_reducible refine x_lc ?_
        with_reducible refine x_iter ?_
        with_reducible refine x_sl ?_
        refine ⟨_, rfl, ?_⟩
        with_reducible refine x_part ?_
        with_reducible refine x_c ?_
        refine ⟨_, rfl, ?_⟩
        with_reducible refine x_nopart ?_
        refine ⟨_, _, rfl, .inl (.inl (((s2.trans ex2).trans G8.sub) _ _ fa1)), fun p3 np3 => ?_⟩
        have fr6 : Rs (α := Str) (F3) (cutV ((Txt.split x1 (" " : Str)).map V.str) (some (1 : Int)) none) (cutT (Txt.split x1 (" " : Str)) (some (1 : Int)) none) := Rs_cut (Rs_mono (s2.trans ex2) fr1)
        have g4 := Gr.newO (o := .lst (cutV ((Txt.split x1 (" " : Str)).map V.str) (some (1 : Int)) none)) G8.sub np3
        have o6 := Ow.new (us := (cutV ((Txt.split x1 (" " : Str)).map V.str) (some (1 : Int)) none)) G8 np3
        have G9 := G8.step g4
        obtain ⟨F4, G10, ex3, fa3, nf3⟩ := o6.frzE G9
        have fr7 := Rs_mono ex3 fr6
        refine ⟨_, rfl, ⟨_, .inl (.inl (G10.sub _ _ fa3))⟩, fun p4 np4 => ?_⟩
        have g5 := Gr.newO (o := .lst []) G10.sub np4
        have o7 := Ow.new (us := []) G10 np4
        have G11 := G10.step g5
        refine lc_lst (α := Str) (fun (ts3 : List Str) H3 => ∃ (F5 : Hp) (x7 : List (List Int)) (us4 : List V), forK (read_rule_c3 x3) ts3 x7 (read_rule_k4 x5) = some r ∧ Sub (F4) F5 ∧ Gr NA F0 H F5 H3 ∧ Ow H F5 H3 p4 us4 ∧ Rs F5 us4 x7) (Rs_mono (Sub.refl _) fr7) ⟨F4, ([] : List (List Int)), _, hm, (Sub.refl _), G11, o7, Rs_nil⟩ (fun _ _ h => ?_) (fun t2 ts4 v4 H1 hv2 hW => ?_) (fun H1 hW => ?_)
        · obtain ⟨F9z, _, _, _, s9z, G9z, _⟩ := h
          exact G9z.sub _ _ (s9z _ _ ((Sub.refl _) _ _ fa3))
        · skip
          obtain ⟨F5, x7, us4, hm, s3, G12, o8, fr8⟩ := hW
          obtain ⟨next2, hnx2⟩ : ∃ nx, nx = fun s => forK (read_rule_c3 x3) ts4 s (read_rule_k4 x5) := ⟨_, rfl⟩
          have hm : (read_rule_c3 x3) x7 t2 next2 = some r := by rw [hnx2]; exact forK_c hm
          rw [read_rule_c3] at hm
          obtain rfl := str_of hv2
          with_reducible refine x_gnE (σ' := ([some (.str x1), some (.ref p1), some (.ref p2), none, none, some (.str t2)] : L2.St)) (by with_unfolding_all rfl) ?_
          refine ⟨rfl, ?_⟩
          with_reducible refine x_yes ?_
          refine iteT ?_
          with_reducible refine x_callS ?_
          with_reducible refine x_cons ?_
          with_reducible refine x_op ?_
          refine ⟨_, rfl, ?_⟩
          with_reducible refine x_c ?_
          obtain ⟨x8, hx4, hm⟩ := bindp hm
          obtain ⟨v5, hu3, d3⟩ := Rs_at (Rs_mono (ex3.trans s3) fr5) hx4
          refine ⟨_, _, _, _, rfl, rfl, .inl (.inl (((ex3.trans s3).trans G12.sub) _ _ fa2)), hu3, ?_⟩
          obtain rfl := int_of d3
          with_reducible refine x_cons ?_
          refine ⟨_, rfl, ?_⟩
          obtain ⟨r1, hr1, hm⟩ := bindp hm
          refine ⟨_, _, _, x8, t2, r1, rfl, G12.sub, (.int _), (.str _), hr1, fun y1 e9 N1 H4 v6 g6 d4 => ?_, fun er1 e9 N1 H4 g6 => ?_⟩
          · subst e9; rw [exB_ok] at hm
            have G13 := G12.step g6
            have o9 := o8.step g6
            obtain ⟨a1, us5, rfl, fa4, fr9⟩ := lst_of d4
            obtain ⟨c4, hm⟩ := guardp hm
            have G14 := o9.mutG (o := .lst (us4 ++ [(.ref a1)])) G13
            have o10 := o9.mut (ws := us4 ++ [(.ref a1)])
            have fr10 : Rs (α := (List Int)) (N1) (us4 ++ [(.ref a1)]) (x7 ++ [y1]) := Rs_snoc (Rs_mono g6.ex fr8) (mk_lst ((Sub.refl _) _ _ fa4) (Rs_mono (Sub.refl _) fr9))
            rw [hnx2] at hm
            exact ⟨_, o9.at_, szl (by rw [Rs_len (Rs_mono g6.ex fr8)]; exact c4), ⟨N1, (x7 ++ [y1]), _, hm, (s3.trans g6.ex), G14, o10, fr10⟩⟩
          · subst e9; rw [exB_err] at hm
            have G15 := G12.step g6
            have o11 := o8.step g6
            obtain rfl : Except.error _ = r := Option.some.inj hm
            exact qe _ rfl _ _ G15
        · skip
          obtain ⟨F5, x7, us4, hm, s4, G16, o12, fr11⟩ := hW
          have hm : (read_rule_k4 x5) x7 = some r := forK_n hm
          rw [read_rule_k4] at hm
          obtain ⟨F6, G17, ex4, fa5, nf4⟩ := o12.frzE G16
          have fr12 := Rs_mono ex4 fr11
          refine ⟨szle (show 2 ≤ 16777216 from by decide), fun p5 np5 => ?_⟩
          obtain ⟨F7, g7, fa6⟩ := Gr.newE (o := .tup [(.int x5), (.ref p4)]) G17.sub np5
          have G18 := G17.step g7
          with_reducible refine x_gnE (σ' := ([some (.str x1), some (.ref p1), some (.ref p2), some (.ref p5), none, none] : L2.St)) (by with_unfolding_all rfl) ?_
          with_reducible refine x_seq ?_
          with_reducible refine x_if ?_
          with_reducible refine x_not ?_
          with_reducible refine x_B ?_
          with_reducible refine x_call ?_
          with_reducible refine x_cons ?_
          refine ⟨_, rfl, ?_⟩
          have d5 : R (α := PyData) (F7) (.ref p5) (PyData.tuple [(PyData.int x5), (PyData.list (x7.map fun z => (PyData.list (z.map fun z => (PyData.int z)))))]) := (.tup ((Sub.refl _) _ _ fa6) (.cons (.int _) (.cons (mk_lst (g7.ex _ _ fa5) (Rs_mono g7.ex fr12)) .nil)))
          obtain ⟨r2, hr2, hm⟩ := bindp hm
          refine ⟨_, _, (PyData.tuple [(PyData.int x5), (PyData.list (x7.map fun z => (PyData.list (z.map fun z => (PyData.int z)))))]), r2, rfl, G18.sub, (RD.mono (Sub.refl _) d5), hr2, fun N2 H5 v7 g8 d6  => ?_⟩
          have G19 := G18.step g8
          obtain rfl := bl_of d6
          refine ⟨_, rfl, ?_⟩
          refine ifD (fun hc => ?_) (fun hc => ?_)
          · replace hm := itep hm hc
            obtain rfl : Except.error _ = r := Option.some.inj hm
            exact qe _ rfl _ _ G19
          · replace hm := iten hm (bF hc)
            with_reducible refine x_next ?_
            with_reducible refine x_ret ?_
            refine ⟨_, rfl, ?_⟩
            obtain rfl : Except.ok _ = r := Option.some.inj hm
            exact q _ rfl _ _ _ G19 (mk_tup2 (g8.ex _ _ fa6) (.int _) (mk_lst ((g7.ex.trans g8.ex) _ _ fa5) (Rs_mono (g7.ex.trans g8.ex) fr12)))

abbrev N_need_from : List Str := ["thing", "least"]
theorem sc_need_from : FnScope N_need_from ["thing", "least"] (defScope s_need_from) := ⟨rfl, rfl, rfl, by decide +kernel, rfl, by decide +kernel, by decide +kernel⟩
def sp_need_from : Sp := fun vs H Q E => ∃ (F : Hp) (v_thing : V) (v_least : V) (thing : PyData) (least : Int) (r : (Except Er Unit)), vs = [v_thing, v_least] ∧ Sub F H ∧ R F v_thing thing ∧ R F v_least least ∧ need_from thing least = some r ∧ (∀ x9, r = .ok x9 → ∀ N H2 v, Gr NA F H N H2 → R N v x9 → Q v H2) ∧ ∀ e9, r = .error e9 → ∀ N H2, Gr NA F H N H2 → E (.ref (ErT.ad e9)) none H2
theorem ok_need_from {P : Program} {w : World} {K : PySem.W.Frag} {mg : Str → Option Value} {base : Heap} (T : Txt K mg) : FnOk P w K mg base (L2.CX P w) 2 T.f_need_from.f T.f_need_from.fd ["thing", "least"] sp_need_from := by
  have nd := (sc_need_from).nd
  refine T.f_need_from.F.okX sc_need_from (fun vs H Q E h => ?_) (fun cdv A0 outer s H vs Q E hr h => ?_)
  · obtain ⟨_, _, _, _, _, _, rfl, _⟩ := h
    rfl
  obtain ⟨F0, v_thing, v_least, thing, least, r, rfl, s0, f_thing, f_least, hm, q, qe⟩ := h
  have G0 : Gr NA F0 H F0 H := Gr.refl s0
  obtain rfl := int_of f_least
  refine ⟨_, (pss_one (ps_if (PW.pt (pw_or (pt_not (pt_val (pe_call (ok_is_whole T) (hr.mono (by decide)) (by rfl) T.f_is_whole.g T.f_is_whole.F.kp T.f_is_whole.b .nil pass0 (pa_cons (pv 0) pa_nil)))) (pw_or1 (pt_cmp (pc_lt (pv 0) (pv 1)))))) (pss_one (ps_raiseE rfl (takes_of rfl rfl rfl rfl) (T.er.r .NoNumber) (by rfl))) pss_nil)), ?_⟩
  refine x_start (σ' := ([some v_thing, some (.int least)] : L2.St)) (by with_unfolding_all rfl) ?_
  rw [need_from] at hm
  with_reducible refine x_if ?_
  with_reducible refine x_or ?_
  with_reducible refine x_not ?_
  with_reducible refine x_B ?_
  with_reducible refine x_call ?_
  with_reducible refine x_cons ?_
  refine ⟨_, rfl, ?_⟩
  obtain ⟨r1, hr1, hm⟩ := bindp hm
  refine ⟨_, _, thing, r1, rfl, G0.sub, (RD.mono (Sub.refl _) f_thing), hr1, fun N1 H1 v1 g1 d1  => ?_⟩
  have G1 := G0.step g1
  obtain rfl := bl_of d1
  refine ⟨_, rfl, ?_⟩
  refine ifD (fun hc => ?_) (fun hc => ?_)
  · replace hm := itep hm hc
    refine iteT ?_
    obtain rfl : Except.error _ = r := Option.some.inj hm
    exact qe _ rfl _ _ G1
  · replace hm := iten hm (bF hc)
    with_reducible refine x_B ?_
    with_reducible refine x_cmp ?_
    refine ⟨_, rfl, ?_⟩
    refine ⟨_, rfl, ?_⟩
    obtain ⟨x1, hx1, hm⟩ := bindp hm
    obtain rfl := asInt_of (RD.mono g1.ex f_thing) hx1
    refine ⟨_, _, rfl, rfl, ?_⟩
    refine ⟨_, rfl, ?_⟩
    refine ifD (fun hc => ?_) (fun hc => ?_)
    · replace hm := itep hm hc
      obtain rfl : Except.error _ = r := Option.some.inj hm
      exact qe _ rfl _ _ G1
    · replace hm := iten hm (bF hc)
      with_reducible refine x_next ?_
      obtain rfl : Except.ok _ = r := Option.some.inj hm
      exact q _ rfl _ _ _ G1 .non

abbrev N_written : List Str := ["base", "n", "found"]
theorem sc_written : FnScope N_written ["base", "n"] (defScope s_written) := ⟨rfl, rfl, rfl, by decide +kernel, rfl, by decide +kernel, by decide +kernel⟩
def sp_written : Sp := fun vs H Q _ => ∃ (F : Hp) (v_base : V) (v_n : V) (base : Int) (n : Int) (r : (List Int)), vs = [v_base, v_n] ∧ Sub F H ∧ R F v_base base ∧ R F v_n n ∧ written base n = some r ∧ ∀ N H2 v, Gr NA F H N H2 → R N v r → Fz H v → Q v H2
theorem ok_written {P : Program} {w : World} {K : PySem.W.Frag} {mg : Str → Option Value} {base : Heap} (T : Txt K mg) : FnOk P w K mg base CX0 1 T.f_written.f T.f_written.fd ["base", "n"] sp_written := by
  have nd := (sc_written).nd
  refine T.f_written.F.ok sc_written (fun vs H Q E h => ?_) (fun cdv A0 outer s H vs Q E hr h => ?_)
  · obtain ⟨_, _, _, _, _, _, rfl, _⟩ := h
    rfl
  obtain ⟨F0, v_base, v_n, base, n, r, rfl, s0, f_base, f_n, hm, q⟩ := h
  have G0 : Gr NA F0 H F0 H := Gr.refl s0
  obtain rfl := int_of f_base
  obtain rfl := int_of f_n
  refine ⟨_, (pss_cons (ps_set (i := 2) nd rfl (by first | exact Or.inl rfl | exact Or.inr rfl) (pe_lst (pa_cons (pe_op op_mod (pv 1) (pv 0)) pa_nil))) (pss_cons (ps_set (i := 1) nd rfl (by first | exact Or.inl rfl | exact Or.inr rfl) (pe_op op_fdivW (pv 1) (pv 0))) (pss_cons (ps_while PassesOwn.never (pt_cmp (pc_gt (pv 1) pe_int)) (pss_cons (ps_expr (pe_bm PySem.F.plainAttrs_list PySem.F.slot_list_append PySem.F.type_list_append mt_append (pv 2) (pa_cons (pe_op op_mod (pv 1) (pv 0)) pa_nil))) (pss_one (ps_set (i := 1) nd rfl (by first | exact Or.inl rfl | exact Or.inr rfl) (pe_op op_fdivW (pv 1) (pv 0)))))) (pss_one (ps_ret (pe_revL (pv 2))))))), ?_⟩
  refine x_start (σ' := ([some (.int base), some (.int n), none] : L2.St)) (by with_unfolding_all rfl) ?_
  rw [written] at hm
  with_reducible refine x_seq ?_
  with_reducible refine x_asg ?_
  with_reducible refine x_lst ?_
  with_reducible refine x_cons ?_
  with_reducible refine x_op ?_
  refine ⟨_, rfl, ?_⟩
  refine ⟨_, rfl, ?_⟩
  obtain ⟨c1, hm⟩ := guardp hm
  refine ⟨_, _, rfl, rfl, c1.p, ?_⟩
  refine ⟨szle (show 1 ≤ 16777216 from by decide), fun p1 np1 => ?_⟩
  have fr1 : Rs (α := Int) (F0) [(.int (n % base))] ([(n % base)] : (List Int)) := (Rs_cons (.int _) Rs_nil)
  have g1 := Gr.newO (o := .lst [(.int (n % base))]) G0.sub np1
  have o1 := Ow.new (us := [(.int (n % base))]) G0 np1
  have G1 := G0.step g1
  with_reducible refine x_gnE (σ' := ([some (.int base), some (.int n), some (.ref p1)] : L2.St)) (by with_unfolding_all rfl) ?_
  with_reducible refine x_seq ?_
  with_reducible refine x_asg ?_
  with_reducible refine x_op ?_
  refine ⟨_, rfl, ?_⟩
  refine ⟨_, rfl, ?_⟩
  obtain ⟨c2, hm⟩ := guardp hm
  refine ⟨_, _, rfl, rfl, c2.w, ?_⟩
  with_reducible refine x_gnE (σ' := ([some (.int base), some (.int (n / base)), some (.ref p1)] : L2.St)) (by with_unfolding_all rfl) ?_
  with_reducible refine x_seq ?_
  refine while_n (fun m σ H1 => ∃ (F1 : Hp) (x1 : Int) (x2 : (List Int)) (p2 : Addr) (us1 : List V), whileK (written_w1 base) m (x1, x2) = some r ∧ Sub (F0) F1 ∧ Gr NA F0 H F1 H1 ∧ Ow H F1 H1 p2 us1 ∧ Rs F1 us1 x2 ∧ σ = [some (.int base), some (.int x1), some (.ref p2)]) fuel ⟨F0, (n / base), ([(n % base)] : (List Int)), _, _, hm, (Sub.refl _), G1, o1, fr1, rfl⟩ (fun σ H1 hW => ?_) (fun m1 σ H1 hW => ?_)
  · obtain ⟨F1, x1, x2, p2, us1, h9, _⟩ := hW
    exact no_none h9
  obtain ⟨F1, x1, x2, p2, us1, hm, s1, G2, o2, fr2, rfl⟩ := hW
  obtain ⟨next1, hnx1⟩ : ∃ nx, nx = whileK (written_w1 base) m1 := ⟨_, rfl⟩
  have hm : (written_w1 base) (x1, x2) next1 = some r := by rw [hnx1]; exact whileK_s hm
  rw [written_w1] at hm
  with_reducible refine x_B ?_
  refine useEv (.bl (decide ((0 : Int) < x1))) (by exact (ev_cmp (Evl.ev_var rfl) Evl.ev_c)) (fun H2 e1 => ?_)
  have g2 := gr_ex G2.sub e1
  have G3 := G2.step g2
  have o3 := o2.step g2
  refine ⟨_, rfl, ?_⟩
  refine ifD (fun hc => ?_) (fun hc => ?_)
  · replace hm := itep hm hc
    refine ⟨_, fun σ9 H9 h9 => ⟨m1, Nat.lt_succ_self _, h9⟩, ?_⟩
    with_reducible refine x_seq ?_
    with_reducible refine x_drop ?_
    with_reducible refine x_bm ?_
    refine ⟨_, rfl, ?_⟩
    refine ⟨.inl ⟨rfl, _, .inl (.inl o3.at_)⟩, ?_⟩
    with_reducible refine x_cons ?_
    with_reducible refine x_op ?_
    refine ⟨_, rfl, ?_⟩
    refine ⟨_, rfl, ?_⟩
    obtain ⟨c3, hm⟩ := guardp hm
    refine ⟨_, _, rfl, rfl, c3.p, ?_⟩
    obtain ⟨c4, hm⟩ := guardp hm
    refine ⟨_, _, _, rfl, rfl, o3.at_, szl (by rw [Rs_len fr2]; exact c4), ?_⟩
    have G4 := o3.mutG (o := .lst (us1 ++ [(.int (x1 % base))])) G3
    have o4 := o3.mut (ws := us1 ++ [(.int (x1 % base))])
    have fr3 : Rs (α := Int) (F1) (us1 ++ [(.int (x1 % base))]) (x2 ++ [(x1 % base)]) := Rs_snoc fr2 (.int _)
    with_reducible refine x_asg ?_
    with_reducible refine x_op ?_
    refine ⟨_, rfl, ?_⟩
    refine ⟨_, rfl, ?_⟩
    obtain ⟨c5, hm⟩ := guardp hm
    refine ⟨_, _, rfl, rfl, c5.w, ?_⟩
    with_reducible refine x_gnE (σ' := ([some (.int base), some (.int (x1 / base)), some (.ref p2)] : L2.St)) (by with_unfolding_all rfl) ?_
    rw [hnx1] at hm
    exact ⟨F1, (x1 / base), (x2 ++ [(x1 % base)]), _, _, hm, s1, G4, o4, fr3, rfl⟩
  · replace hm := iten hm (bF hc)
    with_reducible refine x_ret ?_
    with_reducible refine x_revL ?_
    refine ⟨_, rfl, ?_⟩
    refine ⟨_, _, rfl, .inl (.inl o3.at_), fun p3 np2 => ?_⟩
    have fr4 : Rs (α := Int) (F1) (us1).reverse ((x2).reverse) := Rs_rev fr2
    have g3 := Gr.newO (o := .lst (us1).reverse) G3.sub np2
    have o5 := Ow.new (us := (us1).reverse) G3 np2
    have ne1 := o3.ne_new np2
    have G5 := G3.step g3
    have o6 := o3.step g3
    obtain ⟨F2, G6, ex1, fa1, nf1⟩ := o5.frzE G5
    have o7 := o6.frzN (Ne.symm (Ne.symm ne1)) nf1
    have fr5 := Rs_mono ex1 fr4
    obtain rfl : _ = r := Option.some.inj hm
    exact q _ _ _ G6 (mk_lst ((Sub.refl _) _ _ fa1) (Rs_mono (Sub.refl _) fr5)) (fun a9 e9 => by cases e9; exact o5.n0)

abbrev N_figures_of : List Str := ["base", "n"]
theorem sc_figures_of : FnScope N_figures_of ["base", "n"] (defScope s_figures_of) := ⟨rfl, rfl, rfl, by decide +kernel, rfl, by decide +kernel, by decide +kernel⟩
def sp_figures_of : Sp := fun vs H Q E => ∃ (F : Hp) (v_base : V) (v_n : V) (base : PyData) (n : PyData) (r : (Except Er (List Int))), vs = [v_base, v_n] ∧ Sub F H ∧ R F v_base base ∧ R F v_n n ∧ figures_of base n = some r ∧ (∀ x9, r = .ok x9 → ∀ N H2 v, Gr NA F H N H2 → R N v x9 → Q v H2) ∧ ∀ e9, r = .error e9 → ∀ N H2, Gr NA F H N H2 → E (.ref (ErT.ad e9)) none H2
theorem ok_figures_of {P : Program} {w : World} {K : PySem.W.Frag} {mg : Str → Option Value} {base : Heap} (T : Txt K mg) : FnOk P w K mg base (L2.CX P w) 4 T.f_figures_of.f T.f_figures_of.fd ["base", "n"] sp_figures_of := by
  have nd := (sc_figures_of).nd
  refine T.f_figures_of.F.okX sc_figures_of (fun vs H Q E h => ?_) (fun cdv A0 outer s H vs Q E hr h => ?_)
  · obtain ⟨_, _, _, _, _, _, rfl, _⟩ := h
    rfl
  obtain ⟨F0, v_base, v_n, base, n, r, rfl, s0, f_base, f_n, hm, q, qe⟩ := h
  have G0 : Gr NA F0 H F0 H := Gr.refl s0
  refine ⟨_, (pss_cons (ps_expr (pe_callS (ok_need_base T) (hr.mono (by decide)) (by rfl) T.f_need_base.g T.f_need_base.F.kp T.f_need_base.b (fun σ => passAt (takes_of rfl rfl rfl rfl) σ) (pa_cons (pv 0) pa_nil))) (pss_cons (ps_expr (pe_callS (ok_need_from T) (hr.mono (by decide)) (by rfl) T.f_need_from.g T.f_need_from.F.kp T.f_need_from.b (fun σ => passAt (takes_of rfl rfl rfl rfl) σ) (pa_cons (pv 1) (pa_cons pe_int pa_nil)))) (pss_one (ps_ret (pe_call (ok_written T) (hr.mono (by decide)) (by rfl) T.f_written.g T.f_written.F.kp T.f_written.b .nil pass0 (pa_cons (pv 0) (pa_cons (pv 1) pa_nil))))))), ?_⟩
  refine x_start (σ' := ([some v_base, some v_n] : L2.St)) (by with_unfolding_all rfl) ?_
  rw [figures_of] at hm
  with_reducible refine x_seq ?_
  with_reducible refine x_drop ?_
  with_reducible refine x_callS ?_
  with_reducible refine x_cons ?_
  refine ⟨_, rfl, ?_⟩
  obtain ⟨r1, hr1, hm⟩ := bindp hm
  refine ⟨_, _, base, r1, rfl, G0.sub, (RD.mono (Sub.refl _) f_base), hr1, fun y1 e9 N1 H1 v1 g1 d1 => ?_, fun er1 e9 N1 H1 g1 => ?_⟩
  · subst e9; rw [exB_ok] at hm
    have G1 := G0.step g1
    obtain rfl := non_of d1
    with_reducible refine x_seq ?_
    with_reducible refine x_drop ?_
    with_reducible refine x_callS ?_
    with_reducible refine x_cons ?_
    refine ⟨_, rfl, ?_⟩
    with_reducible refine x_cons ?_
    with_reducible refine x_c ?_
    obtain ⟨r2, hr2, hm⟩ := bindp hm
    refine ⟨_, _, _, n, (0 : Int), r2, rfl, G1.sub, (RD.mono g1.ex f_n), (.int _), hr2, fun y2 e9 N2 H2 v2 g2 d2 => ?_, fun er2 e9 N2 H2 g2 => ?_⟩
    · subst e9; rw [exB_ok] at hm
      have G2 := G1.step g2
      obtain rfl := non_of d2
      with_reducible refine x_ret ?_
      with_reducible refine x_call ?_
      with_reducible refine x_cons ?_
      refine ⟨_, rfl, ?_⟩
      with_reducible refine x_cons ?_
      refine ⟨_, rfl, ?_⟩
      obtain ⟨x1, hx1, hm⟩ := bindp hm
      obtain rfl := asInt_of (RD.mono (g1.ex.trans g2.ex) f_base) hx1
      obtain ⟨x2, hx2, hm⟩ := bindp hm
      obtain rfl := asInt_of (RD.mono (g1.ex.trans g2.ex) f_n) hx2
      obtain ⟨r3, hr3, hm⟩ := bindp hm
      refine ⟨_, _, _, x1, x2, r3, rfl, G2.sub, (.int _), (.int _), hr3, fun N3 H3 v3 g3 d3 fz1 => ?_⟩
      obtain ⟨a1, us1, rfl, fa1, fr1⟩ := lst_of d3
      have o1 := own_of (α := Int) (xs := []) G2 g3 (fz1 _ rfl) fa1
      have fr2 := Rs_flatI (F := N2) fr1
      have g4 := g3.flat G2.sub
      have G3 := G2.step g4
      obtain ⟨F1, G4, ex1, fa2, nf1⟩ := o1.frzE G3
      have fr3 := Rs_mono ex1 fr2
      obtain rfl : Except.ok _ = r := Option.some.inj hm
      exact q _ rfl _ _ _ G4 (mk_lst ((Sub.refl _) _ _ fa2) (Rs_mono (Sub.refl _) fr3))
    · subst e9; rw [exB_err] at hm
      have G5 := G1.step g2
      obtain rfl : Except.error _ = r := Option.some.inj hm
      exact qe _ rfl _ _ G5
  · subst e9; rw [exB_err] at hm
    have G6 := G0.step g1
    obtain rfl : Except.error _ = r := Option.some.inj hm
    exact qe _ rfl _ _ G6

abbrev N_figures_text : List Str := ["figures", "figure"]
theorem sc_figures_text : FnScope N_figures_text ["figures"] (defScope s_figures_text) := ⟨rfl, rfl, rfl, by decide +kernel, rfl, by decide +kernel, by decide +kernel⟩
def sp_figures_text : Sp := fun vs H Q _ => ∃ (F : Hp) (v_figures : V) (figures : (List Int)) (r : Str), vs = [v_figures] ∧ Sub F H ∧ R F v_figures figures ∧ figures_text figures = some r ∧ ∀ N H2 v, Gr NA F H N H2 → R N v r → Q v H2
theorem ok_figures_text {P : Program} {w : World} {K : PySem.W.Frag} {mg : Str → Option Value} {base : Heap} (T : Txt K mg) : FnOk P w K mg base CX0 1 T.f_figures_text.f T.f_figures_text.fd ["figures"] sp_figures_text := by
  have nd := (sc_figures_text).nd
  refine T.f_figures_text.F.ok sc_figures_text (fun vs H Q E h => ?_) (fun cdv A0 outer s H vs Q E hr h => ?_)
  · obtain ⟨_, _, _, _, rfl, _⟩ := h
    rfl
  obtain ⟨F0, v_figures, figures, r, rfl, s0, f_figures, hm, q⟩ := h
  have G0 : Gr NA F0 H F0 H := Gr.refl s0
  obtain ⟨a1, us1, rfl, fa1, fr1⟩ := lst_of f_figures
  refine ⟨_, (pss_one (ps_ret (pe_join pe_str (pe_lc (own := [("figure", 1)]) (g := (gName 1)) rfl nd (pi_list (pv 0)) (blkOk_by (own := [("figure", 1)]) (N := N_figures_text) (sc := defScope s_figures_text) (by decide +kernel)) (fun _ _ _ _ _ => pg_name (i := 1) nd rfl (Or.inl rfl)) (fun _ _ _ _ _ => pts_nil) (fun _ _ _ _ _ => (pe_ix (r := rIxS) ix_str (pe_glob (v := .str ("0123456789abcdef" : Str)) rfl T.c_SIGNS.g ⟨_, rfl⟩) (pv 1) (fun _ _ => rfl))))))), ?_⟩
  refine x_start (σ' := ([some (.ref a1), none] : L2.St)) (by with_unfolding_all rfl) ?_
  rw [figures_text] at hm
  with_reducible refine x_ret ?_
  with_reducible refine x_m1 ?_
  with_reducible refine x_c ?_
  refine ⟨⟨_, rfl⟩, ?_⟩
  with_reducible refine x_lc ?_
  with_reducible refine x_iter ?_
  refine ⟨_, rfl, ?_⟩
  refine ⟨_, rfl, ⟨_, .inl (.inl (G0.sub _ _ fa1))⟩, fun p1 np1 => ?_⟩
  have g1 := Gr.newO (o := .lst []) G0.sub np1
  have o1 := Ow.new (us := []) G0 np1
  have G1 := G0.step g1
  refine lc_lst (α := Int) (fun (ts1 : List Int) H1 => ∃ (F1 : Hp) (x2 : List Str) (us3 : List V), forK (figures_text_c1) ts1 x2 (figures_text_k2) = some r ∧ Sub (F0) F1 ∧ Gr NA F0 H F1 H1 ∧ Ow H F1 H1 p1 us3 ∧ Rs F1 us3 x2) (Rs_mono (Sub.refl _) fr1) ⟨F0, ([] : List Str), _, hm, (Sub.refl _), G1, o1, Rs_nil⟩ (fun _ _ h => ?_) (fun t1 ts2 v1 H1 hv1 hW => ?_) (fun H1 hW => ?_)
  · obtain ⟨F9z, _, _, _, s9z, G9z, _⟩ := h
    exact G9z.sub _ _ (s9z _ _ ((Sub.refl _) _ _ fa1))
  · skip
    obtain ⟨F1, x2, us3, hm, s1, G2, o2, fr2⟩ := hW
    obtain ⟨next1, hnx1⟩ : ∃ nx, nx = fun s => forK (figures_text_c1) ts2 s (figures_text_k2) := ⟨_, rfl⟩
    have hm : (figures_text_c1) x2 t1 next1 = some r := by rw [hnx1]; exact forK_c hm
    rw [figures_text_c1] at hm
    obtain rfl := int_of hv1
    with_reducible refine x_gnE (σ' := ([some (.ref a1), some (.int t1)] : L2.St)) (by with_unfolding_all rfl) ?_
    refine ⟨rfl, ?_⟩
    with_reducible refine x_yes ?_
    refine iteT ?_
    with_reducible refine x_op ?_
    with_reducible refine x_c ?_
    refine ⟨_, rfl, ?_⟩
    obtain ⟨c1, hm⟩ := guardp hm
    obtain ⟨x3, hx1, hm⟩ := bindp hm
    refine ixS_of c1 hx1 ?_
    obtain ⟨c2, hm⟩ := guardp hm
    have G3 := o2.mutG (o := .lst (us3 ++ [(.str (⟨#[x3]⟩ : Str))])) G2
    have o3 := o2.mut (ws := us3 ++ [(.str (⟨#[x3]⟩ : Str))])
    have fr3 : Rs (α := Str) (F1) (us3 ++ [(.str (⟨#[x3]⟩ : Str))]) (x2 ++ [(⟨#[x3]⟩ : Str)]) := Rs_snoc fr2 (.str _)
    rw [hnx1] at hm
    exact ⟨_, o2.at_, szl (by rw [Rs_len fr2]; exact c2), ⟨F1, (x2 ++ [(⟨#[x3]⟩ : Str)]), _, hm, s1, G3, o3, fr3⟩⟩
  · skip
    obtain ⟨F1, x2, us3, hm, s2, G4, o4, fr4⟩ := hW
    have hm : (figures_text_k2) x2 = some r := forK_n hm
    rw [figures_text_k2] at hm
    obtain ⟨c3, hm⟩ := guardp hm
    refine ⟨_, _, _, rfl, rfl, .inl (.inl (.inl (join_at o4.at_ fr4))), c3, ?_⟩
    obtain rfl : _ = r := Option.some.inj hm
    exact q _ _ _ G4 (.str _)

abbrev N_show_number : List Str := ["base", "n"]
theorem sc_show_number : FnScope N_show_number ["base", "n"] (defScope s_show_number) := ⟨rfl, rfl, rfl, by decide +kernel, rfl, by decide +kernel, by decide +kernel⟩
def sp_show_number : Sp := fun vs H Q E => ∃ (F : Hp) (v_base : V) (v_n : V) (base : PyData) (n : PyData) (r : (Except Er Str)), vs = [v_base, v_n] ∧ Sub F H ∧ R F v_base base ∧ R F v_n n ∧ show_number base n = some r ∧ (∀ x9, r = .ok x9 → ∀ N H2 v, Gr NA F H N H2 → R N v x9 → Q v H2) ∧ ∀ e9, r = .error e9 → ∀ N H2, Gr NA F H N H2 → E (.ref (ErT.ad e9)) none H2
theorem ok_show_number {P : Program} {w : World} {K : PySem.W.Frag} {mg : Str → Option Value} {base : Heap} (T : Txt K mg) : FnOk P w K mg base (L2.CX P w) 5 T.f_show_number.f T.f_show_number.fd ["base", "n"] sp_show_number := by
  have nd := (sc_show_number).nd
  refine T.f_show_number.F.okX sc_show_number (fun vs H Q E h => ?_) (fun cdv A0 outer s H vs Q E hr h => ?_)
  · obtain ⟨_, _, _, _, _, _, rfl, _⟩ := h
    rfl
  obtain ⟨F0, v_base, v_n, base, n, r, rfl, s0, f_base, f_n, hm, q, qe⟩ := h
  have G0 : Gr NA F0 H F0 H := Gr.refl s0
  refine ⟨_, (pss_one (ps_ret (pe_call (ok_figures_text T) (hr.mono (by decide)) (by rfl) T.f_figures_text.g T.f_figures_text.F.kp T.f_figures_text.b .nil pass0 (pa_cons (pe_callS (ok_figures_of T) (hr.mono (by decide)) (by rfl) T.f_figures_of.g T.f_figures_of.F.kp T.f_figures_of.b (fun σ => passAt (takes_of rfl rfl rfl rfl) σ) (pa_cons (pv 0) (pa_cons (pv 1) pa_nil))) pa_nil)))), ?_⟩
  refine x_start (σ' := ([some v_base, some v_n] : L2.St)) (by with_unfolding_all rfl) ?_
  rw [show_number] at hm
  with_reducible refine x_ret ?_
  with_reducible refine x_call ?_
  with_reducible refine x_cons ?_
  with_reducible refine x_callS ?_
  with_reducible refine x_cons ?_
  refine ⟨_, rfl, ?_⟩
  with_reducible refine x_cons ?_
  refine ⟨_, rfl, ?_⟩
  obtain ⟨r1, hr1, hm⟩ := bindp hm
  refine ⟨_, _, _, base, n, r1, rfl, G0.sub, (RD.mono (Sub.refl _) f_base), (RD.mono (Sub.refl _) f_n), hr1, fun y1 e9 N1 H1 v1 g1 d1 => ?_, fun er1 e9 N1 H1 g1 => ?_⟩
  · subst e9; rw [exB_ok] at hm
    have G1 := G0.step g1
    obtain ⟨a1, us1, rfl, fa1, fr1⟩ := lst_of d1
    obtain ⟨r2, hr2, hm⟩ := bindp hm
    refine ⟨_, _, y1, r2, rfl, G1.sub, (mk_lst ((Sub.refl _) _ _ fa1) (Rs_mono (Sub.refl _) fr1)), hr2, fun N2 H2 v2 g2 d2  => ?_⟩
    have G2 := G1.step g2
    obtain rfl := str_of d2
    obtain rfl : Except.ok _ = r := Option.some.inj hm
    exact q _ rfl _ _ _ G2 (.str _)
  · subst e9; rw [exB_err] at hm
    have G3 := G0.step g1
    obtain rfl : Except.error _ = r := Option.some.inj hm
    exact qe _ rfl _ _ G3

abbrev N_show_rule : List Str := ["rule", "stretch"]
theorem sc_show_rule : FnScope N_show_rule ["rule"] (defScope s_show_rule) := ⟨rfl, rfl, rfl, by decide +kernel, rfl, by decide +kernel, by decide +kernel⟩
def sp_show_rule : Sp := fun vs H Q E => ∃ (F : Hp) (v_rule : V) (rule : PyData) (r : (Except Er Str)), vs = [v_rule] ∧ Sub F H ∧ R F v_rule rule ∧ show_rule rule = some r ∧ (∀ x9, r = .ok x9 → ∀ N H2 v, Gr NA F H N H2 → R N v x9 → Q v H2) ∧ ∀ e9, r = .error e9 → ∀ N H2, Gr NA F H N H2 → E (.ref (ErT.ad e9)) none H2
theorem ok_show_rule {P : Program} {w : World} {K : PySem.W.Frag} {mg : Str → Option Value} {base : Heap} (T : Txt K mg) : FnOk P w K mg base (L2.CX P w) 6 T.f_show_rule.f T.f_show_rule.fd ["rule"] sp_show_rule := by
  have nd := (sc_show_rule).nd
  refine T.f_show_rule.F.okX sc_show_rule (fun vs H Q E h => ?_) (fun cdv A0 outer s H vs Q E hr h => ?_)
  · obtain ⟨_, _, _, _, rfl, _⟩ := h
    rfl
  obtain ⟨F0, v_rule, rule, r, rfl, s0, f_rule, hm, q, qe⟩ := h
  have G0 : Gr NA F0 H F0 H := Gr.refl s0
  refine ⟨_, (pss_cons (ps_if (pt_not (pt_val (pe_call (ok_is_rule T) (hr.mono (by decide)) (by rfl) T.f_is_rule.g T.f_is_rule.F.kp T.f_is_rule.b .nil pass0 (pa_cons (pv 0) pa_nil)))) (pss_one (ps_raiseE rfl (takes_of rfl rfl rfl rfl) (T.er.r .NoRule) (by rfl))) pss_nil) (pss_one (ps_ret (pe_join pe_str (pe_op op_cat (pe_lst (pa_cons (pe_callTy call_str_int (by rfl) T.z_str (by decide +kernel) (pa_cons (pe_ix (r := rIx K) ix_seq (pv 0) pe_int (fun _ _ => rfl)) pa_nil)) pa_nil)) (pe_lc (own := [("stretch", 1)]) (g := (gName 1)) rfl nd (pi_list (pe_ix (r := rIx K) ix_seq (pv 0) pe_int (fun _ _ => rfl))) (blkOk_by (own := [("stretch", 1)]) (N := N_show_rule) (sc := defScope s_show_rule) (by decide +kernel)) (fun _ _ _ _ _ => pg_name (i := 1) nd rfl (Or.inl rfl)) (fun _ _ _ _ _ => pts_nil) (fun _ _ _ _ _ => (pe_call (ok_figures_text T) (hr.mono (by decide)) (by rfl) T.f_figures_text.g T.f_figures_text.F.kp T.f_figures_text.b .nil pass0 (pa_cons (pv 1) pa_nil))))))))), ?_⟩
  refine x_start (σ' := ([some v_rule, none] : L2.St)) (by with_unfolding_all rfl) ?_
  rw [show_rule] at hm
  with_reducible refine x_seq ?_
  with_reducible refine x_if ?_
  with_reducible refine x_not ?_
  with_reducible refine x_B ?_
  with_reducible refine x_call ?_
  with_reducible refine x_cons ?_
  refine ⟨_, rfl, ?_⟩
  obtain ⟨r1, hr1, hm⟩ := bindp hm
  refine ⟨_, _, rule, r1, rfl, G0.sub, (RD.mono (Sub.refl _) f_rule), hr1, fun N1 H1 v1 g1 d1  => ?_⟩
  have G1 := G0.step g1
  obtain rfl := bl_of d1
  refine ⟨_, rfl, ?_⟩
  refine ifD (fun hc => ?_) (fun hc => ?_)
  · replace hm := itep hm hc
    obtain rfl : Except.error _ = r := Option.some.inj hm
    exact qe _ rfl _ _ G1
  · replace hm := iten hm (bF hc)
    with_reducible refine x_next ?_
    with_reducible refine x_ret ?_
    with_reducible refine x_m1 ?_
    with_reducible refine x_c ?_
    refine ⟨⟨_, rfl⟩, ?_⟩
    with_reducible refine x_op ?_
    with_reducible refine x_lst ?_
    with_reducible refine x_cons ?_
    with_reducible refine x_cb ?_
    with_reducible refine x_cons ?_
    with_reducible refine x_op ?_
    refine ⟨_, rfl, ?_⟩
    with_reducible refine x_c ?_
    obtain ⟨x1, hx1, hm⟩ := bindp hm
    obtain ⟨x2, hx2, hm⟩ := bindp hm
    obtain ⟨v2, d2, kq1⟩ := ixD (K := K) G1.sub (RD.mono g1.ex f_rule) hx1 hx2
    refine kq1 _ ?_
    obtain ⟨x3, hx3, hm⟩ := bindp hm
    obtain rfl := asInt_of (RD.mono (Sub.refl _) d2) hx3
    obtain ⟨c1, hm⟩ := guardp hm
    refine ⟨_, rfl, c1, ?_⟩
    refine ⟨szle (show 1 ≤ 16777216 from by decide), fun p1 np1 => ?_⟩
    have fr1 : Rs (α := Str) (N1) [(.str (Str.ofString (toString x3)))] ([(Str.ofString (toString x3))] : (List Str)) := (Rs_cons (.str _) Rs_nil)
    have g2 := Gr.newO (o := .lst [(.str (Str.ofString (toString x3)))]) G1.sub np1
    have o1 := Ow.new (us := [(.str (Str.ofString (toString x3)))]) G1 np1
    have G2 := G1.step g2
    with_reducible refine x_lc ?_
    with_reducible refine x_iter ?_
    with_reducible refine x_op ?_
    refine ⟨_, rfl, ?_⟩
    with_reducible refine x_c ?_
    obtain ⟨x4, hx4, hm⟩ := bindp hm
    obtain ⟨x5, hx5, hm⟩ := bindp hm
    obtain ⟨v3, d3, kq2⟩ := ixD (K := K) G2.sub (RD.mono g1.ex f_rule) hx4 hx5
    refine kq2 _ ?_
    obtain ⟨x6, hx6, hm⟩ := bindp hm
    have d4 : R (N1) v3 x6 := asLst_of (RD.mono (Sub.refl _) d3) hx6
    obtain ⟨a1, us1, rfl, fa1, fr2⟩ := lst_of d4
    refine ⟨_, rfl, ⟨_, .inl (.inl (G2.sub _ _ fa1))⟩, fun p2 np2 => ?_⟩
    have g3 := Gr.newO (o := .lst []) G2.sub np2
    have o2 := Ow.new (us := []) G2 np2
    have ne1 := o1.ne_new np2
    have G3 := G2.step g3
    have o3 := o1.step g3
    refine lc_lst (α := PyData) (fun (ts1 : List PyData) H2 => ∃ (F1 : Hp) (x8 : List Str) (us3 : List V), forK (show_rule_c1) ts1 x8 (show_rule_k2 x3) = some r ∧ Sub (N1) F1 ∧ Gr NA F0 H F1 H2 ∧ Ow H F1 H2 p2 us3 ∧ Rs F1 us3 x8 ∧ Ow H F1 H2 p1 [(.str (Str.ofString (toString x3)))]) (Rs_mono (Sub.refl _) fr2) ⟨N1, ([] : List Str), _, hm, (Sub.refl _), G3, o2, Rs_nil, o3⟩ (fun _ _ h => ?_) (fun t1 ts2 v4 H1 hv1 hW => ?_) (fun H1 hW => ?_)
    · obtain ⟨F9z, _, _, _, s9z, G9z, _⟩ := h
      exact G9z.sub _ _ (s9z _ _ ((Sub.refl _) _ _ fa1))
    · skip
      obtain ⟨F1, x8, us3, hm, s1, G4, o4, fr3, o5⟩ := hW
      obtain ⟨next1, hnx1⟩ : ∃ nx, nx = fun s => forK (show_rule_c1) ts2 s (show_rule_k2 x3) := ⟨_, rfl⟩
      have hm : (show_rule_c1) x8 t1 next1 = some r := by rw [hnx1]; exact forK_c hm
      rw [show_rule_c1] at hm
      with_reducible refine x_gnE (σ' := ([some v_rule, some v4] : L2.St)) (by with_unfolding_all rfl) ?_
      refine ⟨rfl, ?_⟩
      with_reducible refine x_yes ?_
      refine iteT ?_
      with_reducible refine x_call ?_
      with_reducible refine x_cons ?_
      refine ⟨_, rfl, ?_⟩
      obtain ⟨x9, hx7, hm⟩ := bindp hm
      have d5 : R (F1) v4 x9 := un_of (RD.mono s1 hv1) hx7
      obtain ⟨a2, us4, rfl, fa2, fr4⟩ := lst_of d5
      obtain ⟨r2, hr2, hm⟩ := bindp hm
      refine ⟨_, _, x9, r2, rfl, G4.sub, (mk_lst ((Sub.refl _) _ _ fa2) (Rs_mono (Sub.refl _) fr4)), hr2, fun N2 H3 v5 g4 d6  => ?_⟩
      have G5 := G4.step g4
      have o6 := o4.step g4
      have o7 := o5.step g4
      obtain rfl := str_of d6
      obtain ⟨c2, hm⟩ := guardp hm
      have G6 := o6.mutG (o := .lst (us3 ++ [(.str r2)])) G5
      have o8 := o6.mut (ws := us3 ++ [(.str r2)])
      have fr5 : Rs (α := Str) (N2) (us3 ++ [(.str r2)]) (x8 ++ [r2]) := Rs_snoc (Rs_mono g4.ex fr3) (.str _)
      have o9 := o7.other (ws := us3 ++ [(.str r2)]) (Ne.symm ne1)
      rw [hnx1] at hm
      exact ⟨_, o6.at_, szl (by rw [Rs_len (Rs_mono g4.ex fr3)]; exact c2), ⟨N2, (x8 ++ [r2]), _, hm, (s1.trans g4.ex), G6, o8, fr5, o9⟩⟩
    · skip
      obtain ⟨F1, x8, us3, hm, s2, G7, o10, fr6, o11⟩ := hW
      have hm : (show_rule_k2 x3) x8 = some r := forK_n hm
      rw [show_rule_k2] at hm
      obtain ⟨c3, hm⟩ := guardp hm
      refine ⟨_, _, _, _, rfl, rfl, o11.at_, o10.at_, szle (by rw [Rs_len (Rs_mono s2 fr1), Rs_len fr6]; exact c3), fun p3 np3 => ?_⟩
      have fr7 : Rs (α := Str) (F1) ([(.str (Str.ofString (toString x3)))] ++ us3) (([(Str.ofString (toString x3))] : (List Str)) ++ x8) := Rs_app (Rs_mono s2 fr1) fr6
      have g5 := Gr.newO (o := .lst ([(.str (Str.ofString (toString x3)))] ++ us3)) G7.sub np3
      have o12 := Ow.new (us := ([(.str (Str.ofString (toString x3)))] ++ us3)) G7 np3
      have G8 := G7.step g5
      obtain ⟨c4, hm⟩ := guardp hm
      refine ⟨_, _, _, rfl, rfl, .inl (.inl (.inl (join_at o12.at_ fr7))), c4, ?_⟩
      obtain rfl : Except.ok _ = r := Option.some.inj hm
      exact q _ rfl _ _ _ G8 (.str _)

abbrev N__law_asked : List Str := ["ask", "base", "thing", "found", "e", "kinds", "others"]
theorem sc__law_asked : FnScope N__law_asked ["ask", "base", "thing"] (defScope s__law_asked) := ⟨rfl, rfl, rfl, by decide +kernel, rfl, by decide +kernel, by decide +kernel⟩
def sp__law_asked : Sp := fun vs H Q _ => ∃ (F : Hp) (v_ask : V) (v_base : V) (v_thing : V) (ask : Int) (base : PyData) (thing : PyData) (r : (List PyData)), vs = [v_ask, v_base, v_thing] ∧ Sub F H ∧ R F v_ask ask ∧ R F v_base base ∧ R F v_thing thing ∧ _law_asked ask base thing = some r ∧ ∀ N H2 v, Gr NA F H N H2 → R N v r → Q v H2
theorem ok__law_asked {P : Program} {w : World} {K : PySem.W.Frag} {mg : Str → Option Value} {base : Heap} (T : Txt K mg) : FnOk P w K mg base CX0 7 T.f__law_asked.f T.f__law_asked.fd ["ask", "base", "thing"] sp__law_asked := by
  have nd := (sc__law_asked).nd
  refine T.f__law_asked.F.ok sc__law_asked (fun vs H Q E h => ?_) (fun cdv A0 outer s H vs Q E hr h => ?_)
  · obtain ⟨_, _, _, _, _, _, _, _, rfl, _⟩ := h
    rfl
  obtain ⟨F0, v_ask, v_base, v_thing, ask, base, thing, r, rfl, s0, f_ask, f_base, f_thing, hm, q⟩ := h
  have G0 : Gr NA F0 H F0 H := Gr.refl s0
  obtain rfl := int_of f_ask
  refine ⟨_, (pss_cons (ps_set (i := 3) nd rfl (by first | exact Or.inl rfl | exact Or.inr rfl) (pe_lst (pa_cons pe_bl (pa_cons pe_non pa_nil)))) (pss_cons (ps_try_keep (i := 4) (L := .ref ErT.lack) rfl rfl nd rfl rfl ⟨by rfl, by decide, Or.inl T.er.lg⟩ (fun W pn xe tk _ => (pss_one (ps_if (pt_cmp (pc_eqI (pv 0) pe_int)) (pss_one (ps_asg (pe_callS (ok_read_rule T) (hr.mono (by decide)) (by rfl) T.f_read_rule.g T.f_read_rule.F.kp T.f_read_rule.b (fun σ => passAt tk σ) (pa_cons (pv 2) pa_nil)) (pg_sub (pv 3) pe_int set_list))) (pss_one (ps_if (pt_cmp (pc_eqI (pv 0) pe_int)) (pss_one (ps_asg (pe_callS (ok_read_number T) (hr.mono (by decide)) (by rfl) T.f_read_number.g T.f_read_number.F.kp T.f_read_number.b (fun σ => passAt tk σ) (pa_cons (pv 1) (pa_cons (pv 2) pa_nil))) (pg_sub (pv 3) pe_int set_list))) (pss_one (ps_if (pt_cmp (pc_eqI (pv 0) pe_int)) (pss_one (ps_asg (pe_callS (ok_show_rule T) (hr.mono (by decide)) (by rfl) T.f_show_rule.g T.f_show_rule.F.kp T.f_show_rule.b (fun σ => passAt tk σ) (pa_cons (pv 2) pa_nil)) (pg_sub (pv 3) pe_int set_list))) (pss_one (ps_asg (pe_callS (ok_show_number T) (hr.mono (by decide)) (by rfl) T.f_show_number.g T.f_show_number.F.kp T.f_show_number.b (fun σ => passAt tk σ) (pa_cons (pv 1) (pa_cons (pv 2) pa_nil))) (pg_sub (pv 3) pe_int set_list)))))))))) (fun a9 pn => (pss_cons (ps_set (i := 5) nd rfl (by first | exact Or.inl rfl | exact Or.inr rfl) (pe_lst (pa_cons (pe_callB (r := rIsX K) call_isX (by rfl) T.z_isinstance (by decide +kernel) (pa_cons (pv 4) (pa_cons (pe_glob (v := .ref (ErT.ad .NoText)) (by rfl) (T.er.r .NoText).g rfl) pa_nil))) (pa_cons (pe_callB (r := rIsX K) call_isX (by rfl) T.z_isinstance (by decide +kernel) (pa_cons (pv 4) (pa_cons (pe_glob (v := .ref (ErT.ad .NoRule)) (by rfl) (T.er.r .NoRule).g rfl) pa_nil))) pa_nil)))) (pss_cons (ps_set (i := 5) nd rfl (by first | exact Or.inl rfl | exact Or.inr rfl) (pe_op op_cat (pv 5) (pe_lst (pa_cons (pe_callB (r := rIsX K) call_isX (by rfl) T.z_isinstance (by decide +kernel) (pa_cons (pv 4) (pa_cons (pe_glob (v := .ref (ErT.ad .NoBase)) (by rfl) (T.er.r .NoBase).g rfl) pa_nil))) (pa_cons (pe_callB (r := rIsX K) call_isX (by rfl) T.z_isinstance (by decide +kernel) (pa_cons (pv 4) (pa_cons (pe_glob (v := .ref (ErT.ad .NoNumber)) (by rfl) (T.er.r .NoNumber).g rfl) pa_nil))) pa_nil))))) (pss_cons (ps_set (i := 6) nd rfl (by first | exact Or.inl rfl | exact Or.inr rfl) (pe_callB (r := rIsXT K) call_isXT (by rfl) T.z_isinstance (by decide +kernel) (pa_cons (pv 4) (pa_cons (pe_tup (pa_cons (pe_glob (v := .ref (ErT.ad .Endless)) (by rfl) (T.er.r .Endless).g rfl) (pa_cons (pe_glob (v := .ref (ErT.ad .NoFigures)) (by rfl) (T.er.r .NoFigures).g rfl) (pa_cons (pe_glob (v := .ref (ErT.ad .NoGood)) (by rfl) (T.er.r .NoGood).g rfl) (pa_cons (pe_glob (v := .ref (ErT.ad .NoName)) (by rfl) (T.er.r .NoName).g rfl) (pa_cons (pe_glob (v := .ref (ErT.ad .NoRow)) (by rfl) (T.er.r .NoRow).g rfl) pa_nil)))))) pa_nil)))) (pss_cons (ps_set (i := 6) nd rfl (by first | exact Or.inl rfl | exact Or.inr rfl) (pe_or (pv 6) (pe_one (pe_callB (r := rIsXT K) call_isXT (by rfl) T.z_isinstance (by decide +kernel) (pa_cons (pv 4) (pa_cons (pe_tup (pa_cons (pe_glob (v := .ref (ErT.ad .NoRules)) (by rfl) (T.er.r .NoRules).g rfl) (pa_cons (pe_glob (v := .ref (ErT.ad .NoStand)) (by rfl) (T.er.r .NoStand).g rfl) (pa_cons (pe_glob (v := .ref (ErT.ad .NoStretch)) (by rfl) (T.er.r .NoStretch).g rfl) (pa_cons (pe_glob (v := .ref (ErT.ad .TooMany)) (by rfl) (T.er.r .TooMany).g rfl) pa_nil))))) pa_nil)))))) (pss_cons (ps_set (i := 3) nd rfl (by first | exact Or.inl rfl | exact Or.inr rfl) (pe_lst (pa_cons pe_bl (pa_cons pe_str pa_nil)))) (pss_one (ps_if (PW.pt (pw_and (pt_val (pe_callB (r := rIsX K) call_isX (by rfl) T.z_isinstance (by decide +kernel) (pa_cons (pv 4) (pa_cons (pe_bltn (v := .ty "ValueError") (by rfl) T.z_ValueError (by decide +kernel) rfl) pa_nil)))) (pw_and (pt_not (pt_val (pv 6))) (pw_and1 (pt_cmp (pc_eqI (pe_bmK (K := K) rfl PySem.F.plainAttrs_list PySem.F.slot_list_count PySem.F.type_list_count (mt_countP (α := Bool) (by decide) (hu65m hr)) (pv 5) (pa_cons pe_bl pa_nil)) pe_int)))))) (pss_one (ps_set (i := 3) nd rfl (by first | exact Or.inl rfl | exact Or.inr rfl) (pe_lst (pa_cons pe_bl (pa_cons (pe_ix (r := rIxL K) ix_list (pe_lst (pa_cons pe_str (pa_cons pe_str (pa_cons pe_str (pa_cons pe_str pa_nil))))) (pe_bmK (K := K) rfl PySem.F.plainAttrs_list PySem.F.slot_list_index PySem.F.type_list_index (mt_index : MtR _ "list.index" (rIndex K)) (pv 5) (pa_cons pe_bl pa_nil)) (fun _ _ => rfl)) pa_nil))))) pss_nil))))))))) (pss_one (ps_ret (pv 3))))), ?_⟩
  refine x_start (σ' := ([some (.int ask), some v_base, some v_thing, none, none, none, none] : L2.St)) (by with_unfolding_all rfl) ?_
  rw [_law_asked] at hm
  with_reducible refine x_seq ?_
  with_reducible refine x_asg ?_
  with_reducible refine x_lst ?_
  with_reducible refine x_cons ?_
  with_reducible refine x_c ?_
  have d1 : R (α := PyData) (F0) (.bl false) (PyData.bool false) := (.bl _)
  with_reducible refine x_cons ?_
  with_reducible refine x_c ?_
  have d2 : R (α := PyData) (F0) .non PyData.none := .non
  refine ⟨szle (show 2 ≤ 16777216 from by decide), fun p1 np1 => ?_⟩
  have fr1 : Rs (α := PyData) (F0) [(.bl false), .non] ([(PyData.bool false), PyData.none] : (List PyData)) := (Rs_cons (RD.mono (Sub.refl _) d1) (Rs_cons (RD.mono (Sub.refl _) d2) Rs_nil))
  have g1 := Gr.newO (o := .lst [(.bl false), .non]) G0.sub np1
  have o1 := Ow.new (us := [(.bl false), .non]) G0 np1
  have G1 := G0.step g1
  with_reducible refine x_gnE (σ' := ([some (.int ask), some v_base, some v_thing, some (.ref p1), none, none, none] : L2.St)) (by with_unfolding_all rfl) ?_
  with_reducible refine x_seq ?_
  with_reducible refine x_if ?_
  with_reducible refine x_B ?_
  refine useEv (.bl (decide (ask = (0 : Int)))) (by exact (ev_cmp (Evl.ev_var rfl) Evl.ev_c)) (fun H1 e1 => ?_)
  have g2 := gr_ex G1.sub e1
  have G2 := G1.step g2
  have o2 := o1.step g2
  refine ⟨_, rfl, ?_⟩
  refine ifD (fun hc => ?_) (fun hc => ?_)
  · replace hm := itep hm hc
    with_reducible refine x_asg ?_
    with_reducible refine x_callS ?_
    with_reducible refine x_cons ?_
    refine ⟨_, rfl, ?_⟩
    obtain ⟨r1, hr1, hm⟩ := bindp hm
    refine ⟨_, _, thing, r1, rfl, G2.sub, (RD.mono (Sub.refl _) f_thing), hr1, fun y1 e9 N1 H2 v1 g3 d3 => ?_, fun er1 e9 N1 H2 g3 => ?_⟩
    · subst e9; rw [exB_ok] at hm
      have G3 := G2.step g3
      have o3 := o2.step g3
      obtain ⟨a1, v2, v3, rfl, fa1, d4, d5⟩ := tup2_of d3
      obtain rfl := int_of d4
      obtain ⟨a2, us1, rfl, fa2, fr2⟩ := lst_of d5
      refine ⟨_, rfl, ?_⟩
      with_reducible refine x_c ?_
      have d6 : R (α := PyData) (N1) (.ref a1) (PyData.tuple [(PyData.int (y1).1), (PyData.list ((y1).2.map fun z => (PyData.list (z.map fun z => (PyData.int z)))))]) := (.tup ((Sub.refl _) _ _ fa1) (.cons (.int _) (.cons (mk_lst ((Sub.refl _) _ _ fa2) (Rs_mono (Sub.refl _) fr2)) .nil)))
      obtain ⟨j1, hj1, hm⟩ := bindp hm
      refine ⟨_, _, _, _, rfl, rfl, o3.at_, (by rw [Rs_len (Rs_mono g3.ex fr1)]; exact hj1), ?_⟩
      have G4 := o3.mutG (o := .lst ([(.bl false), .non].set j1 (.ref a1))) G3
      have o4 := o3.mut (ws := [(.bl false), .non].set j1 (.ref a1))
      have fr3 : Rs (α := PyData) (N1) ([(.bl false), .non].set j1 (.ref a1)) (([(PyData.bool false), PyData.none] : (List PyData)).set j1 (PyData.tuple [(PyData.int (y1).1), (PyData.list ((y1).2.map fun z => (PyData.list (z.map fun z => (PyData.int z)))))])) := Rs_set (Rs_mono g3.ex fr1) (RD.mono (Sub.refl _) d6)
      with_reducible refine x_ret ?_
      refine ⟨_, rfl, ?_⟩
      obtain ⟨F1, G5, ex1, fa3, nf1⟩ := o4.frzE G4
      have fr4 := Rs_mono ex1 fr3
      obtain rfl : _ = r := Option.some.inj hm
      exact q _ _ _ G5 (mk_lst ((Sub.refl _) _ _ fa3) (Rs_mono (Sub.refl _) fr4))
    · subst e9; rw [exB_err] at hm
      have G6 := G2.step g3
      have o5 := o2.step g3
      refine x_keep T.er (fun a3 na1 => ?_)
      obtain ⟨F2, g4, fa4⟩ := Gr.newE (o := EV (ErT.ad er1) a3) G6.sub na1
      have G7 := G6.step g4
      have o6 := o5.step g4
      have d7 : RX F2 (.ref a3) (some er1) := ⟨_, rfl, fa4⟩
      refine x_stE (σ' := ([some (.int ask), some v_base, some v_thing, some (.ref p1), some (.ref a3), none, none] : L2.St)) (by with_unfolding_all rfl) ?_
      with_reducible refine x_seq ?_
      with_reducible refine x_asg ?_
      with_reducible refine x_lst ?_
      with_reducible refine x_cons ?_
      with_reducible refine x_cb ?_
      with_reducible refine x_cons ?_
      refine ⟨_, rfl, ?_⟩
      with_reducible refine x_cons ?_
      with_reducible refine x_c ?_
      with_reducible refine x_nil ?_
      refine isiX_er T.er G7.sub (RX.mono (Sub.refl _) d7) .NoText ?_
      with_reducible refine x_cons ?_
      with_reducible refine x_cb ?_
      with_reducible refine x_cons ?_
      refine ⟨_, rfl, ?_⟩
      with_reducible refine x_cons ?_
      with_reducible refine x_c ?_
      with_reducible refine x_nil ?_
      refine isiX_er T.er G7.sub (RX.mono (Sub.refl _) d7) .NoRule ?_
      refine ⟨szle (show 2 ≤ 16777216 from by decide), fun p2 np2 => ?_⟩
      have fr5 : Rs (α := Bool) (F2) [(.bl (decide ((some er1) = some .NoText))), (.bl (decide ((some er1) = some .NoRule)))] ([(decide ((some er1) = some .NoText)), (decide ((some er1) = some .NoRule))] : (List Bool)) := (Rs_cons (.bl _) (Rs_cons (.bl _) Rs_nil))
      have g5 := Gr.newO (o := .lst [(.bl (decide ((some er1) = some .NoText))), (.bl (decide ((some er1) = some .NoRule)))]) G7.sub np2
      have o7 := Ow.new (us := [(.bl (decide ((some er1) = some .NoText))), (.bl (decide ((some er1) = some .NoRule)))]) G7 np2
      have ne1 := o6.ne_new np2
      have G8 := G7.step g5
      have o8 := o6.step g5
      obtain ⟨F3, G9, ex2, fa5, nf2⟩ := o7.frzE G8
      have o9 := o8.frzN (Ne.symm (Ne.symm ne1)) nf2
      have fr6 := Rs_mono ex2 fr5
      with_reducible refine x_gnE (σ' := ([some (.int ask), some v_base, some v_thing, some (.ref p1), some (.ref a3), some (.ref p2), none] : L2.St)) (by with_unfolding_all rfl) ?_
      with_reducible refine x_seq ?_
      with_reducible refine x_asg ?_
      with_reducible refine x_op ?_
      refine ⟨_, rfl, ?_⟩
      with_reducible refine x_lst ?_
      with_reducible refine x_cons ?_
      with_reducible refine x_cb ?_
      with_reducible refine x_cons ?_
      refine ⟨_, rfl, ?_⟩
      with_reducible refine x_cons ?_
      with_reducible refine x_c ?_
      with_reducible refine x_nil ?_
      refine isiX_er T.er G9.sub (RX.mono ex2 d7) .NoBase ?_
      with_reducible refine x_cons ?_
      with_reducible refine x_cb ?_
      with_reducible refine x_cons ?_
      refine ⟨_, rfl, ?_⟩
      with_reducible refine x_cons ?_
      with_reducible refine x_c ?_
      with_reducible refine x_nil ?_
      refine isiX_er T.er G9.sub (RX.mono ex2 d7) .NoNumber ?_
      refine ⟨szle (show 2 ≤ 16777216 from by decide), fun p3 np3 => ?_⟩
      have fr7 : Rs (α := Bool) (F3) [(.bl (decide ((some er1) = some .NoBase))), (.bl (decide ((some er1) = some .NoNumber)))] ([(decide ((some er1) = some .NoBase)), (decide ((some er1) = some .NoNumber))] : (List Bool)) := (Rs_cons (.bl _) (Rs_cons (.bl _) Rs_nil))
      have g6 := Gr.newO (o := .lst [(.bl (decide ((some er1) = some .NoBase))), (.bl (decide ((some er1) = some .NoNumber)))]) G9.sub np3
      have o10 := Ow.new (us := [(.bl (decide ((some er1) = some .NoBase))), (.bl (decide ((some er1) = some .NoNumber)))]) G9 np3
      have ne2 := o9.ne_new np3
      have G10 := G9.step g6
      have o11 := o9.step g6
      obtain ⟨c1, hm⟩ := guardp hm
      refine ⟨_, _, _, _, rfl, rfl, (G10.sub _ _ fa5), o10.at_, szle (by rw [Rs_len (Rs_mono (Sub.refl _) fr6), Rs_len fr7]; exact c1), fun p4 np4 => ?_⟩
      have fr8 : Rs (α := Bool) (F3) ([(.bl (decide ((some er1) = some .NoText))), (.bl (decide ((some er1) = some .NoRule)))] ++ [(.bl (decide ((some er1) = some .NoBase))), (.bl (decide ((some er1) = some .NoNumber)))]) (([(decide ((some er1) = some .NoText)), (decide ((some er1) = some .NoRule))] : (List Bool)) ++ ([(decide ((some er1) = some .NoBase)), (decide ((some er1) = some .NoNumber))] : (List Bool))) := Rs_app (Rs_mono (Sub.refl _) fr6) fr7
      have g7 := Gr.newO (o := .lst ([(.bl (decide ((some er1) = some .NoText))), (.bl (decide ((some er1) = some .NoRule)))] ++ [(.bl (decide ((some er1) = some .NoBase))), (.bl (decide ((some er1) = some .NoNumber)))])) G10.sub np4
      have o12 := Ow.new (us := ([(.bl (decide ((some er1) = some .NoText))), (.bl (decide ((some er1) = some .NoRule)))] ++ [(.bl (decide ((some er1) = some .NoBase))), (.bl (decide ((some er1) = some .NoNumber)))])) G10 np4
      have ne3 := o11.ne_new np4
      have G11 := G10.step g7
      have o13 := o11.step g7
      obtain ⟨F4, G12, ex3, fa6, nf3⟩ := o12.frzE G11
      have o14 := o13.frzN (Ne.symm (Ne.symm ne3)) nf3
      have fr9 := Rs_mono ex3 fr8
      obtain ⟨x1, hx1, hm⟩ := bindp hm
      replace hx1 := Option.some.inj hx1
      have fr10 : Rs (α := Bool) (F4) ([(.bl (decide ((some er1) = some .NoText))), (.bl (decide ((some er1) = some .NoRule)))] ++ [(.bl (decide ((some er1) = some .NoBase))), (.bl (decide ((some er1) = some .NoNumber)))]) x1 := by rw [← hx1]; exact (Rs_mono (Sub.refl _) fr9)
      have fa7 := (Sub.refl _) _ _ fa6
      clear hx1
      with_reducible refine x_gnE (σ' := ([some (.int ask), some v_base, some v_thing, some (.ref p1), some (.ref a3), some (.ref p4), none] : L2.St)) (by with_unfolding_all rfl) ?_
      with_reducible refine x_seq ?_
      with_reducible refine x_asg ?_
      with_reducible refine x_cb ?_
      with_reducible refine x_cons ?_
      refine ⟨_, rfl, ?_⟩
      with_reducible refine x_cons ?_
      with_reducible refine x_tup ?_
      with_reducible refine x_cons ?_
      with_reducible refine x_c ?_
      with_reducible refine x_cons ?_
      with_reducible refine x_c ?_
      with_reducible refine x_cons ?_
      with_reducible refine x_c ?_
      with_reducible refine x_cons ?_
      with_reducible refine x_c ?_
      with_reducible refine x_cons ?_
      with_reducible refine x_c ?_
      with_reducible refine x_nil ?_
      refine ⟨szle (show 5 ≤ 16777216 from by decide), fun p5 np5 => ?_⟩
      have g8 := Gr.newO (o := .tup [.ref (ErT.ad .Endless), .ref (ErT.ad .NoFigures), .ref (ErT.ad .NoGood), .ref (ErT.ad .NoName), .ref (ErT.ad .NoRow)]) G12.sub np5
      have G13 := G12.step g8
      have o15 := o14.step g8
      with_reducible refine x_nil ?_
      refine isiXT_er T.er [.Endless, .NoFigures, .NoGood, .NoName, .NoRow] G13.sub (RX.mono (ex2.trans ex3) d7) upd_same ?_
      with_reducible refine x_gnE (σ' := ([some (.int ask), some v_base, some v_thing, some (.ref p1), some (.ref a3), some (.ref p4), some (.bl (erIn (some er1) [.Endless, .NoFigures, .NoGood, .NoName, .NoRow]))] : L2.St)) (by with_unfolding_all rfl) ?_
      with_reducible refine x_seq ?_
      with_reducible refine x_asg ?_
      with_reducible refine x_orV ?_
      refine ⟨_, rfl, ?_⟩
      refine ⟨_, rfl, ?_⟩
      refine ifD (fun hc => ?_) (fun hc => ?_)
      · replace hm := itep hm hc
        with_reducible refine x_gnE (σ' := ([some (.int ask), some v_base, some v_thing, some (.ref p1), some (.ref a3), some (.ref p4), some (.bl true)] : L2.St)) (by with_unfolding_all rfl) ?_
        with_reducible refine x_seq ?_
        with_reducible refine x_asg ?_
        with_reducible refine x_lst ?_
        with_reducible refine x_cons ?_
        with_reducible refine x_c ?_
        have d8 : R (α := PyData) (F4) (.bl true) (PyData.bool true) := (.bl _)
        with_reducible refine x_cons ?_
        with_reducible refine x_c ?_
        have d9 : R (α := PyData) (F4) (.str ("other" : Str)) (PyData.str ("other" : Str)) := (.str _)
        refine ⟨szle (show 2 ≤ 16777216 from by decide), fun p6 np6 => ?_⟩
        have fr11 : Rs (α := PyData) (F4) [(.bl true), (.str ("other" : Str))] ([(PyData.bool true), (PyData.str ("other" : Str))] : (List PyData)) := (Rs_cons (RD.mono (Sub.refl _) d8) (Rs_cons (RD.mono (Sub.refl _) d9) Rs_nil))
        have g9 := Gr.newO (o := .lst [(.bl true), (.str ("other" : Str))]) G13.sub np6
        have o16 := Ow.new (us := [(.bl true), (.str ("other" : Str))]) G13 np6
        have ne4 := o15.ne_new np6
        have G14 := G13.step g9
        have o17 := o15.step g9
        with_reducible refine x_gnE (σ' := ([some (.int ask), some v_base, some v_thing, some (.ref p6), some (.ref a3), some (.ref p4), some (.bl true)] : L2.St)) (by with_unfolding_all rfl) ?_
        with_reducible refine x_if ?_
        with_reducible refine x_and ?_
        with_reducible refine x_B ?_
        with_reducible refine x_cb ?_
        with_reducible refine x_cons ?_
        refine ⟨_, rfl, ?_⟩
        with_reducible refine x_cons ?_
        with_reducible refine x_c ?_
        with_reducible refine x_nil ?_
        refine isiX_ve T.er G14.sub (RX.mono (ex2.trans ex3) d7) ?_
        refine ⟨_, rfl, ?_⟩
        refine ifD (fun hc => ?_) (fun hc => ?_)
        · replace hm := itep hm hc
          with_reducible refine x_and ?_
          with_reducible refine x_not ?_
          with_reducible refine x_B ?_
          refine ⟨_, rfl, ?_⟩
          refine ⟨_, rfl, ?_⟩
          refine iteF ?_
          refine iteF ?_
          with_reducible refine x_next ?_
          refine x_nxS (σ' := ([some (.int ask), some v_base, some v_thing, some (.ref p6), none, some (.ref p4), some (.bl true)] : L2.St)) (by with_unfolding_all rfl) ?_
          with_reducible refine x_ret ?_
          refine ⟨_, rfl, ?_⟩
          obtain ⟨F5, G15, ex4, fa8, nf4⟩ := o16.frzE G14
          have fr12 := Rs_mono ex4 fr11
          obtain rfl : _ = r := Option.some.inj hm
          exact q _ _ _ G15 (mk_lst ((Sub.refl _) _ _ fa8) (Rs_mono (Sub.refl _) fr12))
        · replace hm := iten hm (bF hc)
          refine iteF ?_
          with_reducible refine x_next ?_
          refine x_nxS (σ' := ([some (.int ask), some v_base, some v_thing, some (.ref p6), none, some (.ref p4), some (.bl true)] : L2.St)) (by with_unfolding_all rfl) ?_
          with_reducible refine x_ret ?_
          refine ⟨_, rfl, ?_⟩
          obtain ⟨F6, G16, ex5, fa9, nf5⟩ := o16.frzE G14
          have fr13 := Rs_mono ex5 fr11
          obtain rfl : _ = r := Option.some.inj hm
          exact q _ _ _ G16 (mk_lst ((Sub.refl _) _ _ fa9) (Rs_mono (Sub.refl _) fr13))
      · replace hm := iten hm (bF hc)
        with_reducible refine x_cb ?_
        with_reducible refine x_cons ?_
        refine ⟨_, rfl, ?_⟩
        with_reducible refine x_cons ?_
        with_reducible refine x_tup ?_
        with_reducible refine x_cons ?_
        with_reducible refine x_c ?_
        with_reducible refine x_cons ?_
        with_reducible refine x_c ?_
        with_reducible refine x_cons ?_
        with_reducible refine x_c ?_
        with_reducible refine x_cons ?_
        with_reducible refine x_c ?_
        with_reducible refine x_nil ?_
        refine ⟨szle (show 4 ≤ 16777216 from by decide), fun p7 np7 => ?_⟩
        have g10 := Gr.newO (o := .tup [.ref (ErT.ad .NoRules), .ref (ErT.ad .NoStand), .ref (ErT.ad .NoStretch), .ref (ErT.ad .TooMany)]) G13.sub np7
        have G17 := G13.step g10
        have o18 := o15.step g10
        with_reducible refine x_nil ?_
        refine isiXT_er T.er [.NoRules, .NoStand, .NoStretch, .TooMany] G17.sub (RX.mono (ex2.trans ex3) d7) upd_same ?_
        with_reducible refine x_gnE (σ' := ([some (.int ask), some v_base, some v_thing, some (.ref p1), some (.ref a3), some (.ref p4), some (.bl (erIn (some er1) [.NoRules, .NoStand, .NoStretch, .TooMany]))] : L2.St)) (by with_unfolding_all rfl) ?_
        with_reducible refine x_seq ?_
        with_reducible refine x_asg ?_
        with_reducible refine x_lst ?_
        with_reducible refine x_cons ?_
        with_reducible refine x_c ?_
        have d10 : R (α := PyData) (F4) (.bl true) (PyData.bool true) := (.bl _)
        with_reducible refine x_cons ?_
        with_reducible refine x_c ?_
        have d11 : R (α := PyData) (F4) (.str ("other" : Str)) (PyData.str ("other" : Str)) := (.str _)
        refine ⟨szle (show 2 ≤ 16777216 from by decide), fun p8 np8 => ?_⟩
        have fr14 : Rs (α := PyData) (F4) [(.bl true), (.str ("other" : Str))] ([(PyData.bool true), (PyData.str ("other" : Str))] : (List PyData)) := (Rs_cons (RD.mono (Sub.refl _) d10) (Rs_cons (RD.mono (Sub.refl _) d11) Rs_nil))
        have g11 := Gr.newO (o := .lst [(.bl true), (.str ("other" : Str))]) G17.sub np8
        have o19 := Ow.new (us := [(.bl true), (.str ("other" : Str))]) G17 np8
        have ne5 := o18.ne_new np8
        have G18 := G17.step g11
        have o20 := o18.step g11
        with_reducible refine x_gnE (σ' := ([some (.int ask), some v_base, some v_thing, some (.ref p8), some (.ref a3), some (.ref p4), some (.bl (erIn (some er1) [.NoRules, .NoStand, .NoStretch, .TooMany]))] : L2.St)) (by with_unfolding_all rfl) ?_
        with_reducible refine x_if ?_
        with_reducible refine x_and ?_
        with_reducible refine x_B ?_
        with_reducible refine x_cb ?_
        with_reducible refine x_cons ?_
        refine ⟨_, rfl, ?_⟩
        with_reducible refine x_cons ?_
        with_reducible refine x_c ?_
        with_reducible refine x_nil ?_
        refine isiX_ve T.er G18.sub (RX.mono (ex2.trans ex3) d7) ?_
        refine ⟨_, rfl, ?_⟩
        refine ifD (fun hc => ?_) (fun hc => ?_)
        · replace hm := itep hm hc
          with_reducible refine x_and ?_
          with_reducible refine x_not ?_
          with_reducible refine x_B ?_
          refine ⟨_, rfl, ?_⟩
          refine ⟨_, rfl, ?_⟩
          refine ifD (fun hc => ?_) (fun hc => ?_)
          · replace hm := itep hm hc
            with_reducible refine x_B ?_
            with_reducible refine x_cmp ?_
            with_reducible refine x_bm ?_
            refine ⟨_, rfl, ?_⟩
            refine ⟨.inl ⟨rfl, _, .inl (.inl (G18.sub _ _ fa7))⟩, ?_⟩
            with_reducible refine x_cons ?_
            with_reducible refine x_c ?_
            refine ⟨_, _, _, true, x1, rfl, rfl, Sub.refl _, (RD.mono G18.sub (mk_lst ((Sub.refl _) _ _ fa7) (Rs_mono (Sub.refl _) fr10))), (RD.mono G18.sub (.bl _)), ?_⟩
            with_reducible refine x_c ?_
            refine ⟨_, _, rfl, rfl, ?_⟩
            refine ⟨_, rfl, ?_⟩
            refine ifD (fun hc => ?_) (fun hc => ?_)
            · replace hm := itep hm hc
              with_reducible refine x_asg ?_
              with_reducible refine x_lst ?_
              with_reducible refine x_cons ?_
              with_reducible refine x_c ?_
              have d12 : R (α := PyData) (F4) (.bl true) (PyData.bool true) := (.bl _)
              with_reducible refine x_cons ?_
              with_reducible refine x_op ?_
              with_reducible refine x_lst ?_
              with_reducible refine x_cons ?_
              with_reducible refine x_c ?_
              with_reducible refine x_cons ?_
              with_reducible refine x_c ?_
              with_reducible refine x_cons ?_
              with_reducible refine x_c ?_
              with_reducible refine x_cons ?_
              with_reducible refine x_c ?_
              obtain ⟨x2, hx2, hm⟩ := bindp hm
              replace hx2 := Option.some.inj hx2
              refine ⟨szle (show 4 ≤ 16777216 from by decide), fun p9 np9 => ?_⟩
              have he1 : ([(.str ("text" : Str)), (.str ("rule" : Str)), (.str ("base" : Str)), (.str ("number" : Str))] : List V) = x2.map V.str := by rw [← hx2]; rfl
              rw [he1]
              clear he1 hx2
              have g12 := Gr.newO (o := .lst (x2.map V.str)) G18.sub np9
              have o21 := Ow.new (us := (x2.map V.str)) G18 np9
              have ne6 := o19.ne_new np9
              have G19 := G18.step g12
              have o22 := o19.step g12
              with_reducible refine x_bm ?_
              refine ⟨_, rfl, ?_⟩
              refine ⟨.inl ⟨rfl, _, .inl (.inl (G19.sub _ _ fa7))⟩, ?_⟩
              with_reducible refine x_cons ?_
              with_reducible refine x_c ?_
              with_reducible refine x_nil ?_
              obtain ⟨x3, hx3, hm⟩ := bindp hm
              refine index_of (G19.sub _ _ fa7) (Rs_mono (Sub.refl _) fr10) hx3 ?_
              obtain ⟨x4, hx4, hm⟩ := bindp hm
              obtain ⟨v4, hu1, d13⟩ := Rs_at (strs_Rs (F := F4) x2) hx4
              refine ⟨_, _, _, _, rfl, rfl, .inl (.inl o21.at_), hu1, ?_⟩
              obtain rfl := str_of d13
              have d14 : R (α := PyData) (F4) (.str x4) (PyData.str x4) := (.str _)
              refine ⟨szle (show 2 ≤ 16777216 from by decide), fun p10 np10 => ?_⟩
              have fr15 : Rs (α := PyData) (F4) [(.bl true), (.str x4)] ([(PyData.bool true), (PyData.str x4)] : (List PyData)) := (Rs_cons (RD.mono (Sub.refl _) d12) (Rs_cons (RD.mono (Sub.refl _) d14) Rs_nil))
              have g13 := Gr.newO (o := .lst [(.bl true), (.str x4)]) G19.sub np10
              have o23 := Ow.new (us := [(.bl true), (.str x4)]) G19 np10
              have ne7 := o22.ne_new np10
              have G20 := G19.step g13
              have o24 := o22.step g13
              with_reducible refine x_gnE (σ' := ([some (.int ask), some v_base, some v_thing, some (.ref p10), some (.ref a3), some (.ref p4), some (.bl (erIn (some er1) [.NoRules, .NoStand, .NoStretch, .TooMany]))] : L2.St)) (by with_unfolding_all rfl) ?_
              refine x_nxS (σ' := ([some (.int ask), some v_base, some v_thing, some (.ref p10), none, some (.ref p4), some (.bl (erIn (some er1) [.NoRules, .NoStand, .NoStretch, .TooMany]))] : L2.St)) (by with_unfolding_all rfl) ?_
              with_reducible refine x_ret ?_
              refine ⟨_, rfl, ?_⟩
              obtain ⟨F7, G21, ex6, fa10, nf6⟩ := o23.frzE G20
              have fr16 := Rs_mono ex6 fr15
              obtain rfl : _ = r := Option.some.inj hm
              exact q _ _ _ G21 (mk_lst ((Sub.refl _) _ _ fa10) (Rs_mono (Sub.refl _) fr16))
            · replace hm := iten hm (bF hc)
              with_reducible refine x_next ?_
              refine x_nxS (σ' := ([some (.int ask), some v_base, some v_thing, some (.ref p8), none, some (.ref p4), some (.bl (erIn (some er1) [.NoRules, .NoStand, .NoStretch, .TooMany]))] : L2.St)) (by with_unfolding_all rfl) ?_
              with_reducible refine x_ret ?_
              refine ⟨_, rfl, ?_⟩
              obtain ⟨F8, G22, ex7, fa11, nf7⟩ := o19.frzE G18
              have fr17 := Rs_mono ex7 fr14
              obtain rfl : _ = r := Option.some.inj hm
              exact q _ _ _ G22 (mk_lst ((Sub.refl _) _ _ fa11) (Rs_mono (Sub.refl _) fr17))
          · replace hm := iten hm (bF hc)
            refine iteF ?_
            with_reducible refine x_next ?_
            refine x_nxS (σ' := ([some (.int ask), some v_base, some v_thing, some (.ref p8), none, some (.ref p4), some (.bl (erIn (some er1) [.NoRules, .NoStand, .NoStretch, .TooMany]))] : L2.St)) (by with_unfolding_all rfl) ?_
            with_reducible refine x_ret ?_
            refine ⟨_, rfl, ?_⟩
            obtain ⟨F9, G23, ex8, fa12, nf8⟩ := o19.frzE G18
            have fr18 := Rs_mono ex8 fr14
            obtain rfl : _ = r := Option.some.inj hm
            exact q _ _ _ G23 (mk_lst ((Sub.refl _) _ _ fa12) (Rs_mono (Sub.refl _) fr18))
        · replace hm := iten hm (bF hc)
          refine iteF ?_
          with_reducible refine x_next ?_
          refine x_nxS (σ' := ([some (.int ask), some v_base, some v_thing, some (.ref p8), none, some (.ref p4), some (.bl (erIn (some er1) [.NoRules, .NoStand, .NoStretch, .TooMany]))] : L2.St)) (by with_unfolding_all rfl) ?_
          with_reducible refine x_ret ?_
          refine ⟨_, rfl, ?_⟩
          obtain ⟨F10, G24, ex9, fa13, nf9⟩ := o19.frzE G18
          have fr19 := Rs_mono ex9 fr14
          obtain rfl : _ = r := Option.some.inj hm
          exact q _ _ _ G24 (mk_lst ((Sub.refl _) _ _ fa13) (Rs_mono (Sub.refl _) fr19))
  · replace hm := iten hm (bF hc)
    with_reducible refine x_if ?_
    with_reducible refine x_B ?_
    refine useEv (.bl (decide (ask = (1 : Int)))) (by exact (ev_cmp (Evl.ev_var rfl) Evl.ev_c)) (fun H3 e2 => ?_)
    have g14 := gr_ex G2.sub e2
    have G25 := G2.step g14
    have o25 := o2.step g14
    refine ⟨_, rfl, ?_⟩
    refine ifD (fun hc => ?_) (fun hc => ?_)
    · replace hm := itep hm hc
      with_reducible refine x_asg ?_
      with_reducible refine x_callS ?_
      with_reducible refine x_cons ?_
      refine ⟨_, rfl, ?_⟩
      with_reducible refine x_cons ?_
      refine ⟨_, rfl, ?_⟩
      obtain ⟨r2, hr2, hm⟩ := bindp hm
      refine ⟨_, _, _, base, thing, r2, rfl, G25.sub, (RD.mono (Sub.refl _) f_base), (RD.mono (Sub.refl _) f_thing), hr2, fun y2 e9 N2 H4 v5 g15 d15 => ?_, fun er2 e9 N2 H4 g15 => ?_⟩
      · subst e9; rw [exB_ok] at hm
        have G26 := G25.step g15
        have o26 := o25.step g15
        obtain rfl := int_of d15
        refine ⟨_, rfl, ?_⟩
        with_reducible refine x_c ?_
        have d16 : R (α := PyData) (N2) (.int y2) (PyData.int y2) := (.int _)
        obtain ⟨j2, hj2, hm⟩ := bindp hm
        refine ⟨_, _, _, _, rfl, rfl, o26.at_, (by rw [Rs_len (Rs_mono g15.ex fr1)]; exact hj2), ?_⟩
        have G27 := o26.mutG (o := .lst ([(.bl false), .non].set j2 (.int y2))) G26
        have o27 := o26.mut (ws := [(.bl false), .non].set j2 (.int y2))
        have fr20 : Rs (α := PyData) (N2) ([(.bl false), .non].set j2 (.int y2)) (([(PyData.bool false), PyData.none] : (List PyData)).set j2 (PyData.int y2)) := Rs_set (Rs_mono g15.ex fr1) (RD.mono (Sub.refl _) d16)
        with_reducible refine x_ret ?_
        refine ⟨_, rfl, ?_⟩
        obtain ⟨F11, G28, ex10, fa14, nf10⟩ := o27.frzE G27
        have fr21 := Rs_mono ex10 fr20
        obtain rfl : _ = r := Option.some.inj hm
        exact q _ _ _ G28 (mk_lst ((Sub.refl _) _ _ fa14) (Rs_mono (Sub.refl _) fr21))
      · subst e9; rw [exB_err] at hm
        have G29 := G25.step g15
        have o28 := o25.step g15
        refine x_keep T.er (fun a4 na2 => ?_)
        obtain ⟨F12, g16, fa15⟩ := Gr.newE (o := EV (ErT.ad er2) a4) G29.sub na2
        have G30 := G29.step g16
        have o29 := o28.step g16
        have d17 : RX F12 (.ref a4) (some er2) := ⟨_, rfl, fa15⟩
        refine x_stE (σ' := ([some (.int ask), some v_base, some v_thing, some (.ref p1), some (.ref a4), none, none] : L2.St)) (by with_unfolding_all rfl) ?_
        with_reducible refine x_seq ?_
        with_reducible refine x_asg ?_
        with_reducible refine x_lst ?_
        with_reducible refine x_cons ?_
        with_reducible refine x_cb ?_
        with_reducible refine x_cons ?_
        refine ⟨_, rfl, ?_⟩
        with_reducible refine x_cons ?_
        with_reducible refine x_c ?_
        with_reducible refine x_nil ?_
        refine isiX_er T.er G30.sub (RX.mono (Sub.refl _) d17) .NoText ?_
        with_reducible refine x_cons ?_
        with_reducible refine x_cb ?_
        with_reducible refine x_cons ?_
        refine ⟨_, rfl, ?_⟩
        with_reducible refine x_cons ?_
        with_reducible refine x_c ?_
        with_reducible refine x_nil ?_
        refine isiX_er T.er G30.sub (RX.mono (Sub.refl _) d17) .NoRule ?_
        refine ⟨szle (show 2 ≤ 16777216 from by decide), fun p11 np11 => ?_⟩
        have fr22 : Rs (α := Bool) (F12) [(.bl (decide ((some er2) = some .NoText))), (.bl (decide ((some er2) = some .NoRule)))] ([(decide ((some er2) = some .NoText)), (decide ((some er2) = some .NoRule))] : (List Bool)) := (Rs_cons (.bl _) (Rs_cons (.bl _) Rs_nil))
        have g17 := Gr.newO (o := .lst [(.bl (decide ((some er2) = some .NoText))), (.bl (decide ((some er2) = some .NoRule)))]) G30.sub np11
        have o30 := Ow.new (us := [(.bl (decide ((some er2) = some .NoText))), (.bl (decide ((some er2) = some .NoRule)))]) G30 np11
        have ne8 := o29.ne_new np11
        have G31 := G30.step g17
        have o31 := o29.step g17
        obtain ⟨F13, G32, ex11, fa16, nf11⟩ := o30.frzE G31
        have o32 := o31.frzN (Ne.symm (Ne.symm ne8)) nf11
        have fr23 := Rs_mono ex11 fr22
        with_reducible refine x_gnE (σ' := ([some (.int ask), some v_base, some v_thing, some (.ref p1), some (.ref a4), some (.ref p11), none] : L2.St)) (by with_unfolding_all rfl) ?_
        with_reducible refine x_seq ?_
        with_reducible refine x_asg ?_
        with_reducible refine x_op ?_
        refine ⟨_, rfl, ?_⟩
        with_reducible refine x_lst ?_
        with_reducible refine x_cons ?_
        with_reducible refine x_cb ?_
        with_reducible refine x_cons ?_
        refine ⟨_, rfl, ?_⟩
        with_reducible refine x_cons ?_
        with_reducible refine x_c ?_
        with_reducible refine x_nil ?_
        refine isiX_er T.er G32.sub (RX.mono ex11 d17) .NoBase ?_
        with_reducible refine x_cons ?_
        with_reducible refine x_cb ?_
        with_reducible refine x_cons ?_
        refine ⟨_, rfl, ?_⟩
        with_reducible refine x_cons ?_
        with_reducible refine x_c ?_
        with_reducible refine x_nil ?_
        refine isiX_er T.er G32.sub (RX.mono ex11 d17) .NoNumber ?_
        refine ⟨szle (show 2 ≤ 16777216 from by decide), fun p12 np12 => ?_⟩
        have fr24 : Rs (α := Bool) (F13) [(.bl (decide ((some er2) = some .NoBase))), (.bl (decide ((some er2) = some .NoNumber)))] ([(decide ((some er2) = some .NoBase)), (decide ((some er2) = some .NoNumber))] : (List Bool)) := (Rs_cons (.bl _) (Rs_cons (.bl _) Rs_nil))
        have g18 := Gr.newO (o := .lst [(.bl (decide ((some er2) = some .NoBase))), (.bl (decide ((some er2) = some .NoNumber)))]) G32.sub np12
        have o33 := Ow.new (us := [(.bl (decide ((some er2) = some .NoBase))), (.bl (decide ((some er2) = some .NoNumber)))]) G32 np12
        have ne9 := o32.ne_new np12
        have G33 := G32.step g18
        have o34 := o32.step g18
        obtain ⟨c2, hm⟩ := guardp hm
        refine ⟨_, _, _, _, rfl, rfl, (G33.sub _ _ fa16), o33.at_, szle (by rw [Rs_len (Rs_mono (Sub.refl _) fr23), Rs_len fr24]; exact c2), fun p13 np13 => ?_⟩
        have fr25 : Rs (α := Bool) (F13) ([(.bl (decide ((some er2) = some .NoText))), (.bl (decide ((some er2) = some .NoRule)))] ++ [(.bl (decide ((some er2) = some .NoBase))), (.bl (decide ((some er2) = some .NoNumber)))]) (([(decide ((some er2) = some .NoText)), (decide ((some er2) = some .NoRule))] : (List Bool)) ++ ([(decide ((some er2) = some .NoBase)), (decide ((some er2) = some .NoNumber))] : (List Bool))) := Rs_app (Rs_mono (Sub.refl _) fr23) fr24
        have g19 := Gr.newO (o := .lst ([(.bl (decide ((some er2) = some .NoText))), (.bl (decide ((some er2) = some .NoRule)))] ++ [(.bl (decide ((some er2) = some .NoBase))), (.bl (decide ((some er2) = some .NoNumber)))])) G33.sub np13
        have o35 := Ow.new (us := ([(.bl (decide ((some er2) = some .NoText))), (.bl (decide ((some er2) = some .NoRule)))] ++ [(.bl (decide ((some er2) = some .NoBase))), (.bl (decide ((some er2) = some .NoNumber)))])) G33 np13
        have ne10 := o34.ne_new np13
        have G34 := G33.step g19
        have o36 := o34.step g19
        obtain ⟨F14, G35, ex12, fa17, nf12⟩ := o35.frzE G34
        have o37 := o36.frzN (Ne.symm (Ne.symm ne10)) nf12
        have fr26 := Rs_mono ex12 fr25
        obtain ⟨x5, hx5, hm⟩ := bindp hm
        replace hx5 := Option.some.inj hx5
        have fr27 : Rs (α := Bool) (F14) ([(.bl (decide ((some er2) = some .NoText))), (.bl (decide ((some er2) = some .NoRule)))] ++ [(.bl (decide ((some er2) = some .NoBase))), (.bl (decide ((some er2) = some .NoNumber)))]) x5 := by rw [← hx5]; exact (Rs_mono (Sub.refl _) fr26)
        have fa18 := (Sub.refl _) _ _ fa17
        clear hx5
        with_reducible refine x_gnE (σ' := ([some (.int ask), some v_base, some v_thing, some (.ref p1), some (.ref a4), some (.ref p13), none] : L2.St)) (by with_unfolding_all rfl) ?_
        with_reducible refine x_seq ?_
        with_reducible refine x_asg ?_
        with_reducible refine x_cb ?_
        with_reducible refine x_cons ?_
        refine ⟨_, rfl, ?_⟩
        with_reducible refine x_cons ?_
        with_reducible refine x_tup ?_
        with_reducible refine x_cons ?_
        with_reducible refine x_c ?_
        with_reducible refine x_cons ?_
        with_reducible refine x_c ?_
        with_reducible refine x_cons ?_
        with_reducible refine x_c ?_
        with_reducible refine x_cons ?_
        with_reducible refine x_c ?_
        with_reducible refine x_cons ?_
        with_reducible refine x_c ?_
        with_reducible refine x_nil ?_
        refine ⟨szle (show 5 ≤ 16777216 from by decide), fun p14 np14 => ?_⟩
        have g20 := Gr.newO (o := .tup [.ref (ErT.ad .Endless), .ref (ErT.ad .NoFigures), .ref (ErT.ad .NoGood), .ref (ErT.ad .NoName), .ref (ErT.ad .NoRow)]) G35.sub np14
        have G36 := G35.step g20
        have o38 := o37.step g20
        with_reducible refine x_nil ?_
        refine isiXT_er T.er [.Endless, .NoFigures, .NoGood, .NoName, .NoRow] G36.sub (RX.mono (ex11.trans ex12) d17) upd_same ?_
        with_reducible refine x_gnE (σ' := ([some (.int ask), some v_base, some v_thing, some (.ref p1), some (.ref a4), some (.ref p13), some (.bl (erIn (some er2) [.Endless, .NoFigures, .NoGood, .NoName, .NoRow]))] : L2.St)) (by with_unfolding_all rfl) ?_
        with_reducible refine x_seq ?_
        with_reducible refine x_asg ?_
        with_reducible refine x_orV ?_
        refine ⟨_, rfl, ?_⟩
        refine ⟨_, rfl, ?_⟩
        refine ifD (fun hc => ?_) (fun hc => ?_)
        · replace hm := itep hm hc
          with_reducible refine x_gnE (σ' := ([some (.int ask), some v_base, some v_thing, some (.ref p1), some (.ref a4), some (.ref p13), some (.bl true)] : L2.St)) (by with_unfolding_all rfl) ?_
          with_reducible refine x_seq ?_
          with_reducible refine x_asg ?_
          with_reducible refine x_lst ?_
          with_reducible refine x_cons ?_
          with_reducible refine x_c ?_
          have d18 : R (α := PyData) (F14) (.bl true) (PyData.bool true) := (.bl _)
          with_reducible refine x_cons ?_
          with_reducible refine x_c ?_
          have d19 : R (α := PyData) (F14) (.str ("other" : Str)) (PyData.str ("other" : Str)) := (.str _)
          refine ⟨szle (show 2 ≤ 16777216 from by decide), fun p15 np15 => ?_⟩
          have fr28 : Rs (α := PyData) (F14) [(.bl true), (.str ("other" : Str))] ([(PyData.bool true), (PyData.str ("other" : Str))] : (List PyData)) := (Rs_cons (RD.mono (Sub.refl _) d18) (Rs_cons (RD.mono (Sub.refl _) d19) Rs_nil))
          have g21 := Gr.newO (o := .lst [(.bl true), (.str ("other" : Str))]) G36.sub np15
          have o39 := Ow.new (us := [(.bl true), (.str ("other" : Str))]) G36 np15
          have ne11 := o38.ne_new np15
          have G37 := G36.step g21
          have o40 := o38.step g21
          with_reducible refine x_gnE (σ' := ([some (.int ask), some v_base, some v_thing, some (.ref p15), some (.ref a4), some (.ref p13), some (.bl true)] : L2.St)) (by with_unfolding_all rfl) ?_
          with_reducible refine x_if ?_
          with_reducible refine x_and ?_
          with_reducible refine x_B ?_
          with_reducible refine x_cb ?_
          with_reducible refine x_cons ?_
          refine ⟨_, rfl, ?_⟩
          with_reducible refine x_cons ?_
          with_reducible refine x_c ?_
          with_reducible refine x_nil ?_
          refine isiX_ve T.er G37.sub (RX.mono (ex11.trans ex12) d17) ?_
          refine ⟨_, rfl, ?_⟩
          refine ifD (fun hc => ?_) (fun hc => ?_)
          · replace hm := itep hm hc
            with_reducible refine x_and ?_
            with_reducible refine x_not ?_
            with_reducible refine x_B ?_
            refine ⟨_, rfl, ?_⟩
            refine ⟨_, rfl, ?_⟩
            refine iteF ?_
            refine iteF ?_
            with_reducible refine x_next ?_
            refine x_nxS (σ' := ([some (.int ask), some v_base, some v_thing, some (.ref p15), none, some (.ref p13), some (.bl true)] : L2.St)) (by with_unfolding_all rfl) ?_
            with_reducible refine x_ret ?_
            refine ⟨_, rfl, ?_⟩
            obtain ⟨F15, G38, ex13, fa19, nf13⟩ := o39.frzE G37
            have fr29 := Rs_mono ex13 fr28
            obtain rfl : _ = r := Option.some.inj hm
            exact q _ _ _ G38 (mk_lst ((Sub.refl _) _ _ fa19) (Rs_mono (Sub.refl _) fr29))
          · replace hm := iten hm (bF hc)
            refine iteF ?_
            with_reducible refine x_next ?_
            refine x_nxS (σ' := ([some (.int ask), some v_base, some v_thing, some (.ref p15), none, some (.ref p13), some (.bl true)] : L2.St)) (by with_unfolding_all rfl) ?_
            with_reducible refine x_ret ?_
            refine ⟨_, rfl, ?_⟩
            obtain ⟨F16, G39, ex14, fa20, nf14⟩ := o39.frzE G37
            have fr30 := Rs_mono ex14 fr28
            obtain rfl : _ = r := Option.some.inj hm
            exact q _ _ _ G39 (mk_lst ((Sub.refl _) _ _ fa20) (Rs_mono (Sub.refl _) fr30))
        · replace hm := iten hm (bF hc)
          with_reducible refine x_cb ?_
          with_reducible refine x_cons ?_
          refine ⟨_, rfl, ?_⟩
          with_reducible refine x_cons ?_
          with_reducible refine x_tup ?_
          with_reducible refine x_cons ?_
          with_reducible refine x_c ?_
          with_reducible refine x_cons ?_
          with_reducible refine x_c ?_
          with_reducible refine x_cons ?_
          with_reducible refine x_c ?_
          with_reducible refine x_cons ?_
          with_reducible refine x_c ?_
          with_reducible refine x_nil ?_
          refine ⟨szle (show 4 ≤ 16777216 from by decide), fun p16 np16 => ?_⟩
          have g22 := Gr.newO (o := .tup [.ref (ErT.ad .NoRules), .ref (ErT.ad .NoStand), .ref (ErT.ad .NoStretch), .ref (ErT.ad .TooMany)]) G36.sub np16
          have G40 := G36.step g22
          have o41 := o38.step g22
          with_reducible refine x_nil ?_
          refine isiXT_er T.er [.NoRules, .NoStand, .NoStretch, .TooMany] G40.sub (RX.mono (ex11.trans ex12) d17) upd_same ?_
          with_reducible refine x_gnE (σ' := ([some (.int ask), some v_base, some v_thing, some (.ref p1), some (.ref a4), some (.ref p13), some (.bl (erIn (some er2) [.NoRules, .NoStand, .NoStretch, .TooMany]))] : L2.St)) (by with_unfolding_all rfl) ?_
          with_reducible refine x_seq ?_
          with_reducible refine x_asg ?_
          with_reducible refine x_lst ?_
          with_reducible refine x_cons ?_
          with_reducible refine x_c ?_
          have d20 : R (α := PyData) (F14) (.bl true) (PyData.bool true) := (.bl _)
          with_reducible refine x_cons ?_
          with_reducible refine x_c ?_
          have d21 : R (α := PyData) (F14) (.str ("other" : Str)) (PyData.str ("other" : Str)) := (.str _)
          refine ⟨szle (show 2 ≤ 16777216 from by decide), fun p17 np17 => ?_⟩
          have fr31 : Rs (α := PyData) (F14) [(.bl true), (.str ("other" : Str))] ([(PyData.bool true), (PyData.str ("other" : Str))] : (List PyData)) := (Rs_cons (RD.mono (Sub.refl _) d20) (Rs_cons (RD.mono (Sub.refl _) d21) Rs_nil))
          have g23 := Gr.newO (o := .lst [(.bl true), (.str ("other" : Str))]) G40.sub np17
          have o42 := Ow.new (us := [(.bl true), (.str ("other" : Str))]) G40 np17
          have ne12 := o41.ne_new np17
          have G41 := G40.step g23
          have o43 := o41.step g23
          with_reducible refine x_gnE (σ' := ([some (.int ask), some v_base, some v_thing, some (.ref p17), some (.ref a4), some (.ref p13), some (.bl (erIn (some er2) [.NoRules, .NoStand, .NoStretch, .TooMany]))] : L2.St)) (by with_unfolding_all rfl) ?_
          with_reducible refine x_if ?_
          with_reducible refine x_and ?_
          with_reducible refine x_B ?_
          with_reducible refine x_cb ?_
          with_reducible refine x_cons ?_
          refine ⟨_, rfl, ?_⟩
          with_reducible refine x_cons ?_
          with_reducible refine x_c ?_
          with_reducible refine x_nil ?_
          refine isiX_ve T.er G41.sub (RX.mono (ex11.trans ex12) d17) ?_
          refine ⟨_, rfl, ?_⟩
          refine ifD (fun hc => ?_) (fun hc => ?_)
          · replace hm := itep hm hc
            with_reducible refine x_and ?_
            with_reducible refine x_not ?_
            with_reducible refine x_B ?_
            refine ⟨_, rfl, ?_⟩
            refine ⟨_, rfl, ?_⟩
            refine ifD (fun hc => ?_) (fun hc => ?_)
            · replace hm := itep hm hc
              with_reducible refine x_B ?_
              with_reducible refine x_cmp ?_
              with_reducible refine x_bm ?_
              refine ⟨_, rfl, ?_⟩
              refine ⟨.inl ⟨rfl, _, .inl (.inl (G41.sub _ _ fa18))⟩, ?_⟩
              with_reducible refine x_cons ?_
              with_reducible refine x_c ?_
              refine ⟨_, _, _, true, x5, rfl, rfl, Sub.refl _, (RD.mono G41.sub (mk_lst ((Sub.refl _) _ _ fa18) (Rs_mono (Sub.refl _) fr27))), (RD.mono G41.sub (.bl _)), ?_⟩
              with_reducible refine x_c ?_
              refine ⟨_, _, rfl, rfl, ?_⟩
              refine ⟨_, rfl, ?_⟩
              refine ifD (fun hc => ?_) (fun hc => ?_)
              · replace hm := itep hm hc
                with_reducible refine x_asg ?_
                with_reducible refine x_lst ?_
                with_reducible refine x_cons ?_
                with_reducible refine x_c ?_
                have d22 : R (α := PyData) (F14) (.bl true) (PyData.bool true) := (.bl _)
                with_reducible refine x_cons ?_
                with_reducible refine x_op ?_
                with_reducible refine x_lst ?_
                with_reducible refine x_cons ?_
                with_reducible refine x_c ?_
                with_reducible refine x_cons ?_
                with_reducible refine x_c ?_
                with_reducible refine x_cons ?_
                with_reducible refine x_c ?_
                with_reducible refine x_cons ?_
                with_reducible refine x_c ?_
                obtain ⟨x6, hx6, hm⟩ := bindp hm
                replace hx6 := Option.some.inj hx6
                refine ⟨szle (show 4 ≤ 16777216 from by decide), fun p18 np18 => ?_⟩
                have he2 : ([(.str ("text" : Str)), (.str ("rule" : Str)), (.str ("base" : Str)), (.str ("number" : Str))] : List V) = x6.map V.str := by rw [← hx6]; rfl
                rw [he2]
                clear he2 hx6
                have g24 := Gr.newO (o := .lst (x6.map V.str)) G41.sub np18
                have o44 := Ow.new (us := (x6.map V.str)) G41 np18
                have ne13 := o42.ne_new np18
                have G42 := G41.step g24
                have o45 := o42.step g24
                with_reducible refine x_bm ?_
                refine ⟨_, rfl, ?_⟩
                refine ⟨.inl ⟨rfl, _, .inl (.inl (G42.sub _ _ fa18))⟩, ?_⟩
                with_reducible refine x_cons ?_
                with_reducible refine x_c ?_
                with_reducible refine x_nil ?_
                obtain ⟨x7, hx7, hm⟩ := bindp hm
                refine index_of (G42.sub _ _ fa18) (Rs_mono (Sub.refl _) fr27) hx7 ?_
                obtain ⟨x8, hx8, hm⟩ := bindp hm
                obtain ⟨v6, hu2, d23⟩ := Rs_at (strs_Rs (F := F14) x6) hx8
                refine ⟨_, _, _, _, rfl, rfl, .inl (.inl o44.at_), hu2, ?_⟩
                obtain rfl := str_of d23
                have d24 : R (α := PyData) (F14) (.str x8) (PyData.str x8) := (.str _)
                refine ⟨szle (show 2 ≤ 16777216 from by decide), fun p19 np19 => ?_⟩
                have fr32 : Rs (α := PyData) (F14) [(.bl true), (.str x8)] ([(PyData.bool true), (PyData.str x8)] : (List PyData)) := (Rs_cons (RD.mono (Sub.refl _) d22) (Rs_cons (RD.mono (Sub.refl _) d24) Rs_nil))
                have g25 := Gr.newO (o := .lst [(.bl true), (.str x8)]) G42.sub np19
                have o46 := Ow.new (us := [(.bl true), (.str x8)]) G42 np19
                have ne14 := o45.ne_new np19
                have G43 := G42.step g25
                have o47 := o45.step g25
                with_reducible refine x_gnE (σ' := ([some (.int ask), some v_base, some v_thing, some (.ref p19), some (.ref a4), some (.ref p13), some (.bl (erIn (some er2) [.NoRules, .NoStand, .NoStretch, .TooMany]))] : L2.St)) (by with_unfolding_all rfl) ?_
                refine x_nxS (σ' := ([some (.int ask), some v_base, some v_thing, some (.ref p19), none, some (.ref p13), some (.bl (erIn (some er2) [.NoRules, .NoStand, .NoStretch, .TooMany]))] : L2.St)) (by with_unfolding_all rfl) ?_
                with_reducible refine x_ret ?_
                refine ⟨_, rfl, ?_⟩
                obtain ⟨F17, G44, ex15, fa21, nf15⟩ := o46.frzE G43
                have fr33 := Rs_mono ex15 fr32
                obtain rfl : _ = r := Option.some.inj hm
                exact q _ _ _ G44 (mk_lst ((Sub.refl _) _ _ fa21) (Rs_mono (Sub.refl _) fr33))
              · replace hm := iten hm (bF hc)
                with_reducible refine x_next ?_
                refine x_nxS (σ' := ([some (.int ask), some v_base, some v_thing, some (.ref p17), none, some (.ref p13), some (.bl (erIn (some er2) [.NoRules, .NoStand, .NoStretch, .TooMany]))] : L2.St)) (by with_unfolding_all rfl) ?_
                with_reducible refine x_ret ?_
                refine ⟨_, rfl, ?_⟩
                obtain ⟨F18, G45, ex16, fa22, nf16⟩ := o42.frzE G41
                have fr34 := Rs_mono ex16 fr31
                obtain rfl : _ = r := Option.some.inj hm
                exact q _ _ _ G45 (mk_lst ((Sub.refl _) _ _ fa22) (Rs_mono (Sub.refl _) fr34))
            · replace hm := iten hm (bF hc)
              refine iteF ?_
              with_reducible refine x_next ?_
              refine x_nxS (σ' := ([some (.int ask), some v_base, some v_thing, some (.ref p17), none, some (.ref p13), some (.bl (erIn (some er2) [.NoRules, .NoStand, .NoStretch, .TooMany]))] : L2.St)) (by with_unfolding_all rfl) ?_
              with_reducible refine x_ret ?_
              refine ⟨_, rfl, ?_⟩
              obtain ⟨F19, G46, ex17, fa23, nf17⟩ := o42.frzE G41
              have fr35 := Rs_mono ex17 fr31
              obtain rfl : _ = r := Option.some.inj hm
              exact q _ _ _ G46 (mk_lst ((Sub.refl _) _ _ fa23) (Rs_mono (Sub.refl _) fr35))
          · replace hm := iten hm (bF hc)
            refine iteF ?_
            with_reducible refine x_next ?_
            refine x_nxS (σ' := ([some (.int ask), some v_base, some v_thing, some (.ref p17), none, some (.ref p13), some (.bl (erIn (some er2) [.NoRules, .NoStand, .NoStretch, .TooMany]))] : L2.St)) (by with_unfolding_all rfl) ?_
            with_reducible refine x_ret ?_
            refine ⟨_, rfl, ?_⟩
            obtain ⟨F20, G47, ex18, fa24, nf18⟩ := o42.frzE G41
            have fr36 := Rs_mono ex18 fr31
            obtain rfl : _ = r := Option.some.inj hm
            exact q _ _ _ G47 (mk_lst ((Sub.refl _) _ _ fa24) (Rs_mono (Sub.refl _) fr36))
    · replace hm := iten hm (bF hc)
      with_reducible refine x_if ?_
      with_reducible refine x_B ?_
      refine useEv (.bl (decide (ask = (2 : Int)))) (by exact (ev_cmp (Evl.ev_var rfl) Evl.ev_c)) (fun H5 e3 => ?_)
      have g26 := gr_ex G25.sub e3
      have G48 := G25.step g26
      have o48 := o25.step g26
      refine ⟨_, rfl, ?_⟩
      refine ifD (fun hc => ?_) (fun hc => ?_)
      · replace hm := itep hm hc
        with_reducible refine x_asg ?_
        with_reducible refine x_callS ?_
        with_reducible refine x_cons ?_
        refine ⟨_, rfl, ?_⟩
        obtain ⟨r3, hr3, hm⟩ := bindp hm
        refine ⟨_, _, thing, r3, rfl, G48.sub, (RD.mono (Sub.refl _) f_thing), hr3, fun y3 e9 N3 H6 v7 g27 d25 => ?_, fun er3 e9 N3 H6 g27 => ?_⟩
        · subst e9; rw [exB_ok] at hm
          have G49 := G48.step g27
          have o49 := o48.step g27
          obtain rfl := str_of d25
          refine ⟨_, rfl, ?_⟩
          with_reducible refine x_c ?_
          have d26 : R (α := PyData) (N3) (.str y3) (PyData.str y3) := (.str _)
          obtain ⟨j3, hj3, hm⟩ := bindp hm
          refine ⟨_, _, _, _, rfl, rfl, o49.at_, (by rw [Rs_len (Rs_mono g27.ex fr1)]; exact hj3), ?_⟩
          have G50 := o49.mutG (o := .lst ([(.bl false), .non].set j3 (.str y3))) G49
          have o50 := o49.mut (ws := [(.bl false), .non].set j3 (.str y3))
          have fr37 : Rs (α := PyData) (N3) ([(.bl false), .non].set j3 (.str y3)) (([(PyData.bool false), PyData.none] : (List PyData)).set j3 (PyData.str y3)) := Rs_set (Rs_mono g27.ex fr1) (RD.mono (Sub.refl _) d26)
          with_reducible refine x_ret ?_
          refine ⟨_, rfl, ?_⟩
          obtain ⟨F21, G51, ex19, fa25, nf19⟩ := o50.frzE G50
          have fr38 := Rs_mono ex19 fr37
          obtain rfl : _ = r := Option.some.inj hm
          exact q _ _ _ G51 (mk_lst ((Sub.refl _) _ _ fa25) (Rs_mono (Sub.refl _) fr38))
        · subst e9; rw [exB_err] at hm
          have G52 := G48.step g27
          have o51 := o48.step g27
          refine x_keep T.er (fun a5 na3 => ?_)
          obtain ⟨F22, g28, fa26⟩ := Gr.newE (o := EV (ErT.ad er3) a5) G52.sub na3
          have G53 := G52.step g28
          have o52 := o51.step g28
          have d27 : RX F22 (.ref a5) (some er3) := ⟨_, rfl, fa26⟩
          refine x_stE (σ' := ([some (.int ask), some v_base, some v_thing, some (.ref p1), some (.ref a5), none, none] : L2.St)) (by with_unfolding_all rfl) ?_
          with_reducible refine x_seq ?_
          with_reducible refine x_asg ?_
          with_reducible refine x_lst ?_
          with_reducible refine x_cons ?_
          with_reducible refine x_cb ?_
          with_reducible refine x_cons ?_
          refine ⟨_, rfl, ?_⟩
          with_reducible refine x_cons ?_
          with_reducible refine x_c ?_
          with_reducible refine x_nil ?_
          refine isiX_er T.er G53.sub (RX.mono (Sub.refl _) d27) .NoText ?_
          with_reducible refine x_cons ?_
          with_reducible refine x_cb ?_
          with_reducible refine x_cons ?_
          refine ⟨_, rfl, ?_⟩
          with_reducible refine x_cons ?_
          with_reducible refine x_c ?_
          with_reducible refine x_nil ?_
          refine isiX_er T.er G53.sub (RX.mono (Sub.refl _) d27) .NoRule ?_
          refine ⟨szle (show 2 ≤ 16777216 from by decide), fun p20 np20 => ?_⟩
          have fr39 : Rs (α := Bool) (F22) [(.bl (decide ((some er3) = some .NoText))), (.bl (decide ((some er3) = some .NoRule)))] ([(decide ((some er3) = some .NoText)), (decide ((some er3) = some .NoRule))] : (List Bool)) := (Rs_cons (.bl _) (Rs_cons (.bl _) Rs_nil))
          have g29 := Gr.newO (o := .lst [(.bl (decide ((some er3) = some .NoText))), (.bl (decide ((some er3) = some .NoRule)))]) G53.sub np20
          have o53 := Ow.new (us := [(.bl (decide ((some er3) = some .NoText))), (.bl (decide ((some er3) = some .NoRule)))]) G53 np20
          have ne15 := o52.ne_new np20
          have G54 := G53.step g29
          have o54 := o52.step g29
          obtain ⟨F23, G55, ex20, fa27, nf20⟩ := o53.frzE G54
          have o55 := o54.frzN (Ne.symm (Ne.symm ne15)) nf20
          have fr40 := Rs_mono ex20 fr39
          with_reducible refine x_gnE (σ' := ([some (.int ask), some v_base, some v_thing, some (.ref p1), some (.ref a5), some (.ref p20), none] : L2.St)) (by with_unfolding_all rfl) ?_
          with_reducible refine x_seq ?_
          with_reducible refine x_asg ?_
          with_reducible refine x_op ?_
          refine ⟨_, rfl, ?_⟩
          with_reducible refine x_lst ?_
          with_reducible refine x_cons ?_
          with_reducible refine x_cb ?_
          with_reducible refine x_cons ?_
          refine ⟨_, rfl, ?_⟩
          with_reducible refine x_cons ?_
          with_reducible refine x_c ?_
          with_reducible refine x_nil ?_
          refine isiX_er T.er G55.sub (RX.mono ex20 d27) .NoBase ?_
          with_reducible refine x_cons ?_
          with_reducible refine x_cb ?_
          with_reducible refine x_cons ?_
          refine ⟨_, rfl, ?_⟩
          with_reducible refine x_cons ?_
          with_reducible refine x_c ?_
          with_reducible refine x_nil ?_
          refine isiX_er T.er G55.sub (RX.mono ex20 d27) .NoNumber ?_
          refine ⟨szle (show 2 ≤ 16777216 from by decide), fun p21 np21 => ?_⟩
          have fr41 : Rs (α := Bool) (F23) [(.bl (decide ((some er3) = some .NoBase))), (.bl (decide ((some er3) = some .NoNumber)))] ([(decide ((some er3) = some .NoBase)), (decide ((some er3) = some .NoNumber))] : (List Bool)) := (Rs_cons (.bl _) (Rs_cons (.bl _) Rs_nil))
          have g30 := Gr.newO (o := .lst [(.bl (decide ((some er3) = some .NoBase))), (.bl (decide ((some er3) = some .NoNumber)))]) G55.sub np21
          have o56 := Ow.new (us := [(.bl (decide ((some er3) = some .NoBase))), (.bl (decide ((some er3) = some .NoNumber)))]) G55 np21
          have ne16 := o55.ne_new np21
          have G56 := G55.step g30
          have o57 := o55.step g30
          obtain ⟨c3, hm⟩ := guardp hm
          refine ⟨_, _, _, _, rfl, rfl, (G56.sub _ _ fa27), o56.at_, szle (by rw [Rs_len (Rs_mono (Sub.refl _) fr40), Rs_len fr41]; exact c3), fun p22 np22 => ?_⟩
          have fr42 : Rs (α := Bool) (F23) ([(.bl (decide ((some er3) = some .NoText))), (.bl (decide ((some er3) = some .NoRule)))] ++ [(.bl (decide ((some er3) = some .NoBase))), (.bl (decide ((some er3) = some .NoNumber)))]) (([(decide ((some er3) = some .NoText)), (decide ((some er3) = some .NoRule))] : (List Bool)) ++ ([(decide ((some er3) = some .NoBase)), (decide ((some er3) = some .NoNumber))] : (List Bool))) := Rs_app (Rs_mono (Sub.refl _) fr40) fr41
          have g31 := Gr.newO (o := .lst ([(.bl (decide ((some er3) = some .NoText))), (.bl (decide ((some er3) = some .NoRule)))] ++ [(.bl (decide ((some er3) = some .NoBase))), (.bl (decide ((some er3) = some .NoNumber)))])) G56.sub np22
          have o58 := Ow.new (us := ([(.bl (decide ((some er3) = some .NoText))), (.bl (decide ((some er3) = some .NoRule)))] ++ [(.bl (decide ((some er3) = some .NoBase))), (.bl (decide ((some er3) = some .NoNumber)))])) G56 np22
          have ne17 := o57.ne_new np22
          have G57 := G56.step g31
          have o59 := o57.step g31
          obtain ⟨F24, G58, ex21, fa28, nf21⟩ := o58.frzE G57
          have o60 := o59.frzN (Ne.symm (Ne.symm ne17)) nf21
          have fr43 := Rs_mono ex21 fr42
          obtain ⟨x9, hx9, hm⟩ := bindp hm
          replace hx9 := Option.some.inj hx9
          have fr44 : Rs (α := Bool) (F24) ([(.bl (decide ((some er3) = some .NoText))), (.bl (decide ((some er3) = some .NoRule)))] ++ [(.bl (decide ((some er3) = some .NoBase))), (.bl (decide ((some er3) = some .NoNumber)))]) x9 := by rw [← hx9]; exact (Rs_mono (Sub.refl _) fr43)
          have fa29 := (Sub.refl _) _ _ fa28
          clear hx9
          with_reducible refine x_gnE (σ' := ([some (.int ask), some v_base, some v_thing, some (.ref p1), some (.ref a5), some (.ref p22), none] : L2.St)) (by with_unfolding_all rfl) ?_
          with_reducible refine x_seq ?_
          with_reducible refine x_asg ?_
          with_reducible refine x_cb ?_
          with_reducible refine x_cons ?_
          refine ⟨_, rfl, ?_⟩
          with_reducible refine x_cons ?_
          with_reducible refine x_tup ?_
          with_reducible refine x_cons ?_
          with_reducible refine x_c ?_
          with_reducible refine x_cons ?_
          with_reducible refine x_c ?_
          with_reducible refine x_cons ?_
          with_reducible refine x_c ?_
          with_reducible refine x_cons ?_
          with_reducible refine x_c ?_
          with_reducible refine x_cons ?_
          with_reducible refine x_c ?_
          with_reducible refine x_nil ?_
          refine ⟨szle (show 5 ≤ 16777216 from by decide), fun p23 np23 => ?_⟩
          have g32 := Gr.newO (o := .tup [.ref (ErT.ad .Endless), .ref (ErT.ad .NoFigures), .ref (ErT.ad .NoGood), .ref (ErT.ad .NoName), .ref (ErT.ad .NoRow)]) G58.sub np23
          have G59 := G58.step g32
          have o61 := o60.step g32
          with_reducible refine x_nil ?_
          refine isiXT_er T.er [.Endless, .NoFigures, .NoGood, .NoName, .NoRow] G59.sub (RX.mono (ex20.trans ex21) d27) upd_same ?_
          with_reducible refine x_gnE (σ' := ([some (.int ask), some v_base, some v_thing, some (.ref p1), some (.ref a5), some (.ref p22), some (.bl (erIn (some er3) [.Endless, .NoFigures, .NoGood, .NoName, .NoRow]))] : L2.St)) (by with_unfolding_all rfl) ?_
          with_reducible refine x_seq ?_
          with_reducible refine x_asg ?_
          with_reducible refine x_orV ?_
          refine ⟨_, rfl, ?_⟩
          refine ⟨_, rfl, ?_⟩
          refine ifD (fun hc => ?_) (fun hc => ?_)
          · replace hm := itep hm hc
            with_reducible refine x_gnE (σ' := ([some (.int ask), some v_base, some v_thing, some (.ref p1), some (.ref a5), some (.ref p22), some (.bl true)] : L2.St)) (by with_unfolding_all rfl) ?_
            with_reducible refine x_seq ?_
            with_reducible refine x_asg ?_
            with_reducible refine x_lst ?_
            with_reducible refine x_cons ?_
            with_reducible refine x_c ?_
            have d28 : R (α := PyData) (F24) (.bl true) (PyData.bool true) := (.bl _)
            with_reducible refine x_cons ?_
            with_reducible refine x_c ?_
            have d29 : R (α := PyData) (F24) (.str ("other" : Str)) (PyData.str ("other" : Str)) := (.str _)
            refine ⟨szle (show 2 ≤ 16777216 from by decide), fun p24 np24 => ?_⟩
            have fr45 : Rs (α := PyData) (F24) [(.bl true), (.str ("other" : Str))] ([(PyData.bool true), (PyData.str ("other" : Str))] : (List PyData)) := (Rs_cons (RD.mono (Sub.refl _) d28) (Rs_cons (RD.mono (Sub.refl _) d29) Rs_nil))
            have g33 := Gr.newO (o := .lst [(.bl true), (.str ("other" : Str))]) G59.sub np24
            have o62 := Ow.new (us := [(.bl true), (.str ("other" : Str))]) G59 np24
            have ne18 := o61.ne_new np24
            have G60 := G59.step g33
            have o63 := o61.step g33
            with_reducible refine x_gnE (σ' := ([some (.int ask), some v_base, some v_thing, some (.ref p24), some (.ref a5), some (.ref p22), some (.bl true)] : L2.St)) (by with_unfolding_all rfl) ?_
            with_reducible refine x_if ?_
            with_reducible refine x_and ?_
            with_reducible refine x_B ?_
            with_reducible refine x_cb ?_
            with_reducible refine x_cons ?_
            refine ⟨_, rfl, ?_⟩
            with_reducible refine x_cons ?_
            with_reducible refine x_c ?_
            with_reducible refine x_nil ?_
            refine isiX_ve T.er G60.sub (RX.mono (ex20.trans ex21) d27) ?_
            refine ⟨_, rfl, ?_⟩
            refine ifD (fun hc => ?_) (fun hc => ?_)
            · replace hm := itep hm hc
              with_reducible refine x_and ?_
              with_reducible refine x_not ?_
              with_reducible refine x_B ?_
              refine ⟨_, rfl, ?_⟩
              refine ⟨_, rfl, ?_⟩
              refine iteF ?_
              refine iteF ?_
              with_reducible refine x_next ?_
              refine x_nxS (σ' := ([some (.int ask), some v_base, some v_thing, some (.ref p24), none, some (.ref p22), some (.bl true)] : L2.St)) (by with_unfolding_all rfl) ?_
              with_reducible refine x_ret ?_
              refine ⟨_, rfl, ?_⟩
              obtain ⟨F25, G61, ex22, fa30, nf22⟩ := o62.frzE G60
              have fr46 := Rs_mono ex22 fr45
              obtain rfl : _ = r := Option.some.inj hm
              exact q _ _ _ G61 (mk_lst ((Sub.refl _) _ _ fa30) (Rs_mono (Sub.refl _) fr46))
            · replace hm := iten hm (bF hc)
              refine iteF ?_
              with_reducible refine x_next ?_
              refine x_nxS (σ' := ([some (.int ask), some v_base, some v_thing, some (.ref p24), none, some (.ref p22), some (.bl true)] : L2.St)) (by with_unfolding_all rfl) ?_
              with_reducible refine x_ret ?_
              refine ⟨_, rfl, ?_⟩
              obtain ⟨F26, G62, ex23, fa31, nf23⟩ := o62.frzE G60
              have fr47 := Rs_mono ex23 fr45
              obtain rfl : _ = r := Option.some.inj hm
              exact q _ _ _ G62 (mk_lst ((Sub.refl _) _ _ fa31) (Rs_mono (Sub.refl _) fr47))
          · replace hm := iten hm (bF hc)
            with_reducible refine x_cb ?_
            with_reducible refine x_cons ?_
            refine ⟨_, rfl, ?_⟩
            with_reducible refine x_cons ?_
            with_reducible refine x_tup ?_
            with_reducible refine x_cons ?_
            with_reducible refine x_c ?_
            with_reducible refine x_cons ?_
            with_reducible refine x_c ?_
            with_reducible refine x_cons ?_
            with_reducible refine x_c ?_
            with_reducible refine x_cons ?_
            with_reducible refine x_c ?_
            with_reducible refine x_nil ?_
            refine ⟨szle (show 4 ≤ 16777216 from by decide), fun p25 np25 => ?_⟩
            have g34 := Gr.newO (o := .tup [.ref (ErT.ad .NoRules), .ref (ErT.ad .NoStand), .ref (ErT.ad .NoStretch), .ref (ErT.ad .TooMany)]) G59.sub np25
            have G63 := G59.step g34
            have o64 := o61.step g34
            with_reducible refine x_nil ?_
            refine isiXT_er T.er [.NoRules, .NoStand, .NoStretch, .TooMany] G63.sub (RX.mono (ex20.trans ex21) d27) upd_same ?_
            with_reducible refine x_gnE (σ' := ([some (.int ask), some v_base, some v_thing, some (.ref p1), some (.ref a5), some (.ref p22), some (.bl (erIn (some er3) [.NoRules, .NoStand, .NoStretch, .TooMany]))] : L2.St)) (by with_unfolding_all rfl) ?_
            with_reducible refine x_seq ?_
            with_reducible refine x_asg ?_
            with_reducible refine x_lst ?_
            with_reducible refine x_cons ?_
            with_reducible refine x_c ?_
            have d30 : R (α := PyData) (F24) (.bl true) (PyData.bool true) := (.bl _)
            with_reducible refine x_cons ?_
            with_reducible refine x_c ?_
            have d31 : R (α := PyData) (F24) (.str ("other" : Str)) (PyData.str ("other" : Str)) := (.str _)
            refine ⟨szle (show 2 ≤ 16777216 from by decide), fun p26 np26 => ?_⟩
            have fr48 : Rs (α := PyData) (F24) [(.bl true), (.str ("other" : Str))] ([(PyData.bool true), (PyData.str ("other" : Str))] : (List PyData)) := (Rs_cons (RD.mono (Sub.refl _) d30) (Rs_cons (RD.mono (Sub.refl _) d31) Rs_nil))
            have g35 := Gr.newO (o := .lst [(.bl true), (.str ("other" : Str))]) G63.sub np26
            have o65 := Ow.new (us := [(.bl true), (.str ("other" : Str))]) G63 np26
            have ne19 := o64.ne_new np26
            have G64 := G63.step g35
            have o66 := o64.step g35
            with_reducible refine x_gnE (σ' := ([some (.int ask), some v_base, some v_thing, some (.ref p26), some (.ref a5), some (.ref p22), some (.bl (erIn (some er3) [.NoRules, .NoStand, .NoStretch, .TooMany]))] : L2.St)) (by with_unfolding_all rfl) ?_
            with_reducible refine x_if ?_
            with_reducible refine x_and ?_
            with_reducible refine x_B ?_
            with_reducible refine x_cb ?_
            with_reducible refine x_cons ?_
            refine ⟨_, rfl, ?_⟩
            with_reducible refine x_cons ?_
            with_reducible refine x_c ?_
            with_reducible refine x_nil ?_
            refine isiX_ve T.er G64.sub (RX.mono (ex20.trans ex21) d27) ?_
            refine ⟨_, rfl, ?_⟩
            refine ifD (fun hc => ?_) (fun hc => ?_)
            · replace hm := itep hm hc
              with_reducible refine x_and ?_
              with_reducible refine x_not ?_
              with_reducible refine x_B ?_
              refine ⟨_, rfl, ?_⟩
              refine ⟨_, rfl, ?_⟩
              refine ifD (fun hc => ?_) (fun hc => ?_)
              · replace hm := itep hm hc
                with_reducible refine x_B ?_
                with_reducible refine x_cmp ?_
                with_reducible refine x_bm ?_
                refine ⟨_, rfl, ?_⟩
                refine ⟨.inl ⟨rfl, _, .inl (.inl (G64.sub _ _ fa29))⟩, ?_⟩
                with_reducible refine x_cons ?_
                with_reducible refine x_c ?_
                refine ⟨_, _, _, true, x9, rfl, rfl, Sub.refl _, (RD.mono G64.sub (mk_lst ((Sub.refl _) _ _ fa29) (Rs_mono (Sub.refl _) fr44))), (RD.mono G64.sub (.bl _)), ?_⟩
                with_reducible refine x_c ?_
                refine ⟨_, _, rfl, rfl, ?_⟩
                refine ⟨_, rfl, ?_⟩
                refine ifD (fun hc => ?_) (fun hc => ?_)
                · replace hm := itep hm hc
                  with_reducible refine x_asg ?_
                  with_reducible refine x_lst ?_
                  with_reducible refine x_cons ?_
                  with_reducible refine x_c ?_
                  have d32 : R (α := PyData) (F24) (.bl true) (PyData.bool true) := (.bl _)
                  with_reducible refine x_cons ?_
                  with_reducible refine x_op ?_
                  with_reducible refine x_lst ?_
                  with_reducible refine x_cons ?_
                  with_reducible refine x_c ?_
                  with_reducible refine x_cons ?_
                  with_reducible refine x_c ?_
                  with_reducible refine x_cons ?_
                  with_reducible refine x_c ?_
                  with_reducible refine x_cons ?_
                  with_reducible refine x_c ?_
                  obtain ⟨x10, hx10, hm⟩ := bindp hm
                  replace hx10 := Option.some.inj hx10
                  refine ⟨szle (show 4 ≤ 16777216 from by decide), fun p27 np27 => ?_⟩
                  have he3 : ([(.str ("text" : Str)), (.str ("rule" : Str)), (.str ("base" : Str)), (.str ("number" : Str))] : List V) = x10.map V.str := by rw [← hx10]; rfl
                  rw [he3]
                  clear he3 hx10
                  have g36 := Gr.newO (o := .lst (x10.map V.str)) G64.sub np27
                  have o67 := Ow.new (us := (x10.map V.str)) G64 np27
                  have ne20 := o65.ne_new np27
                  have G65 := G64.step g36
                  have o68 := o65.step g36
                  with_reducible refine x_bm ?_
                  refine ⟨_, rfl, ?_⟩
                  refine ⟨.inl ⟨rfl, _, .inl (.inl (G65.sub _ _ fa29))⟩, ?_⟩
                  with_reducible refine x_cons ?_
                  with_reducible refine x_c ?_
                  with_reducible refine x_nil ?_
                  obtain ⟨x11, hx11, hm⟩ := bindp hm
                  refine index_of (G65.sub _ _ fa29) (Rs_mono (Sub.refl _) fr44) hx11 ?_
                  obtain ⟨x12, hx12, hm⟩ := bindp hm
                  obtain ⟨v8, hu3, d33⟩ := Rs_at (strs_Rs (F := F24) x10) hx12
                  refine ⟨_, _, _, _, rfl, rfl, .inl (.inl o67.at_), hu3, ?_⟩
                  obtain rfl := str_of d33
                  have d34 : R (α := PyData) (F24) (.str x12) (PyData.str x12) := (.str _)
                  refine ⟨szle (show 2 ≤ 16777216 from by decide), fun p28 np28 => ?_⟩
                  have fr49 : Rs (α := PyData) (F24) [(.bl true), (.str x12)] ([(PyData.bool true), (PyData.str x12)] : (List PyData)) := (Rs_cons (RD.mono (Sub.refl _) d32) (Rs_cons (RD.mono (Sub.refl _) d34) Rs_nil))
                  have g37 := Gr.newO (o := .lst [(.bl true), (.str x12)]) G65.sub np28
                  have o69 := Ow.new (us := [(.bl true), (.str x12)]) G65 np28
                  have ne21 := o68.ne_new np28
                  have G66 := G65.step g37
                  have o70 := o68.step g37
                  with_reducible refine x_gnE (σ' := ([some (.int ask), some v_base, some v_thing, some (.ref p28), some (.ref a5), some (.ref p22), some (.bl (erIn (some er3) [.NoRules, .NoStand, .NoStretch, .TooMany]))] : L2.St)) (by with_unfolding_all rfl) ?_
                  refine x_nxS (σ' := ([some (.int ask), some v_base, some v_thing, some (.ref p28), none, some (.ref p22), some (.bl (erIn (some er3) [.NoRules, .NoStand, .NoStretch, .TooMany]))] : L2.St)) (by with_unfolding_all rfl) ?_
                  with_reducible refine x_ret ?_
                  refine ⟨_, rfl, ?_⟩
                  obtain ⟨F27, G67, ex24, fa32, nf24⟩ := o69.frzE G66
                  have fr50 := Rs_mono ex24 fr49
                  obtain rfl : _ = r := Option.some.inj hm
                  exact q _ _ _ G67 (mk_lst ((Sub.refl _) _ _ fa32) (Rs_mono (Sub.refl _) fr50))
                · replace hm := iten hm (bF hc)
                  with_reducible refine x_next ?_
                  refine x_nxS (σ' := ([some (.int ask), some v_base, some v_thing, some (.ref p26), none, some (.ref p22), some (.bl (erIn (some er3) [.NoRules, .NoStand, .NoStretch, .TooMany]))] : L2.St)) (by with_unfolding_all rfl) ?_
                  with_reducible refine x_ret ?_
                  refine ⟨_, rfl, ?_⟩
                  obtain ⟨F28, G68, ex25, fa33, nf25⟩ := o65.frzE G64
                  have fr51 := Rs_mono ex25 fr48
                  obtain rfl : _ = r := Option.some.inj hm
                  exact q _ _ _ G68 (mk_lst ((Sub.refl _) _ _ fa33) (Rs_mono (Sub.refl _) fr51))
              · replace hm := iten hm (bF hc)
                refine iteF ?_
                with_reducible refine x_next ?_
                refine x_nxS (σ' := ([some (.int ask), some v_base, some v_thing, some (.ref p26), none, some (.ref p22), some (.bl (erIn (some er3) [.NoRules, .NoStand, .NoStretch, .TooMany]))] : L2.St)) (by with_unfolding_all rfl) ?_
                with_reducible refine x_ret ?_
                refine ⟨_, rfl, ?_⟩
                obtain ⟨F29, G69, ex26, fa34, nf26⟩ := o65.frzE G64
                have fr52 := Rs_mono ex26 fr48
                obtain rfl : _ = r := Option.some.inj hm
                exact q _ _ _ G69 (mk_lst ((Sub.refl _) _ _ fa34) (Rs_mono (Sub.refl _) fr52))
            · replace hm := iten hm (bF hc)
              refine iteF ?_
              with_reducible refine x_next ?_
              refine x_nxS (σ' := ([some (.int ask), some v_base, some v_thing, some (.ref p26), none, some (.ref p22), some (.bl (erIn (some er3) [.NoRules, .NoStand, .NoStretch, .TooMany]))] : L2.St)) (by with_unfolding_all rfl) ?_
              with_reducible refine x_ret ?_
              refine ⟨_, rfl, ?_⟩
              obtain ⟨F30, G70, ex27, fa35, nf27⟩ := o65.frzE G64
              have fr53 := Rs_mono ex27 fr48
              obtain rfl : _ = r := Option.some.inj hm
              exact q _ _ _ G70 (mk_lst ((Sub.refl _) _ _ fa35) (Rs_mono (Sub.refl _) fr53))
      · replace hm := iten hm (bF hc)
        with_reducible refine x_asg ?_
        with_reducible refine x_callS ?_
        with_reducible refine x_cons ?_
        refine ⟨_, rfl, ?_⟩
        with_reducible refine x_cons ?_
        refine ⟨_, rfl, ?_⟩
        obtain ⟨r4, hr4, hm⟩ := bindp hm
        refine ⟨_, _, _, base, thing, r4, rfl, G48.sub, (RD.mono (Sub.refl _) f_base), (RD.mono (Sub.refl _) f_thing), hr4, fun y4 e9 N4 H7 v9 g38 d35 => ?_, fun er4 e9 N4 H7 g38 => ?_⟩
        · subst e9; rw [exB_ok] at hm
          have G71 := G48.step g38
          have o71 := o48.step g38
          obtain rfl := str_of d35
          refine ⟨_, rfl, ?_⟩
          with_reducible refine x_c ?_
          have d36 : R (α := PyData) (N4) (.str y4) (PyData.str y4) := (.str _)
          obtain ⟨j4, hj4, hm⟩ := bindp hm
          refine ⟨_, _, _, _, rfl, rfl, o71.at_, (by rw [Rs_len (Rs_mono g38.ex fr1)]; exact hj4), ?_⟩
          have G72 := o71.mutG (o := .lst ([(.bl false), .non].set j4 (.str y4))) G71
          have o72 := o71.mut (ws := [(.bl false), .non].set j4 (.str y4))
          have fr54 : Rs (α := PyData) (N4) ([(.bl false), .non].set j4 (.str y4)) (([(PyData.bool false), PyData.none] : (List PyData)).set j4 (PyData.str y4)) := Rs_set (Rs_mono g38.ex fr1) (RD.mono (Sub.refl _) d36)
          with_reducible refine x_ret ?_
          refine ⟨_, rfl, ?_⟩
          obtain ⟨F31, G73, ex28, fa36, nf28⟩ := o72.frzE G72
          have fr55 := Rs_mono ex28 fr54
          obtain rfl : _ = r := Option.some.inj hm
          exact q _ _ _ G73 (mk_lst ((Sub.refl _) _ _ fa36) (Rs_mono (Sub.refl _) fr55))
        · subst e9; rw [exB_err] at hm
          have G74 := G48.step g38
          have o73 := o48.step g38
          refine x_keep T.er (fun a6 na4 => ?_)
          obtain ⟨F32, g39, fa37⟩ := Gr.newE (o := EV (ErT.ad er4) a6) G74.sub na4
          have G75 := G74.step g39
          have o74 := o73.step g39
          have d37 : RX F32 (.ref a6) (some er4) := ⟨_, rfl, fa37⟩
          refine x_stE (σ' := ([some (.int ask), some v_base, some v_thing, some (.ref p1), some (.ref a6), none, none] : L2.St)) (by with_unfolding_all rfl) ?_
          with_reducible refine x_seq ?_
          with_reducible refine x_asg ?_
          with_reducible refine x_lst ?_
          with_reducible refine x_cons ?_
          with_reducible refine x_cb ?_
          with_reducible refine x_cons ?_
          refine ⟨_, rfl, ?_⟩
          with_reducible refine x_cons ?_
          with_reducible refine x_c ?_
          with_reducible refine x_nil ?_
          refine isiX_er T.er G75.sub (RX.mono (Sub.refl _) d37) .NoText ?_
          with_reducible refine x_cons ?_
          with_reducible refine x_cb ?_
          with_reducible refine x_cons ?_
          refine ⟨_, rfl, ?_⟩
          with_reducible refine x_cons ?_
          with_reducible refine x_c ?_
          with_reducible refine x_nil ?_
          refine isiX_er T.er G75.sub (RX.mono (Sub.refl _) d37) .NoRule ?_
          refine ⟨szle (show 2 ≤ 16777216 from by decide), fun p29 np29 => ?_⟩
          have fr56 : Rs (α := Bool) (F32) [(.bl (decide ((some er4) = some .NoText))), (.bl (decide ((some er4) = some .NoRule)))] ([(decide ((some er4) = some .NoText)), (decide ((some er4) = some .NoRule))] : (List Bool)) := (Rs_cons (.bl _) (Rs_cons (.bl _) Rs_nil))
          have g40 := Gr.newO (o := .lst [(.bl (decide ((some er4) = some .NoText))), (.bl (decide ((some er4) = some .NoRule)))]) G75.sub np29
          have o75 := Ow.new (us := [(.bl (decide ((some er4) = some .NoText))), (.bl (decide ((some er4) = some .NoRule)))]) G75 np29
          have ne22 := o74.ne_new np29
          have G76 := G75.step g40
          have o76 := o74.step g40
          obtain ⟨F33, G77, ex29, fa38, nf29⟩ := o75.frzE G76
          have o77 := o76.frzN (Ne.symm (Ne.symm ne22)) nf29
          have fr57 := Rs_mono ex29 fr56
          with_reducible refine x_gnE (σ' := ([some (.int ask), some v_base, some v_thing, some (.ref p1), some (.ref a6), some (.ref p29), none] : L2.St)) (by with_unfolding_all rfl) ?_
          with_reducible refine x_seq ?_
          with_reducible refine x_asg ?_
          with_reducible refine x_op ?_
          refine ⟨_, rfl, ?_⟩
          with_reducible refine x_lst ?_
          with_reducible refine x_cons ?_
          with_reducible refine x_cb ?_
          with_reducible refine x_cons ?_
          refine ⟨_, rfl, ?_⟩
          with_reducible refine x_cons ?_
          with_reducible refine x_c ?_
          with_reducible refine x_nil ?_
          refine isiX_er T.er G77.sub (RX.mono ex29 d37) .NoBase ?_
          with_reducible refine x_cons ?_
          with_reducible refine x_cb ?_
          with_reducible refine x_cons ?_
          refine ⟨_, rfl, ?_⟩
          with_reducible refine x_cons ?_
          with_reducible refine x_c ?_
          with_reducible refine x_nil ?_
          refine isiX_er T.er G77.sub (RX.mono ex29 d37) .NoNumber ?_
          refine ⟨szle (show 2 ≤ 16777216 from by decide), fun p30 np30 => ?_⟩
          have fr58 : Rs (α := Bool) (F33) [(.bl (decide ((some er4) = some .NoBase))), (.bl (decide ((some er4) = some .NoNumber)))] ([(decide ((some er4) = some .NoBase)), (decide ((some er4) = some .NoNumber))] : (List Bool)) := (Rs_cons (.bl _) (Rs_cons (.bl _) Rs_nil))
          have g41 := Gr.newO (o := .lst [(.bl (decide ((some er4) = some .NoBase))), (.bl (decide ((some er4) = some .NoNumber)))]) G77.sub np30
          have o78 := Ow.new (us := [(.bl (decide ((some er4) = some .NoBase))), (.bl (decide ((some er4) = some .NoNumber)))]) G77 np30
          have ne23 := o77.ne_new np30
          have G78 := G77.step g41
          have o79 := o77.step g41
          obtain ⟨c4, hm⟩ := guardp hm
          refine ⟨_, _, _, _, rfl, rfl, (G78.sub _ _ fa38), o78.at_, szle (by rw [Rs_len (Rs_mono (Sub.refl _) fr57), Rs_len fr58]; exact c4), fun p31 np31 => ?_⟩
          have fr59 : Rs (α := Bool) (F33) ([(.bl (decide ((some er4) = some .NoText))), (.bl (decide ((some er4) = some .NoRule)))] ++ [(.bl (decide ((some er4) = some .NoBase))), (.bl (decide ((some er4) = some .NoNumber)))]) (([(decide ((some er4) = some .NoText)), (decide ((some er4) = some .NoRule))] : (List Bool)) ++ ([(decide ((some er4) = some .NoBase)), (decide ((some er4) = some .NoNumber))] : (List Bool))) := Rs_app (Rs_mono (Sub.refl _) fr57) fr58
          have g42 := Gr.newO (o := .lst ([(.bl (decide ((some er4) = some .NoText))), (.bl (decide ((some er4) = some .NoRule)))] ++ [(.bl (decide ((some er4) = some .NoBase))), (.bl (decide ((some er4) = some .NoNumber)))])) G78.sub np31
          have o80 := Ow.new (us := ([(.bl (decide ((some er4) = some .NoText))), (.bl (decide ((some er4) = some .NoRule)))] ++ [(.bl (decide ((some er4) = some .NoBase))), (.bl (decide ((some er4) = some .NoNumber)))])) G78 np31
          have ne24 := o79.ne_new np31
          have G79 := G78.step g42
          have o81 := o79.step g42
          obtain ⟨F34, G80, ex30, fa39, nf30⟩ := o80.frzE G79
          have o82 := o81.frzN (Ne.symm (Ne.symm ne24)) nf30
          have fr60 := Rs_mono ex30 fr59
          obtain ⟨x13, hx13, hm⟩ := bindp hm
          replace hx13 := Option.some.inj hx13
          have fr61 : Rs (α := Bool) (F34) ([(.bl (decide ((some er4) = some .NoText))), (.bl (decide ((some er4) = some .NoRule)))] ++ [(.bl (decide ((some er4) = some .NoBase))), (.bl (decide ((some er4) = some .NoNumber)))]) x13 := by rw [← hx13]; exact (Rs_mono (Sub.refl _) fr60)
          have fa40 := (Sub.refl _) _ _ fa39
          clear hx13
          with_reducible refine x_gnE (σ' := ([some (.int ask), some v_base, some v_thing, some (.ref p1), some (.ref a6), some (.ref p31), none] : L2.St)) (by with_unfolding_all rfl) ?_
          with_reducible refine x_seq ?_
          with_reducible refine x_asg ?_
          with_reducible refine x_cb ?_
          with_reducible refine x_cons ?_
          refine ⟨_, rfl, ?_⟩
          with_reducible refine x_cons ?_
          with_reducible refine x_tup ?_
          with_reducible refine x_cons ?_
          with_reducible refine x_c ?_
          with_reducible refine x_cons ?_
          with_reducible refine x_c ?_
          with_reducible refine x_cons ?_
          with_reducible refine x_c ?_
          with_reducible refine x_cons ?_
          with_reducible refine x_c ?_
          with_reducible refine x_cons ?_
          with_reducible refine x_c ?_
          with_reducible refine x_nil ?_
          refine ⟨szle (show 5 ≤ 16777216 from by decide), fun p32 np32 => ?_⟩
          have g43 := Gr.newO (o := .tup [.ref (ErT.ad .Endless), .ref (ErT.ad .NoFigures), .ref (ErT.ad .NoGood), .ref (ErT.ad .NoName), .ref (ErT.ad .NoRow)]) G80.sub np32
          have G81 := G80.step g43
          have o83 := o82.step g43
          with_reducible refine x_nil ?_
          refine isiXT_er T.er [.Endless, .NoFigures, .NoGood, .NoName, .NoRow] G81.sub (RX.mono (ex29.trans ex30) d37) upd_same ?_
          with_reducible refine x_gnE (σ' := ([some (.int ask), some v_base, some v_thing, some (.ref p1), some (.ref a6), some (.ref p31), some (.bl (erIn (some er4) [.Endless, .NoFigures, .NoGood, .NoName, .NoRow]))] : L2.St)) (by with_unfolding_all rfl) ?_
          with_reducible refine x_seq ?_
          with_reducible refine x_asg ?_
          with_reducible refine x_orV ?_
          refine ⟨_, rfl, ?_⟩
          refine ⟨_, rfl, ?_⟩
          refine ifD (fun hc => ?_) (fun hc => ?_)
          · replace hm := itep hm hc
            with_reducible refine x_gnE (σ' := ([some (.int ask), some v_base, some v_thing, some (.ref p1), some (.ref a6), some (.ref p31), some (.bl true)] : L2.St)) (by with_unfolding_all rfl) ?_
            with_reducible refine x_seq ?_
            with_reducible refine x_asg ?_
            with_reducible refine x_lst ?_
            with_reducible refine x_cons ?_
            with_reducible refine x_c ?_
            have d38 : R (α := PyData) (F34) (.bl true) (PyData.bool true) := (.bl _)
            with_reducible refine x_cons ?_
            with_reducible refine x_c ?_
            have d39 : R (α := PyData) (F34) (.str ("other" : Str)) (PyData.str ("other" : Str)) := (.str _)
            refine ⟨szle (show 2 ≤ 16777216 from by decide), fun p33 np33 => ?_⟩
            have fr62 : Rs (α := PyData) (F34) [(.bl true), (.str ("other" : Str))] ([(PyData.bool true), (PyData.str ("other" : Str))] : (List PyData)) := (Rs_cons (RD.mono (Sub.refl _) d38) (Rs_cons (RD.mono (Sub.refl _) d39) Rs_nil))
            have g44 := Gr.newO (o := .lst [(.bl true), (.str ("other" : Str))]) G81.sub np33
            have o84 := Ow.new (us := [(.bl true), (.str ("other" : Str))]) G81 np33
            have ne25 := o83.ne_new np33
            have G82 := G81.step g44
            have o85 := o83.step g44
            with_reducible refine x_gnE (σ' := ([some (.int ask), some v_base, some v_thing, some (.ref p33), some (.ref a6), some (.ref p31), some (.bl true)] : L2.St)) (by with_unfolding_all rfl) ?_
            with_reducible refine x_if ?_
            with_reducible refine x_and ?_
            with_reducible refine x_B ?_
            with_reducible refine x_cb ?_
            with_reducible refine x_cons ?_
            refine ⟨_, rfl, ?_⟩
            with_reducible refine x_cons ?_
            with_reducible refine x_c ?_
            with_reducible refine x_nil ?_
            refine isiX_ve T.er G82.sub (RX.mono (ex29.trans ex30) d37) ?_
            refine ⟨_, rfl, ?_⟩
            refine ifD (fun hc => ?_) (fun hc => ?_)
            · replace hm := itep hm hc
              with_reducible refine x_and ?_
              with_reducible refine x_not ?_
              with_reducible refine x_B ?_
              refine ⟨_, rfl, ?_⟩
              refine ⟨_, rfl, ?_⟩
              refine iteF ?_
              refine iteF ?_
              with_reducible refine x_next ?_
              refine x_nxS (σ' := ([some (.int ask), some v_base, some v_thing, some (.ref p33), none, some (.ref p31), some (.bl true)] : L2.St)) (by with_unfolding_all rfl) ?_
              with_reducible refine x_ret ?_
              refine ⟨_, rfl, ?_⟩
              obtain ⟨F35, G83, ex31, fa41, nf31⟩ := o84.frzE G82
              have fr63 := Rs_mono ex31 fr62
              obtain rfl : _ = r := Option.some.inj hm
              exact q _ _ _ G83 (mk_lst ((Sub.refl _) _ _ fa41) (Rs_mono (Sub.refl _) fr63))
            · replace hm := iten hm (bF hc)
              refine iteF ?_
              with_reducible refine x_next ?_
              refine x_nxS (σ' := ([some (.int ask), some v_base, some v_thing, some (.ref p33), none, some (.ref p31), some (.bl true)] : L2.St)) (by with_unfolding_all rfl) ?_
              with_reducible refine x_ret ?_
              refine ⟨_, rfl, ?_⟩
              obtain ⟨F36, G84, ex32, fa42, nf32⟩ := o84.frzE G82
              have fr64 := Rs_mono ex32 fr62
              obtain rfl : _ = r := Option.some.inj hm
              exact q _ _ _ G84 (mk_lst ((Sub.refl _) _ _ fa42) (Rs_mono (Sub.refl _) fr64))
          · replace hm := iten hm (bF hc)
            with_reducible refine x_cb ?_
            with_reducible refine x_cons ?_
            refine ⟨_, rfl, ?_⟩
            with_reducible refine x_cons ?_
            with_reducible refine x_tup ?_
            with_reducible refine x_cons ?_
            with_reducible refine x_c ?_
            with_reducible refine x_cons ?_
            with_reducible refine x_c ?_
            with_reducible refine x_cons ?_
            with_reducible refine x_c ?_
            with_reducible refine x_cons ?_
            with_reducible refine x_c ?_
            with_reducible refine x_nil ?_
            refine ⟨szle (show 4 ≤ 16777216 from by decide), fun p34 np34 => ?_⟩
            have g45 := Gr.newO (o := .tup [.ref (ErT.ad .NoRules), .ref (ErT.ad .NoStand), .ref (ErT.ad .NoStretch), .ref (ErT.ad .TooMany)]) G81.sub np34
            have G85 := G81.step g45
            have o86 := o83.step g45
            with_reducible refine x_nil ?_
            refine isiXT_er T.er [.NoRules, .NoStand, .NoStretch, .TooMany] G85.sub (RX.mono (ex29.trans ex30) d37) upd_same ?_
            with_reducible refine x_gnE (σ' := ([some (.int ask), some v_base, some v_thing, some (.ref p1), some (.ref a6), some (.ref p31), some (.bl (erIn (some er4) [.NoRules, .NoStand, .NoStretch, .TooMany]))] : L2.St)) (by with_unfolding_all rfl) ?_
            with_reducible refine x_seq ?_
            with_reducible refine x_asg ?_
            with_reducible refine x_lst ?_
            with_reducible refine x_cons ?_
            with_reducible refine x_c ?_
            have d40 : R (α := PyData) (F34) (.bl true) (PyData.bool true) := (.bl _)
            with_reducible refine x_cons ?_
            with_reducible refine x_c ?_
            have d41 : R (α := PyData) (F34) (.str ("other" : Str)) (PyData.str ("other" : Str)) := (.str _)
            refine ⟨szle (show 2 ≤ 16777216 from by decide), fun p35 np35 => ?_⟩
            have fr65 : Rs (α := PyData) (F34) [(.bl true), (.str ("other" : Str))] ([(PyData.bool true), (PyData.str ("other" : Str))] : (List PyData)) := (Rs_cons (RD.mono (Sub.refl _) d40) (Rs_cons (RD.mono (Sub.refl _) d41) Rs_nil))
            have g46 := Gr.newO (o := .lst [(.bl true), (.str ("other" : Str))]) G85.sub np35
            have o87 := Ow.new (us := [(.bl true), (.str ("other" : Str))]) G85 np35
            have ne26 := o86.ne_new np35
            have G86 := G85.step g46
            have o88 := o86.step g46
            with_reducible refine x_gnE (σ' := ([some (.int ask), some v_base, some v_thing, some (.ref p35), some (.ref a6), some (.ref p31), some (.bl (erIn (some er4) [.NoRules, .NoStand, .NoStretch, .TooMany]))] : L2.St)) (by with_unfolding_all rfl) ?_
            with_reducible refine x_if ?_
            with_reducible refine x_and ?_
            with_reducible refine x_B ?_
            with_reducible refine x_cb ?_
            with_reducible refine x_cons ?_
            refine ⟨_, rfl, ?_⟩
            with_reducible refine x_cons ?_
            with_reducible refine x_c ?_
            with_reducible refine x_nil ?_
            refine isiX_ve T.er G86.sub (RX.mono (ex29.trans ex30) d37) ?_
            refine ⟨_, rfl, ?_⟩
            refine ifD (fun hc => ?_) (fun hc => ?_)
            · replace hm := itep hm hc
              with_reducible refine x_and ?_
              with_reducible refine x_not ?_
              with_reducible refine x_B ?_
              refine ⟨_, rfl, ?_⟩
              refine ⟨_, rfl, ?_⟩
              refine ifD (fun hc => ?_) (fun hc => ?_)
              · replace hm := itep hm hc
                with_reducible refine x_B ?_
                with_reducible refine x_cmp ?_
                with_reducible refine x_bm ?_
                refine ⟨_, rfl, ?_⟩
                refine ⟨.inl ⟨rfl, _, .inl (.inl (G86.sub _ _ fa40))⟩, ?_⟩
                with_reducible refine x_cons ?_
                with_reducible refine x_c ?_
                refine ⟨_, _, _, true, x13, rfl, rfl, Sub.refl _, (RD.mono G86.sub (mk_lst ((Sub.refl _) _ _ fa40) (Rs_mono (Sub.refl _) fr61))), (RD.mono G86.sub (.bl _)), ?_⟩
                with_reducible refine x_c ?_
                refine ⟨_, _, rfl, rfl, ?_⟩
                refine ⟨_, rfl, ?_⟩
                refine ifD (fun hc => ?_) (fun hc => ?_)
                · replace hm := itep hm hc
                  with_reducible refine x_asg ?_
                  with_reducible refine x_lst ?_
                  with_reducible refine x_cons ?_
                  with_reducible refine x_c ?_
                  have d42 : R (α := PyData) (F34) (.bl true) (PyData.bool true) := (.bl _)
                  with_reducible refine x_cons ?_
                  with_reducible refine x_op ?_
                  with_reducible refine x_lst ?_
                  with_reducible refine x_cons ?_
                  with_reducible refine x_c ?_
                  with_reducible refine x_cons ?_
                  with_reducible refine x_c ?_
                  with_reducible refine x_cons ?_
                  with_reducible refine x_c ?_
                  with_reducible refine x_cons ?_
                  with_reducible refine x_c ?_
                  obtain ⟨x14, hx14, hm⟩ := bindp hm
                  replace hx14 := Option.some.inj hx14
                  refine ⟨szle (show 4 ≤ 16777216 from by decide), fun p36 np36 => ?_⟩
                  have he4 : ([(.str ("text" : Str)), (.str ("rule" : Str)), (.str ("base" : Str)), (.str ("number" : Str))] : List V) = x14.map V.str := by rw [← hx14]; rfl
                  rw [he4]
                  clear he4 hx14
                  have g47 := Gr.newO (o := .lst (x14.map V.str)) G86.sub np36
                  have o89 := Ow.new (us := (x14.map V.str)) G86 np36
                  have ne27 := o87.ne_new np36
                  have G87 := G86.step g47
                  have o90 := o87.step g47
                  with_reducible refine x_bm ?_
                  refine ⟨_, rfl, ?_⟩
                  refine ⟨.inl ⟨rfl, _, .inl (.inl (G87.sub _ _ fa40))⟩, ?_⟩
                  with_reducible refine x_cons ?_
                  with_reducible refine x_c ?_
                  with_reducible refine x_nil ?_
                  obtain ⟨x15, hx15, hm⟩ := bindp hm
                  refine index_of (G87.sub _ _ fa40) (Rs_mono (Sub.refl _) fr61) hx15 ?_
                  obtain ⟨x16, hx16, hm⟩ := bindp hm
                  obtain ⟨v10, hu4, d43⟩ := Rs_at (strs_Rs (F := F34) x14) hx16
                  refine ⟨_, _, _, _, rfl, rfl, .inl (.inl o89.at_), hu4, ?_⟩
                  obtain rfl := str_of d43
                  have d44 : R (α := PyData) (F34) (.str x16) (PyData.str x16) := (.str _)
                  refine ⟨szle (show 2 ≤ 16777216 from by decide), fun p37 np37 => ?_⟩
                  have fr66 : Rs (α := PyData) (F34) [(.bl true), (.str x16)] ([(PyData.bool true), (PyData.str x16)] : (List PyData)) := (Rs_cons (RD.mono (Sub.refl _) d42) (Rs_cons (RD.mono (Sub.refl _) d44) Rs_nil))
                  have g48 := Gr.newO (o := .lst [(.bl true), (.str x16)]) G87.sub np37
                  have o91 := Ow.new (us := [(.bl true), (.str x16)]) G87 np37
                  have ne28 := o90.ne_new np37
                  have G88 := G87.step g48
                  have o92 := o90.step g48
                  with_reducible refine x_gnE (σ' := ([some (.int ask), some v_base, some v_thing, some (.ref p37), some (.ref a6), some (.ref p31), some (.bl (erIn (some er4) [.NoRules, .NoStand, .NoStretch, .TooMany]))] : L2.St)) (by with_unfolding_all rfl) ?_
                  refine x_nxS (σ' := ([some (.int ask), some v_base, some v_thing, some (.ref p37), none, some (.ref p31), some (.bl (erIn (some er4) [.NoRules, .NoStand, .NoStretch, .TooMany]))] : L2.St)) (by with_unfolding_all rfl) ?_
                  with_reducible refine x_ret ?_
                  refine ⟨_, rfl, ?_⟩
                  obtain ⟨F37, G89, ex33, fa43, nf33⟩ := o91.frzE G88
                  have fr67 := Rs_mono ex33 fr66
                  obtain rfl : _ = r := Option.some.inj hm
                  exact q _ _ _ G89 (mk_lst ((Sub.refl _) _ _ fa43) (Rs_mono (Sub.refl _) fr67))
                · replace hm := iten hm (bF hc)
                  with_reducible refine x_next ?_
                  refine x_nxS (σ' := ([some (.int ask), some v_base, some v_thing, some (.ref p35), none, some (.ref p31), some (.bl (erIn (some er4) [.NoRules, .NoStand, .NoStretch, .TooMany]))] : L2.St)) (by with_unfolding_all rfl) ?_
                  with_reducible refine x_ret ?_
                  refine ⟨_, rfl, ?_⟩
                  obtain ⟨F38, G90, ex34, fa44, nf34⟩ := o87.frzE G86
                  have fr68 := Rs_mono ex34 fr65
                  obtain rfl : _ = r := Option.some.inj hm
                  exact q _ _ _ G90 (mk_lst ((Sub.refl _) _ _ fa44) (Rs_mono (Sub.refl _) fr68))
              · replace hm := iten hm (bF hc)
                refine iteF ?_
                with_reducible refine x_next ?_
                refine x_nxS (σ' := ([some (.int ask), some v_base, some v_thing, some (.ref p35), none, some (.ref p31), some (.bl (erIn (some er4) [.NoRules, .NoStand, .NoStretch, .TooMany]))] : L2.St)) (by with_unfolding_all rfl) ?_
                with_reducible refine x_ret ?_
                refine ⟨_, rfl, ?_⟩
                obtain ⟨F39, G91, ex35, fa45, nf35⟩ := o87.frzE G86
                have fr69 := Rs_mono ex35 fr65
                obtain rfl : _ = r := Option.some.inj hm
                exact q _ _ _ G91 (mk_lst ((Sub.refl _) _ _ fa45) (Rs_mono (Sub.refl _) fr69))
            · replace hm := iten hm (bF hc)
              refine iteF ?_
              with_reducible refine x_next ?_
              refine x_nxS (σ' := ([some (.int ask), some v_base, some v_thing, some (.ref p35), none, some (.ref p31), some (.bl (erIn (some er4) [.NoRules, .NoStand, .NoStretch, .TooMany]))] : L2.St)) (by with_unfolding_all rfl) ?_
              with_reducible refine x_ret ?_
              refine ⟨_, rfl, ?_⟩
              obtain ⟨F40, G92, ex36, fa46, nf36⟩ := o87.frzE G86
              have fr70 := Rs_mono ex36 fr65
              obtain rfl : _ = r := Option.some.inj hm
              exact q _ _ _ G92 (mk_lst ((Sub.refl _) _ _ fa46) (Rs_mono (Sub.refl _) fr70))

abbrev N__law_bad : List Str := ["rule", "cell", "base", "bad", "some", "at", "odd", "one"]
theorem sc__law_bad : FnScope N__law_bad ["rule", "cell"] (defScope s__law_bad) := ⟨rfl, rfl, rfl, by decide +kernel, rfl, by decide +kernel, by decide +kernel⟩
def sp__law_bad : Sp := fun vs H Q _ => ∃ (F : Hp) (v_rule : V) (v_cell : V) (rule : (Int × (List (List Int)))) (cell : Int) (r : PyData), vs = [v_rule, v_cell] ∧ Sub F H ∧ R F v_rule rule ∧ R F v_cell cell ∧ _law_bad rule cell = some r ∧ ∀ N H2 v, Gr NA F H N H2 → R N v r → Q v H2
theorem ok__law_bad {P : Program} {w : World} {K : PySem.W.Frag} {mg : Str → Option Value} {base : Heap} (T : Txt K mg) : FnOk P w K mg base CX0 1 T.f__law_bad.f T.f__law_bad.fd ["rule", "cell"] sp__law_bad := by
  have nd := (sc__law_bad).nd
  refine T.f__law_bad.F.ok sc__law_bad (fun vs H Q E h => ?_) (fun cdv A0 outer s H vs Q E hr h => ?_)
  · obtain ⟨_, _, _, _, _, _, rfl, _⟩ := h
    rfl
  obtain ⟨F0, v_rule, v_cell, rule, cell, r, rfl, s0, f_rule, f_cell, hm, q⟩ := h
  have G0 : Gr NA F0 H F0 H := Gr.refl s0
  obtain ⟨a1, v1, v2, rfl, fa1, d1, d2⟩ := tup2_of f_rule
  obtain rfl := int_of d1
  obtain ⟨a2, us1, rfl, fa2, fr1⟩ := lst_of d2
  obtain rfl := int_of f_cell
  refine ⟨_, (pss_cons (ps_asg (pv 0) (pg_tup rfl (pgs_cons (pg_name (i := 2) nd rfl (by first | exact Or.inl rfl | exact Or.inr rfl)) (pgs_cons (pg_name (i := 3) nd rfl (by first | exact Or.inl rfl | exact Or.inr rfl)) pgs_nil)))) (pss_cons (ps_set (i := 4) nd rfl (by first | exact Or.inl rfl | exact Or.inr rfl) (pe_lst (pa_cons pe_non (pa_cons (pv 2) (pa_cons (pe_tup (pa_cons (pv 2) pa_nil)) (pa_cons (pe_lst (pa_cons (pv 2) (pa_cons (pv 3) pa_nil))) (pa_cons (pe_tup (pa_cons (pv 2) (pa_cons (pv 3) (pa_cons pe_int pa_nil)))) (pa_cons (pe_tup (pa_cons pe_int (pa_cons (pe_lst pa_nil) pa_nil))) pa_nil)))))))) (pss_cons (ps_set (i := 4) nd rfl (by first | exact Or.inl rfl | exact Or.inr rfl) (pe_op op_cat (pv 4) (pe_lst (pa_cons (pe_tup (pa_cons pe_int (pa_cons (pe_lst pa_nil) pa_nil))) (pa_cons (pe_tup (pa_cons pe_bl (pa_cons (pe_lst pa_nil) pa_nil))) (pa_cons (pe_tup (pa_cons (pe_callTy call_str_int (by rfl) T.z_str (by decide +kernel) (pa_cons (pv 2) pa_nil)) (pa_cons (pv 3) pa_nil))) pa_nil)))))) (pss_cons (ps_set (i := 4) nd rfl (by first | exact Or.inl rfl | exact Or.inr rfl) (pe_op op_cat (pv 4) (pe_lst (pa_cons (pe_tup (pa_cons (pv 2) (pa_cons pe_non pa_nil))) (pa_cons (pe_tup (pa_cons (pv 2) (pa_cons (pe_callTy (r := rTupL K) call_tupL (by rfl) T.z_tuple (by decide +kernel) (pa_cons (pv 3) pa_nil)) pa_nil))) pa_nil))))) (pss_cons (ps_set (i := 5) nd rfl (by first | exact Or.inl rfl | exact Or.inr rfl) (pe_op op_mod (pe_op op_fdivW (pv 1) pe_int) (pe_op op_add (pe_callB (r := rLenT K) call_lenT (by rfl) T.z_len PySem.boot_len (pa_cons (pv 3) pa_nil)) pe_int))) (pss_cons (ps_set (i := 6) nd rfl (by first | exact Or.inl rfl | exact Or.inr rfl) (pe_lst (pa_cons (pe_lst pa_nil) (pa_cons (pe_lst (pa_cons (pv 2) pa_nil)) (pa_cons (pe_lst (pa_cons (pe_un un_neg pe_int) pa_nil)) (pa_cons (pe_lst (pa_cons pe_bl pa_nil)) (pa_cons (pe_lst (pa_cons pe_non pa_nil)) (pa_cons (pe_lst (pa_cons pe_str pa_nil)) (pa_cons (pe_lst (pa_cons pe_int (pa_cons pe_int (pa_cons pe_int (pa_cons pe_int (pa_cons pe_int pa_nil)))))) (pa_cons (pe_tup (pa_cons pe_int pa_nil)) pa_nil)))))))))) (pss_cons (ps_for PassesOwn.never rfl (pi_list (pe_op op_cat (pv 6) (pe_lst (pa_cons pe_int (pa_cons pe_str (pa_cons pe_non (pa_cons (pe_lst (pa_cons (pe_lst (pa_cons pe_int pa_nil)) pa_nil)) (pa_cons (pe_lst (pa_cons pe_int (pa_cons (pv 2) pa_nil))) (pa_cons (pe_lst (pa_cons pe_int (pa_cons pe_int (pa_cons (pe_un un_neg pe_int) pa_nil)))) pa_nil))))))))) (pg_name (i := 7) nd rfl (by first | exact Or.inl rfl | exact Or.inr rfl)) (pss_one (ps_expr (pe_bm PySem.F.plainAttrs_list PySem.F.slot_list_append PySem.F.type_list_append mt_append (pv 4) (pa_cons (pe_tup (pa_cons (pv 2) (pa_cons (pe_op op_cat (pe_op op_cat (pe_slice (r := rSlL K) sl_list (pv 3) po_none (po_some (pv 5))) (pe_lst (pa_cons (pv 7) pa_nil))) (pe_slice (r := rSlL K) sl_list (pv 3) (po_some (pe_op op_add (pv 5) pe_int)) po_none)) pa_nil))) pa_nil))))) (pss_cons (ps_expr (pe_bm PySem.F.plainAttrs_list PySem.F.slot_list_append PySem.F.type_list_append mt_append (pv 4) (pa_cons (pe_tup (pa_cons (pv 2) (pa_cons (pe_lst (pa_cons (pe_lst (pa_cons pe_int pa_nil)) (pa_cons (pe_lst (pa_cons pe_int (pa_cons pe_int pa_nil))) (pa_cons (pe_lst (pa_cons pe_int pa_nil)) (pa_cons (pe_lst (pa_cons pe_int (pa_cons pe_int pa_nil))) (pa_cons (pe_lst (pa_cons pe_int (pa_cons pe_int pa_nil))) pa_nil)))))) pa_nil))) pa_nil))) (pss_cons (ps_expr (pe_bm PySem.F.plainAttrs_list PySem.F.slot_list_append PySem.F.type_list_append mt_append (pv 4) (pa_cons (pe_tup (pa_cons (pv 2) (pa_cons (pe_lst (pa_cons (pe_lst (pa_cons pe_int pa_nil)) (pa_cons (pe_lst (pa_cons pe_int pa_nil)) pa_nil))) pa_nil))) pa_nil))) (pss_cons (ps_expr (pe_bm PySem.F.plainAttrs_list PySem.F.slot_list_append PySem.F.type_list_append mt_append (pv 4) (pa_cons (pe_tup (pa_cons (pv 2) (pa_cons (pe_lst (pa_cons (pe_lst (pa_cons pe_int (pa_cons pe_int pa_nil))) (pa_cons (pe_lst (pa_cons pe_int (pa_cons pe_int pa_nil))) pa_nil))) pa_nil))) pa_nil))) (Evl.pss_cut (ps_if (pt_cmp (pc_gt (pe_callB (r := rLenT K) call_lenT (by rfl) T.z_len PySem.boot_len (pa_cons (pv 3) pa_nil)) pe_int)) (pss_one (ps_expr (pe_bm PySem.F.plainAttrs_list PySem.F.slot_list_append PySem.F.type_list_append mt_append (pv 4) (pa_cons (pe_tup (pa_cons (pv 2) (pa_cons (pe_revL (pv 3)) pa_nil))) pa_nil)))) pss_nil) (pss_one (ps_ret (pe_ix (r := rIxL K) ix_list (pv 4) (pe_op op_mod (pv 1) (pe_callB (r := rLenT K) call_lenT (by rfl) T.z_len PySem.boot_len (pa_cons (pv 4) pa_nil))) (fun _ _ => rfl))))))))))))))), ?_⟩
  refine x_start (σ' := ([some (.ref a1), some (.int cell), none, none, none, none, none, none] : L2.St)) (by with_unfolding_all rfl) ?_
  rw [_law_bad] at hm
  with_reducible refine x_seq ?_
  with_reducible refine x_asg ?_
  refine ⟨_, rfl, ?_⟩
  refine ⟨_, _, rfl, .inl (.inl (G0.sub _ _ fa1)), rfl, ?_⟩
  refine ⟨_, _, rfl, ?_⟩
  with_reducible refine x_gnE (σ' := ([some (.ref a1), some (.int cell), some (.int (rule).1), none, none, none, none, none] : L2.St)) (by with_unfolding_all rfl) ?_
  refine ⟨_, _, rfl, ?_⟩
  with_reducible refine x_gnE (σ' := ([some (.ref a1), some (.int cell), some (.int (rule).1), some (.ref a2), none, none, none, none] : L2.St)) (by with_unfolding_all rfl) ?_
  refine ⟨rfl, ?_⟩
  with_reducible refine x_seq ?_
  with_reducible refine x_asg ?_
  with_reducible refine x_lst ?_
  with_reducible refine x_cons ?_
  with_reducible refine x_c ?_
  have d3 : R (α := PyData) (F0) .non PyData.none := .non
  with_reducible refine x_cons ?_
  refine ⟨_, rfl, ?_⟩
  have d4 : R (α := PyData) (F0) (.int (rule).1) (PyData.int (rule).1) := (.int _)
  with_reducible refine x_cons ?_
  with_reducible refine x_tup ?_
  with_reducible refine x_cons ?_
  refine ⟨_, rfl, ?_⟩
  have d5 : R (α := PyData) (F0) (.int (rule).1) (PyData.int (rule).1) := (.int _)
  refine ⟨szle (show 1 ≤ 16777216 from by decide), fun p1 np1 => ?_⟩
  obtain ⟨F1, g1, fa3⟩ := Gr.newE (o := .tup [(.int (rule).1)]) G0.sub np1
  have G1 := G0.step g1
  have d6 : R (α := PyData) (F1) (.ref p1) (PyData.tuple [(PyData.int (rule).1)]) := .tup fa3 (.cons (RD.mono g1.ex d5) .nil)
  with_reducible refine x_cons ?_
  with_reducible refine x_lst ?_
  with_reducible refine x_cons ?_
  refine ⟨_, rfl, ?_⟩
  have d7 : R (α := PyData) (F1) (.int (rule).1) (PyData.int (rule).1) := (.int _)
  with_reducible refine x_cons ?_
  refine ⟨_, rfl, ?_⟩
  have d8 : R (α := PyData) (F1) (.ref a2) (PyData.list ((rule).2.map fun z => (PyData.list (z.map fun z => (PyData.int z))))) := (mk_lst (g1.ex _ _ fa2) (Rs_mono g1.ex fr1))
  refine ⟨szle (show 2 ≤ 16777216 from by decide), fun p2 np2 => ?_⟩
  have fr2 : Rs (α := PyData) (F1) [(.int (rule).1), (.ref a2)] ([(PyData.int (rule).1), (PyData.list ((rule).2.map fun z => (PyData.list (z.map fun z => (PyData.int z)))))] : (List PyData)) := (Rs_cons (RD.mono (Sub.refl _) d7) (Rs_cons (RD.mono (Sub.refl _) d8) Rs_nil))
  have g2 := Gr.newO (o := .lst [(.int (rule).1), (.ref a2)]) G1.sub np2
  have o1 := Ow.new (us := [(.int (rule).1), (.ref a2)]) G1 np2
  have G2 := G1.step g2
  obtain ⟨F2, G3, ex1, fa4, nf1⟩ := o1.frzE G2
  have fr3 := Rs_mono ex1 fr2
  have d9 : R (α := PyData) (F2) (.ref p2) (PyData.list ([(PyData.int (rule).1), (PyData.list ((rule).2.map fun z => (PyData.list (z.map fun z => (PyData.int z)))))] : (List PyData))) := (R_anyL (mk_lst ((Sub.refl _) _ _ fa4) (Rs_mono (Sub.refl _) fr3)))
  with_reducible refine x_cons ?_
  with_reducible refine x_tup ?_
  with_reducible refine x_cons ?_
  refine ⟨_, rfl, ?_⟩
  have d10 : R (α := PyData) (F2) (.int (rule).1) (PyData.int (rule).1) := (.int _)
  with_reducible refine x_cons ?_
  refine ⟨_, rfl, ?_⟩
  have d11 : R (α := PyData) (F2) (.ref a2) (PyData.list ((rule).2.map fun z => (PyData.list (z.map fun z => (PyData.int z))))) := (mk_lst ((g1.ex.trans ex1) _ _ fa2) (Rs_mono (g1.ex.trans ex1) fr1))
  with_reducible refine x_cons ?_
  with_reducible refine x_c ?_
  have d12 : R (α := PyData) (F2) (.int 0) (PyData.int (0 : Int)) := (.int _)
  refine ⟨szle (show 3 ≤ 16777216 from by decide), fun p3 np3 => ?_⟩
  obtain ⟨F3, g3, fa5⟩ := Gr.newE (o := .tup [(.int (rule).1), (.ref a2), (.int 0)]) G3.sub np3
  have G4 := G3.step g3
  have d13 : R (α := PyData) (F3) (.ref p3) (PyData.tuple [(PyData.int (rule).1), (PyData.list ((rule).2.map fun z => (PyData.list (z.map fun z => (PyData.int z))))), (PyData.int (0 : Int))]) := .tup fa5 (.cons (RD.mono g3.ex d10) (.cons (RD.mono g3.ex d11) (.cons (RD.mono g3.ex d12) .nil)))
  with_reducible refine x_cons ?_
  with_reducible refine x_tup ?_
  with_reducible refine x_cons ?_
  with_reducible refine x_c ?_
  with_reducible refine x_cons ?_
  with_reducible refine x_lst ?_
  refine ⟨szle (show 0 ≤ 16777216 from by decide), fun p4 np4 => ?_⟩
  have fr4 : Rs (α := PyData) (F3) [] ([] : (List PyData)) := Rs_nil
  have g4 := Gr.newO (o := .lst []) G4.sub np4
  have o2 := Ow.new (us := []) G4 np4
  have G5 := G4.step g4
  obtain ⟨F4, G6, ex2, fa6, nf2⟩ := o2.frzE G5
  have fr5 := Rs_mono ex2 fr4
  refine ⟨szle (show 2 ≤ 16777216 from by decide), fun p5 np5 => ?_⟩
  obtain ⟨F5, g5, fa7⟩ := Gr.newE (o := .tup [(.int 1), (.ref p4)]) G6.sub np5
  have G7 := G6.step g5
  have d14 : R (α := PyData) (F5) (.ref p5) (PyData.tuple [(PyData.int (1 : Int)), (PyData.list ([] : (List PyData)))]) := (.tup ((Sub.refl _) _ _ fa7) (.cons (.int _) (.cons (R_anyL (mk_lst (g5.ex _ _ fa6) (Rs_mono g5.ex fr5))) .nil)))
  refine ⟨szle (show 6 ≤ 16777216 from by decide), fun p6 np6 => ?_⟩
  have fr6 : Rs (α := PyData) (F5) [.non, (.int (rule).1), (.ref p1), (.ref p2), (.ref p3), (.ref p5)] ([PyData.none, (PyData.int (rule).1), (PyData.tuple [(PyData.int (rule).1)]), (PyData.list ([(PyData.int (rule).1), (PyData.list ((rule).2.map fun z => (PyData.list (z.map fun z => (PyData.int z)))))] : (List PyData))), (PyData.tuple [(PyData.int (rule).1), (PyData.list ((rule).2.map fun z => (PyData.list (z.map fun z => (PyData.int z))))), (PyData.int (0 : Int))]), (PyData.tuple [(PyData.int (1 : Int)), (PyData.list ([] : (List PyData)))])] : (List PyData)) := (Rs_cons (RD.mono ((((g1.ex.trans ex1).trans g3.ex).trans ex2).trans g5.ex) d3) (Rs_cons (RD.mono ((((g1.ex.trans ex1).trans g3.ex).trans ex2).trans g5.ex) d4) (Rs_cons (RD.mono (((ex1.trans g3.ex).trans ex2).trans g5.ex) d6) (Rs_cons (RD.mono ((g3.ex.trans ex2).trans g5.ex) d9) (Rs_cons (RD.mono (ex2.trans g5.ex) d13) (Rs_cons (RD.mono (Sub.refl _) d14) Rs_nil))))))
  have g6 := Gr.newO (o := .lst [.non, (.int (rule).1), (.ref p1), (.ref p2), (.ref p3), (.ref p5)]) G7.sub np6
  have o3 := Ow.new (us := [.non, (.int (rule).1), (.ref p1), (.ref p2), (.ref p3), (.ref p5)]) G7 np6
  have G8 := G7.step g6
  with_reducible refine x_gnE (σ' := ([some (.ref a1), some (.int cell), some (.int (rule).1), some (.ref a2), some (.ref p6), none, none, none] : L2.St)) (by with_unfolding_all rfl) ?_
  with_reducible refine x_seq ?_
  with_reducible refine x_asg ?_
  with_reducible refine x_op ?_
  refine ⟨_, rfl, ?_⟩
  with_reducible refine x_lst ?_
  with_reducible refine x_cons ?_
  with_reducible refine x_tup ?_
  with_reducible refine x_cons ?_
  with_reducible refine x_c ?_
  with_reducible refine x_cons ?_
  with_reducible refine x_lst ?_
  refine ⟨szle (show 0 ≤ 16777216 from by decide), fun p7 np7 => ?_⟩
  have fr7 : Rs (α := PyData) (F5) [] ([] : (List PyData)) := Rs_nil
  have g7 := Gr.newO (o := .lst []) G8.sub np7
  have o4 := Ow.new (us := []) G8 np7
  have ne1 := o3.ne_new np7
  have G9 := G8.step g7
  have o5 := o3.step g7
  obtain ⟨F6, G10, ex3, fa8, nf3⟩ := o4.frzE G9
  have o6 := o5.frzN (Ne.symm (Ne.symm ne1)) nf3
  have fr8 := Rs_mono ex3 fr7
  refine ⟨szle (show 2 ≤ 16777216 from by decide), fun p8 np8 => ?_⟩
  obtain ⟨F7, g8, fa9⟩ := Gr.newE (o := .tup [(.int 17), (.ref p7)]) G10.sub np8
  have G11 := G10.step g8
  have o7 := o6.step g8
  have d15 : R (α := PyData) (F7) (.ref p8) (PyData.tuple [(PyData.int (17 : Int)), (PyData.list ([] : (List PyData)))]) := (.tup ((Sub.refl _) _ _ fa9) (.cons (.int _) (.cons (R_anyL (mk_lst (g8.ex _ _ fa8) (Rs_mono g8.ex fr8))) .nil)))
  with_reducible refine x_cons ?_
  with_reducible refine x_tup ?_
  with_reducible refine x_cons ?_
  with_reducible refine x_c ?_
  with_reducible refine x_cons ?_
  with_reducible refine x_lst ?_
  refine ⟨szle (show 0 ≤ 16777216 from by decide), fun p9 np9 => ?_⟩
  have fr9 : Rs (α := PyData) (F7) [] ([] : (List PyData)) := Rs_nil
  have g9 := Gr.newO (o := .lst []) G11.sub np9
  have o8 := Ow.new (us := []) G11 np9
  have ne2 := o7.ne_new np9
  have G12 := G11.step g9
  have o9 := o7.step g9
  obtain ⟨F8, G13, ex4, fa10, nf4⟩ := o8.frzE G12
  have o10 := o9.frzN (Ne.symm (Ne.symm ne2)) nf4
  have fr10 := Rs_mono ex4 fr9
  refine ⟨szle (show 2 ≤ 16777216 from by decide), fun p10 np10 => ?_⟩
  obtain ⟨F9, g10, fa11⟩ := Gr.newE (o := .tup [(.bl true), (.ref p9)]) G13.sub np10
  have G14 := G13.step g10
  have o11 := o10.step g10
  have d16 : R (α := PyData) (F9) (.ref p10) (PyData.tuple [(PyData.bool true), (PyData.list ([] : (List PyData)))]) := (.tup ((Sub.refl _) _ _ fa11) (.cons (.bl _) (.cons (R_anyL (mk_lst (g10.ex _ _ fa10) (Rs_mono g10.ex fr10))) .nil)))
  with_reducible refine x_cons ?_
  with_reducible refine x_tup ?_
  with_reducible refine x_cons ?_
  with_reducible refine x_cb ?_
  with_reducible refine x_cons ?_
  refine ⟨_, rfl, ?_⟩
  obtain ⟨c1, hm⟩ := guardp hm
  refine ⟨_, rfl, c1, ?_⟩
  with_reducible refine x_cons ?_
  refine ⟨_, rfl, ?_⟩
  refine ⟨szle (show 2 ≤ 16777216 from by decide), fun p11 np11 => ?_⟩
  obtain ⟨F10, g11, fa12⟩ := Gr.newE (o := .tup [(.str (Str.ofString (toString (rule).1))), (.ref a2)]) G14.sub np11
  have G15 := G14.step g11
  have o12 := o11.step g11
  have d17 : R (α := PyData) (F10) (.ref p11) (PyData.tuple [(PyData.str (Str.ofString (toString (rule).1))), (PyData.list ((rule).2.map fun z => (PyData.list (z.map fun z => (PyData.int z)))))]) := (.tup ((Sub.refl _) _ _ fa12) (.cons (.str _) (.cons (mk_lst ((((((((((g1.ex.trans ex1).trans g3.ex).trans ex2).trans g5.ex).trans ex3).trans g8.ex).trans ex4).trans g10.ex).trans g11.ex) _ _ fa2) (Rs_mono (((((((((g1.ex.trans ex1).trans g3.ex).trans ex2).trans g5.ex).trans ex3).trans g8.ex).trans ex4).trans g10.ex).trans g11.ex) fr1)) .nil)))
  refine ⟨szle (show 3 ≤ 16777216 from by decide), fun p12 np12 => ?_⟩
  have fr11 : Rs (α := PyData) (F10) [(.ref p8), (.ref p10), (.ref p11)] ([(PyData.tuple [(PyData.int (17 : Int)), (PyData.list ([] : (List PyData)))]), (PyData.tuple [(PyData.bool true), (PyData.list ([] : (List PyData)))]), (PyData.tuple [(PyData.str (Str.ofString (toString (rule).1))), (PyData.list ((rule).2.map fun z => (PyData.list (z.map fun z => (PyData.int z)))))])] : (List PyData)) := (Rs_cons (RD.mono ((ex4.trans g10.ex).trans g11.ex) d15) (Rs_cons (RD.mono g11.ex d16) (Rs_cons (RD.mono (Sub.refl _) d17) Rs_nil)))
  have g12 := Gr.newO (o := .lst [(.ref p8), (.ref p10), (.ref p11)]) G15.sub np12
  have o13 := Ow.new (us := [(.ref p8), (.ref p10), (.ref p11)]) G15 np12
  have ne3 := o12.ne_new np12
  have G16 := G15.step g12
  have o14 := o12.step g12
  obtain ⟨c2, hm⟩ := guardp hm
  refine ⟨_, _, _, _, rfl, rfl, o14.at_, o13.at_, szle (by rw [Rs_len (Rs_mono g11.ex (Rs_mono g10.ex (Rs_mono ex4 (Rs_mono g8.ex (Rs_mono ex3 fr6))))), Rs_len fr11]; exact c2), fun p13 np13 => ?_⟩
  have fr12 : Rs (α := PyData) (F10) ([.non, (.int (rule).1), (.ref p1), (.ref p2), (.ref p3), (.ref p5)] ++ [(.ref p8), (.ref p10), (.ref p11)]) (([PyData.none, (PyData.int (rule).1), (PyData.tuple [(PyData.int (rule).1)]), (PyData.list ([(PyData.int (rule).1), (PyData.list ((rule).2.map fun z => (PyData.list (z.map fun z => (PyData.int z)))))] : (List PyData))), (PyData.tuple [(PyData.int (rule).1), (PyData.list ((rule).2.map fun z => (PyData.list (z.map fun z => (PyData.int z))))), (PyData.int (0 : Int))]), (PyData.tuple [(PyData.int (1 : Int)), (PyData.list ([] : (List PyData)))])] : (List PyData)) ++ ([(PyData.tuple [(PyData.int (17 : Int)), (PyData.list ([] : (List PyData)))]), (PyData.tuple [(PyData.bool true), (PyData.list ([] : (List PyData)))]), (PyData.tuple [(PyData.str (Str.ofString (toString (rule).1))), (PyData.list ((rule).2.map fun z => (PyData.list (z.map fun z => (PyData.int z)))))])] : (List PyData))) := Rs_app (Rs_mono g11.ex (Rs_mono g10.ex (Rs_mono ex4 (Rs_mono g8.ex (Rs_mono ex3 fr6))))) fr11
  have g13 := Gr.newO (o := .lst ([.non, (.int (rule).1), (.ref p1), (.ref p2), (.ref p3), (.ref p5)] ++ [(.ref p8), (.ref p10), (.ref p11)])) G16.sub np13
  have o15 := Ow.new (us := ([.non, (.int (rule).1), (.ref p1), (.ref p2), (.ref p3), (.ref p5)] ++ [(.ref p8), (.ref p10), (.ref p11)])) G16 np13
  have ne4 := o14.ne_new np13
  have G17 := G16.step g13
  have o16 := o14.step g13
  with_reducible refine x_gnE (σ' := ([some (.ref a1), some (.int cell), some (.int (rule).1), some (.ref a2), some (.ref p13), none, none, none] : L2.St)) (by with_unfolding_all rfl) ?_
  with_reducible refine x_seq ?_
  with_reducible refine x_asg ?_
  with_reducible refine x_op ?_
  refine ⟨_, rfl, ?_⟩
  with_reducible refine x_lst ?_
  with_reducible refine x_cons ?_
  with_reducible refine x_tup ?_
  with_reducible refine x_cons ?_
  refine ⟨_, rfl, ?_⟩
  with_reducible refine x_cons ?_
  with_reducible refine x_c ?_
  refine ⟨szle (show 2 ≤ 16777216 from by decide), fun p14 np14 => ?_⟩
  obtain ⟨F11, g14, fa13⟩ := Gr.newE (o := .tup [(.int (rule).1), .non]) G17.sub np14
  have G18 := G17.step g14
  have o17 := o15.step g14
  have d18 : R (α := PyData) (F11) (.ref p14) (PyData.tuple [(PyData.int (rule).1), PyData.none]) := (.tup ((Sub.refl _) _ _ fa13) (.cons (.int _) (.cons .non .nil)))
  with_reducible refine x_cons ?_
  with_reducible refine x_tup ?_
  with_reducible refine x_cons ?_
  refine ⟨_, rfl, ?_⟩
  with_reducible refine x_cons ?_
  with_reducible refine x_cb ?_
  with_reducible refine x_cons ?_
  refine ⟨_, rfl, ?_⟩
  have fr13 := (Rs_mono ((((((((((g1.ex.trans ex1).trans g3.ex).trans ex2).trans g5.ex).trans ex3).trans g8.ex).trans ex4).trans g10.ex).trans g11.ex).trans g14.ex) fr1)
  refine ⟨_, _, rfl, .inl ⟨.inl (.inl ((((((((((((g1.ex.trans ex1).trans g3.ex).trans ex2).trans g5.ex).trans ex3).trans g8.ex).trans ex4).trans g10.ex).trans g11.ex).trans g14.ex).trans G18.sub) _ _ fa2)), fun p15 np15 => ?_⟩⟩
  obtain ⟨F12, g15, fa14⟩ := Gr.newE (o := .tup us1) G18.sub np15
  have G19 := G18.step g15
  have o18 := o17.step g15
  have d19 : R (α := PyData) (F12) (.ref p15) (PyData.tuple ((rule).2.map fun z => (PyData.list (z.map fun z => (PyData.int z))))) := .tup fa14 (Rs_mono g15.ex fr13)
  refine ⟨szle (show 2 ≤ 16777216 from by decide), fun p16 np16 => ?_⟩
  obtain ⟨F13, g16, fa15⟩ := Gr.newE (o := .tup [(.int (rule).1), (.ref p15)]) G19.sub np16
  have G20 := G19.step g16
  have o19 := o18.step g16
  have d20 : R (α := PyData) (F13) (.ref p16) (PyData.tuple [(PyData.int (rule).1), (PyData.tuple ((rule).2.map fun z => (PyData.list (z.map fun z => (PyData.int z)))))]) := (.tup ((Sub.refl _) _ _ fa15) (.cons (.int _) (.cons (RD.mono g16.ex d19) .nil)))
  refine ⟨szle (show 2 ≤ 16777216 from by decide), fun p17 np17 => ?_⟩
  have fr14 : Rs (α := PyData) (F13) [(.ref p14), (.ref p16)] ([(PyData.tuple [(PyData.int (rule).1), PyData.none]), (PyData.tuple [(PyData.int (rule).1), (PyData.tuple ((rule).2.map fun z => (PyData.list (z.map fun z => (PyData.int z)))))])] : (List PyData)) := (Rs_cons (RD.mono (g15.ex.trans g16.ex) d18) (Rs_cons (RD.mono (Sub.refl _) d20) Rs_nil))
  have g17 := Gr.newO (o := .lst [(.ref p14), (.ref p16)]) G20.sub np17
  have o20 := Ow.new (us := [(.ref p14), (.ref p16)]) G20 np17
  have ne5 := o19.ne_new np17
  have G21 := G20.step g17
  have o21 := o19.step g17
  obtain ⟨c3, hm⟩ := guardp hm
  refine ⟨_, _, _, _, rfl, rfl, o21.at_, o20.at_, szle (by rw [Rs_len (Rs_mono g16.ex (Rs_mono g15.ex (Rs_mono g14.ex fr12))), Rs_len fr14]; exact c3), fun p18 np18 => ?_⟩
  have fr15 : Rs (α := PyData) (F13) (([.non, (.int (rule).1), (.ref p1), (.ref p2), (.ref p3), (.ref p5)] ++ [(.ref p8), (.ref p10), (.ref p11)]) ++ [(.ref p14), (.ref p16)]) ((([PyData.none, (PyData.int (rule).1), (PyData.tuple [(PyData.int (rule).1)]), (PyData.list ([(PyData.int (rule).1), (PyData.list ((rule).2.map fun z => (PyData.list (z.map fun z => (PyData.int z)))))] : (List PyData))), (PyData.tuple [(PyData.int (rule).1), (PyData.list ((rule).2.map fun z => (PyData.list (z.map fun z => (PyData.int z))))), (PyData.int (0 : Int))]), (PyData.tuple [(PyData.int (1 : Int)), (PyData.list ([] : (List PyData)))])] : (List PyData)) ++ ([(PyData.tuple [(PyData.int (17 : Int)), (PyData.list ([] : (List PyData)))]), (PyData.tuple [(PyData.bool true), (PyData.list ([] : (List PyData)))]), (PyData.tuple [(PyData.str (Str.ofString (toString (rule).1))), (PyData.list ((rule).2.map fun z => (PyData.list (z.map fun z => (PyData.int z)))))])] : (List PyData))) ++ ([(PyData.tuple [(PyData.int (rule).1), PyData.none]), (PyData.tuple [(PyData.int (rule).1), (PyData.tuple ((rule).2.map fun z => (PyData.list (z.map fun z => (PyData.int z)))))])] : (List PyData))) := Rs_app (Rs_mono g16.ex (Rs_mono g15.ex (Rs_mono g14.ex fr12))) fr14
  have g18 := Gr.newO (o := .lst (([.non, (.int (rule).1), (.ref p1), (.ref p2), (.ref p3), (.ref p5)] ++ [(.ref p8), (.ref p10), (.ref p11)]) ++ [(.ref p14), (.ref p16)])) G21.sub np18
  have o22 := Ow.new (us := (([.non, (.int (rule).1), (.ref p1), (.ref p2), (.ref p3), (.ref p5)] ++ [(.ref p8), (.ref p10), (.ref p11)]) ++ [(.ref p14), (.ref p16)])) G21 np18
  have ne6 := o21.ne_new np18
  have G22 := G21.step g18
  have o23 := o21.step g18
  with_reducible refine x_gnE (σ' := ([some (.ref a1), some (.int cell), some (.int (rule).1), some (.ref a2), some (.ref p18), none, none, none] : L2.St)) (by with_unfolding_all rfl) ?_
  with_reducible refine x_seq ?_
  with_reducible refine x_asg ?_
  with_reducible refine x_op ?_
  with_reducible refine x_op ?_
  refine ⟨_, rfl, ?_⟩
  with_reducible refine x_c ?_
  refine ⟨_, _, rfl, rfl, (show Dv ((100 : Int)) from by decide +kernel).w, ?_⟩
  refine useEv (.int (((rule).2.length : Int) + (1 : Int))) (by exact (Evl.ev_op (ev_lenT (Evl.ev_var rfl) ((((((((((((((g1.ex.trans ex1).trans g3.ex).trans ex2).trans g5.ex).trans ex3).trans g8.ex).trans ex4).trans g10.ex).trans g11.ex).trans g14.ex).trans g15.ex).trans g16.ex).trans G22.sub) _ _ fa2) (Rs_mono ((((((((((((g1.ex.trans ex1).trans g3.ex).trans ex2).trans g5.ex).trans ex3).trans g8.ex).trans ex4).trans g10.ex).trans g11.ex).trans g14.ex).trans g15.ex).trans g16.ex) fr1)) Evl.ev_c Evl.rv_I0)) (fun H1 e1 => ?_)
  have g19 := gr_ex G22.sub e1
  have G23 := G22.step g19
  have o24 := o22.step g19
  obtain ⟨c4, hm⟩ := guardp hm
  refine ⟨_, _, rfl, rfl, c4.p, ?_⟩
  with_reducible refine x_gnE (σ' := ([some (.ref a1), some (.int cell), some (.int (rule).1), some (.ref a2), some (.ref p18), some (.int ((cell / (100 : Int)) % (((rule).2.length : Int) + (1 : Int)))), none, none] : L2.St)) (by with_unfolding_all rfl) ?_
  with_reducible refine x_seq ?_
  with_reducible refine x_asg ?_
  with_reducible refine x_lst ?_
  with_reducible refine x_cons ?_
  with_reducible refine x_lst ?_
  refine ⟨szle (show 0 ≤ 16777216 from by decide), fun p19 np19 => ?_⟩
  have fr16 : Rs (α := Int) (F13) [] ([] : (List Int)) := Rs_nil
  have g20 := Gr.newO (o := .lst []) G23.sub np19
  have o25 := Ow.new (us := []) G23 np19
  have ne7 := o24.ne_new np19
  have G24 := G23.step g20
  have o26 := o24.step g20
  obtain ⟨F14, G25, ex5, fa16, nf5⟩ := o25.frzE G24
  have o27 := o26.frzN (Ne.symm (Ne.symm ne7)) nf5
  have fr17 := Rs_mono ex5 fr16
  have d21 : R (α := PyData) (F14) (.ref p19) (PyData.list (([] : (List Int)).map fun z => (PyData.int z))) := (mk_lst ((Sub.refl _) _ _ fa16) (Rs_mono (Sub.refl _) fr17))
  with_reducible refine x_cons ?_
  with_reducible refine x_lst ?_
  with_reducible refine x_cons ?_
  refine ⟨_, rfl, ?_⟩
  refine ⟨szle (show 1 ≤ 16777216 from by decide), fun p20 np20 => ?_⟩
  have fr18 : Rs (α := Int) (F14) [(.int (rule).1)] ([(rule).1] : (List Int)) := (Rs_cons (.int _) Rs_nil)
  have g21 := Gr.newO (o := .lst [(.int (rule).1)]) G25.sub np20
  have o28 := Ow.new (us := [(.int (rule).1)]) G25 np20
  have ne8 := o27.ne_new np20
  have G26 := G25.step g21
  have o29 := o27.step g21
  obtain ⟨F15, G27, ex6, fa17, nf6⟩ := o28.frzE G26
  have o30 := o29.frzN (Ne.symm (Ne.symm ne8)) nf6
  have fr19 := Rs_mono ex6 fr18
  have d22 : R (α := PyData) (F15) (.ref p20) (PyData.list (([(rule).1] : (List Int)).map fun z => (PyData.int z))) := (mk_lst ((Sub.refl _) _ _ fa17) (Rs_mono (Sub.refl _) fr19))
  with_reducible refine x_cons ?_
  with_reducible refine x_lst ?_
  with_reducible refine x_cons ?_
  refine useEv (.int (-(1 : Int))) (by exact (Evl.ev_un Evl.ev_c Evl.ru_neg)) (fun H2 e2 => ?_)
  have g22 := gr_ex G27.sub e2
  have G28 := G27.step g22
  have o31 := o30.step g22
  refine ⟨szle (show 1 ≤ 16777216 from by decide), fun p21 np21 => ?_⟩
  have fr20 : Rs (α := Int) (F15) [(.int (-(1 : Int)))] ([(-(1 : Int))] : (List Int)) := (Rs_cons (.int _) Rs_nil)
  have g23 := Gr.newO (o := .lst [(.int (-(1 : Int)))]) G28.sub np21
  have o32 := Ow.new (us := [(.int (-(1 : Int)))]) G28 np21
  have ne9 := o31.ne_new np21
  have G29 := G28.step g23
  have o33 := o31.step g23
  obtain ⟨F16, G30, ex7, fa18, nf7⟩ := o32.frzE G29
  have o34 := o33.frzN (Ne.symm (Ne.symm ne9)) nf7
  have fr21 := Rs_mono ex7 fr20
  have d23 : R (α := PyData) (F16) (.ref p21) (PyData.list (([(-(1 : Int))] : (List Int)).map fun z => (PyData.int z))) := (mk_lst ((Sub.refl _) _ _ fa18) (Rs_mono (Sub.refl _) fr21))
  with_reducible refine x_cons ?_
  with_reducible refine x_lst ?_
  with_reducible refine x_cons ?_
  with_reducible refine x_c ?_
  refine ⟨szle (show 1 ≤ 16777216 from by decide), fun p22 np22 => ?_⟩
  have fr22 : Rs (α := Bool) (F16) [(.bl true)] ([true] : (List Bool)) := (Rs_cons (.bl _) Rs_nil)
  have g24 := Gr.newO (o := .lst [(.bl true)]) G30.sub np22
  have o35 := Ow.new (us := [(.bl true)]) G30 np22
  have ne10 := o34.ne_new np22
  have G31 := G30.step g24
  have o36 := o34.step g24
  obtain ⟨F17, G32, ex8, fa19, nf8⟩ := o35.frzE G31
  have o37 := o36.frzN (Ne.symm (Ne.symm ne10)) nf8
  have fr23 := Rs_mono ex8 fr22
  have d24 : R (α := PyData) (F17) (.ref p22) (PyData.list (([true] : (List Bool)).map fun z => (PyData.bool z))) := (mk_lst ((Sub.refl _) _ _ fa19) (Rs_mono (Sub.refl _) fr23))
  with_reducible refine x_cons ?_
  with_reducible refine x_lst ?_
  with_reducible refine x_cons ?_
  with_reducible refine x_c ?_
  refine ⟨szle (show 1 ≤ 16777216 from by decide), fun p23 np23 => ?_⟩
  have fr24 : Rs (α := Unit) (F17) [.non] ([()] : (List Unit)) := (Rs_cons .non Rs_nil)
  have g25 := Gr.newO (o := .lst [.non]) G32.sub np23
  have o38 := Ow.new (us := [.non]) G32 np23
  have ne11 := o37.ne_new np23
  have G33 := G32.step g25
  have o39 := o37.step g25
  obtain ⟨F18, G34, ex9, fa20, nf9⟩ := o38.frzE G33
  have o40 := o39.frzN (Ne.symm (Ne.symm ne11)) nf9
  have fr25 := Rs_mono ex9 fr24
  have d25 : R (α := PyData) (F18) (.ref p23) (PyData.list (([()] : (List Unit)).map fun z => PyData.none)) := (mk_lst ((Sub.refl _) _ _ fa20) (Rs_mono (Sub.refl _) fr25))
  with_reducible refine x_cons ?_
  with_reducible refine x_lst ?_
  with_reducible refine x_cons ?_
  with_reducible refine x_c ?_
  refine ⟨szle (show 1 ≤ 16777216 from by decide), fun p24 np24 => ?_⟩
  have fr26 : Rs (α := Str) (F18) [(.str ("0" : Str))] ([("0" : Str)] : (List Str)) := (Rs_cons (.str _) Rs_nil)
  have g26 := Gr.newO (o := .lst [(.str ("0" : Str))]) G34.sub np24
  have o41 := Ow.new (us := [(.str ("0" : Str))]) G34 np24
  have ne12 := o40.ne_new np24
  have G35 := G34.step g26
  have o42 := o40.step g26
  obtain ⟨F19, G36, ex10, fa21, nf10⟩ := o41.frzE G35
  have o43 := o42.frzN (Ne.symm (Ne.symm ne12)) nf10
  have fr27 := Rs_mono ex10 fr26
  have d26 : R (α := PyData) (F19) (.ref p24) (PyData.list (([("0" : Str)] : (List Str)).map fun z => (PyData.str z))) := (mk_lst ((Sub.refl _) _ _ fa21) (Rs_mono (Sub.refl _) fr27))
  with_reducible refine x_cons ?_
  with_reducible refine x_lst ?_
  with_reducible refine x_cons ?_
  with_reducible refine x_c ?_
  with_reducible refine x_cons ?_
  with_reducible refine x_c ?_
  with_reducible refine x_cons ?_
  with_reducible refine x_c ?_
  with_reducible refine x_cons ?_
  with_reducible refine x_c ?_
  with_reducible refine x_cons ?_
  with_reducible refine x_c ?_
  refine ⟨szle (show 5 ≤ 16777216 from by decide), fun p25 np25 => ?_⟩
  have fr28 : Rs (α := Int) (F19) [(.int 0), (.int 0), (.int 0), (.int 0), (.int 0)] ([(0 : Int), (0 : Int), (0 : Int), (0 : Int), (0 : Int)] : (List Int)) := (Rs_cons (.int _) (Rs_cons (.int _) (Rs_cons (.int _) (Rs_cons (.int _) (Rs_cons (.int _) Rs_nil)))))
  have g27 := Gr.newO (o := .lst [(.int 0), (.int 0), (.int 0), (.int 0), (.int 0)]) G36.sub np25
  have o44 := Ow.new (us := [(.int 0), (.int 0), (.int 0), (.int 0), (.int 0)]) G36 np25
  have ne13 := o43.ne_new np25
  have G37 := G36.step g27
  have o45 := o43.step g27
  obtain ⟨F20, G38, ex11, fa22, nf11⟩ := o44.frzE G37
  have o46 := o45.frzN (Ne.symm (Ne.symm ne13)) nf11
  have fr29 := Rs_mono ex11 fr28
  have d27 : R (α := PyData) (F20) (.ref p25) (PyData.list (([(0 : Int), (0 : Int), (0 : Int), (0 : Int), (0 : Int)] : (List Int)).map fun z => (PyData.int z))) := (mk_lst ((Sub.refl _) _ _ fa22) (Rs_mono (Sub.refl _) fr29))
  with_reducible refine x_cons ?_
  with_reducible refine x_tup ?_
  with_reducible refine x_cons ?_
  with_reducible refine x_c ?_
  have d28 : R (α := PyData) (F20) (.int 0) (PyData.int (0 : Int)) := (.int _)
  refine ⟨szle (show 1 ≤ 16777216 from by decide), fun p26 np26 => ?_⟩
  obtain ⟨F21, g28, fa23⟩ := Gr.newE (o := .tup [(.int 0)]) G38.sub np26
  have G39 := G38.step g28
  have o47 := o46.step g28
  have d29 : R (α := PyData) (F21) (.ref p26) (PyData.tuple [(PyData.int (0 : Int))]) := .tup fa23 (.cons (RD.mono g28.ex d28) .nil)
  refine ⟨szle (show 8 ≤ 16777216 from by decide), fun p27 np27 => ?_⟩
  have fr30 : Rs (α := PyData) (F21) [(.ref p19), (.ref p20), (.ref p21), (.ref p22), (.ref p23), (.ref p24), (.ref p25), (.ref p26)] ([(PyData.list (([] : (List Int)).map fun z => (PyData.int z))), (PyData.list (([(rule).1] : (List Int)).map fun z => (PyData.int z))), (PyData.list (([(-(1 : Int))] : (List Int)).map fun z => (PyData.int z))), (PyData.list (([true] : (List Bool)).map fun z => (PyData.bool z))), (PyData.list (([()] : (List Unit)).map fun z => PyData.none)), (PyData.list (([("0" : Str)] : (List Str)).map fun z => (PyData.str z))), (PyData.list (([(0 : Int), (0 : Int), (0 : Int), (0 : Int), (0 : Int)] : (List Int)).map fun z => (PyData.int z))), (PyData.tuple [(PyData.int (0 : Int))])] : (List PyData)) := (Rs_cons (RD.mono ((((((ex6.trans ex7).trans ex8).trans ex9).trans ex10).trans ex11).trans g28.ex) d21) (Rs_cons (RD.mono (((((ex7.trans ex8).trans ex9).trans ex10).trans ex11).trans g28.ex) d22) (Rs_cons (RD.mono ((((ex8.trans ex9).trans ex10).trans ex11).trans g28.ex) d23) (Rs_cons (RD.mono (((ex9.trans ex10).trans ex11).trans g28.ex) d24) (Rs_cons (RD.mono ((ex10.trans ex11).trans g28.ex) d25) (Rs_cons (RD.mono (ex11.trans g28.ex) d26) (Rs_cons (RD.mono g28.ex d27) (Rs_cons (RD.mono (Sub.refl _) d29) Rs_nil))))))))
  have g29 := Gr.newO (o := .lst [(.ref p19), (.ref p20), (.ref p21), (.ref p22), (.ref p23), (.ref p24), (.ref p25), (.ref p26)]) G39.sub np27
  have o48 := Ow.new (us := [(.ref p19), (.ref p20), (.ref p21), (.ref p22), (.ref p23), (.ref p24), (.ref p25), (.ref p26)]) G39 np27
  have ne14 := o47.ne_new np27
  have G40 := G39.step g29
  have o49 := o47.step g29
  obtain ⟨F22, G41, ex12, fa24, nf12⟩ := o48.frzE G40
  have o50 := o49.frzN (Ne.symm (Ne.symm ne14)) nf12
  have fr31 := Rs_mono ex12 fr30
  obtain ⟨x1, hx1, hm⟩ := bindp hm
  replace hx1 := Option.some.inj hx1
  have fr32 : Rs (α := PyData) (F22) [(.ref p19), (.ref p20), (.ref p21), (.ref p22), (.ref p23), (.ref p24), (.ref p25), (.ref p26)] x1 := by rw [← hx1]; exact (Rs_mono (Sub.refl _) fr31)
  have fa25 := (Sub.refl _) _ _ fa24
  clear hx1
  with_reducible refine x_gnE (σ' := ([some (.ref a1), some (.int cell), some (.int (rule).1), some (.ref a2), some (.ref p18), some (.int ((cell / (100 : Int)) % (((rule).2.length : Int) + (1 : Int)))), some (.ref p27), none] : L2.St)) (by with_unfolding_all rfl) ?_
  with_reducible refine x_seq ?_
  with_reducible refine x_for ?_
  with_reducible refine x_iter ?_
  with_reducible refine x_op ?_
  refine ⟨_, rfl, ?_⟩
  with_reducible refine x_lst ?_
  with_reducible refine x_cons ?_
  with_reducible refine x_c ?_
  have d30 : R (α := PyData) (F22) (.int 0) (PyData.int (0 : Int)) := (.int _)
  with_reducible refine x_cons ?_
  with_reducible refine x_c ?_
  have d31 : R (α := PyData) (F22) (.str ("0" : Str)) (PyData.str ("0" : Str)) := (.str _)
  with_reducible refine x_cons ?_
  with_reducible refine x_c ?_
  have d32 : R (α := PyData) (F22) .non PyData.none := .non
  with_reducible refine x_cons ?_
  with_reducible refine x_lst ?_
  with_reducible refine x_cons ?_
  with_reducible refine x_lst ?_
  with_reducible refine x_cons ?_
  with_reducible refine x_c ?_
  refine ⟨szle (show 1 ≤ 16777216 from by decide), fun p28 np28 => ?_⟩
  have fr33 : Rs (α := Int) (F22) [(.int 0)] ([(0 : Int)] : (List Int)) := (Rs_cons (.int _) Rs_nil)
  have g30 := Gr.newO (o := .lst [(.int 0)]) G41.sub np28
  have o51 := Ow.new (us := [(.int 0)]) G41 np28
  have ne15 := o50.ne_new np28
  have G42 := G41.step g30
  have o52 := o50.step g30
  obtain ⟨F23, G43, ex13, fa26, nf13⟩ := o51.frzE G42
  have o53 := o52.frzN (Ne.symm (Ne.symm ne15)) nf13
  have fr34 := Rs_mono ex13 fr33
  refine ⟨szle (show 1 ≤ 16777216 from by decide), fun p29 np29 => ?_⟩
  have fr35 : Rs (α := (List Int)) (F23) [(.ref p28)] ([([(0 : Int)] : (List Int))] : (List (List Int))) := (Rs_cons (mk_lst ((Sub.refl _) _ _ fa26) (Rs_mono (Sub.refl _) fr34)) Rs_nil)
  have g31 := Gr.newO (o := .lst [(.ref p28)]) G43.sub np29
  have o54 := Ow.new (us := [(.ref p28)]) G43 np29
  have ne16 := o53.ne_new np29
  have G44 := G43.step g31
  have o55 := o53.step g31
  obtain ⟨F24, G45, ex14, fa27, nf14⟩ := o54.frzE G44
  have o56 := o55.frzN (Ne.symm (Ne.symm ne16)) nf14
  have fr36 := Rs_mono ex14 fr35
  have d33 : R (α := PyData) (F24) (.ref p29) (PyData.list (([([(0 : Int)] : (List Int))] : (List (List Int))).map fun z => (PyData.list (z.map fun z => (PyData.int z))))) := (mk_lst ((Sub.refl _) _ _ fa27) (Rs_mono (Sub.refl _) fr36))
  with_reducible refine x_cons ?_
  with_reducible refine x_lst ?_
  with_reducible refine x_cons ?_
  with_reducible refine x_c ?_
  with_reducible refine x_cons ?_
  refine ⟨_, rfl, ?_⟩
  refine ⟨szle (show 2 ≤ 16777216 from by decide), fun p30 np30 => ?_⟩
  have fr37 : Rs (α := Int) (F24) [(.int 0), (.int (rule).1)] ([(0 : Int), (rule).1] : (List Int)) := (Rs_cons (.int _) (Rs_cons (.int _) Rs_nil))
  have g32 := Gr.newO (o := .lst [(.int 0), (.int (rule).1)]) G45.sub np30
  have o57 := Ow.new (us := [(.int 0), (.int (rule).1)]) G45 np30
  have ne17 := o56.ne_new np30
  have G46 := G45.step g32
  have o58 := o56.step g32
  obtain ⟨F25, G47, ex15, fa28, nf15⟩ := o57.frzE G46
  have o59 := o58.frzN (Ne.symm (Ne.symm ne17)) nf15
  have fr38 := Rs_mono ex15 fr37
  have d34 : R (α := PyData) (F25) (.ref p30) (PyData.list (([(0 : Int), (rule).1] : (List Int)).map fun z => (PyData.int z))) := (mk_lst ((Sub.refl _) _ _ fa28) (Rs_mono (Sub.refl _) fr38))
  with_reducible refine x_cons ?_
  with_reducible refine x_lst ?_
  with_reducible refine x_cons ?_
  with_reducible refine x_c ?_
  with_reducible refine x_cons ?_
  with_reducible refine x_c ?_
  with_reducible refine x_cons ?_
  refine useEv (.int (-(1 : Int))) (by exact (Evl.ev_un Evl.ev_c Evl.ru_neg)) (fun H3 e3 => ?_)
  have g33 := gr_ex G47.sub e3
  have G48 := G47.step g33
  have o60 := o59.step g33
  refine ⟨szle (show 3 ≤ 16777216 from by decide), fun p31 np31 => ?_⟩
  have fr39 : Rs (α := Int) (F25) [(.int 0), (.int 0), (.int (-(1 : Int)))] ([(0 : Int), (0 : Int), (-(1 : Int))] : (List Int)) := (Rs_cons (.int _) (Rs_cons (.int _) (Rs_cons (.int _) Rs_nil)))
  have g34 := Gr.newO (o := .lst [(.int 0), (.int 0), (.int (-(1 : Int)))]) G48.sub np31
  have o61 := Ow.new (us := [(.int 0), (.int 0), (.int (-(1 : Int)))]) G48 np31
  have ne18 := o60.ne_new np31
  have G49 := G48.step g34
  have o62 := o60.step g34
  obtain ⟨F26, G50, ex16, fa29, nf16⟩ := o61.frzE G49
  have o63 := o62.frzN (Ne.symm (Ne.symm ne18)) nf16
  have fr40 := Rs_mono ex16 fr39
  have d35 : R (α := PyData) (F26) (.ref p31) (PyData.list (([(0 : Int), (0 : Int), (-(1 : Int))] : (List Int)).map fun z => (PyData.int z))) := (mk_lst ((Sub.refl _) _ _ fa29) (Rs_mono (Sub.refl _) fr40))
  refine ⟨szle (show 6 ≤ 16777216 from by decide), fun p32 np32 => ?_⟩
  have fr41 : Rs (α := PyData) (F26) [(.int 0), (.str ("0" : Str)), .non, (.ref p29), (.ref p30), (.ref p31)] ([(PyData.int (0 : Int)), (PyData.str ("0" : Str)), PyData.none, (PyData.list (([([(0 : Int)] : (List Int))] : (List (List Int))).map fun z => (PyData.list (z.map fun z => (PyData.int z))))), (PyData.list (([(0 : Int), (rule).1] : (List Int)).map fun z => (PyData.int z))), (PyData.list (([(0 : Int), (0 : Int), (-(1 : Int))] : (List Int)).map fun z => (PyData.int z)))] : (List PyData)) := (Rs_cons (RD.mono (((ex13.trans ex14).trans ex15).trans ex16) d30) (Rs_cons (RD.mono (((ex13.trans ex14).trans ex15).trans ex16) d31) (Rs_cons (RD.mono (((ex13.trans ex14).trans ex15).trans ex16) d32) (Rs_cons (RD.mono (ex15.trans ex16) d33) (Rs_cons (RD.mono ex16 d34) (Rs_cons (RD.mono (Sub.refl _) d35) Rs_nil))))))
  have g35 := Gr.newO (o := .lst [(.int 0), (.str ("0" : Str)), .non, (.ref p29), (.ref p30), (.ref p31)]) G50.sub np32
  have o64 := Ow.new (us := [(.int 0), (.str ("0" : Str)), .non, (.ref p29), (.ref p30), (.ref p31)]) G50 np32
  have ne19 := o63.ne_new np32
  have G51 := G50.step g35
  have o65 := o63.step g35
  obtain ⟨c5, hm⟩ := guardp hm
  refine ⟨_, _, _, _, rfl, rfl, (((((ex13.trans ex14).trans ex15).trans ex16).trans G51.sub) _ _ fa25), o64.at_, szle (by rw [Rs_len (Rs_mono (((ex13.trans ex14).trans ex15).trans ex16) fr32), Rs_len fr41]; exact c5), fun p33 np33 => ?_⟩
  have fr42 : Rs (α := PyData) (F26) ([(.ref p19), (.ref p20), (.ref p21), (.ref p22), (.ref p23), (.ref p24), (.ref p25), (.ref p26)] ++ [(.int 0), (.str ("0" : Str)), .non, (.ref p29), (.ref p30), (.ref p31)]) (x1 ++ ([(PyData.int (0 : Int)), (PyData.str ("0" : Str)), PyData.none, (PyData.list (([([(0 : Int)] : (List Int))] : (List (List Int))).map fun z => (PyData.list (z.map fun z => (PyData.int z))))), (PyData.list (([(0 : Int), (rule).1] : (List Int)).map fun z => (PyData.int z))), (PyData.list (([(0 : Int), (0 : Int), (-(1 : Int))] : (List Int)).map fun z => (PyData.int z)))] : (List PyData))) := Rs_app (Rs_mono (((ex13.trans ex14).trans ex15).trans ex16) fr32) fr41
  have g36 := Gr.newO (o := .lst ([(.ref p19), (.ref p20), (.ref p21), (.ref p22), (.ref p23), (.ref p24), (.ref p25), (.ref p26)] ++ [(.int 0), (.str ("0" : Str)), .non, (.ref p29), (.ref p30), (.ref p31)])) G51.sub np33
  have o66 := Ow.new (us := ([(.ref p19), (.ref p20), (.ref p21), (.ref p22), (.ref p23), (.ref p24), (.ref p25), (.ref p26)] ++ [(.int 0), (.str ("0" : Str)), .non, (.ref p29), (.ref p30), (.ref p31)])) G51 np33
  have ne20 := o65.ne_new np33
  have G52 := G51.step g36
  have o67 := o65.step g36
  obtain ⟨F27, G53, ex17, fa30, nf17⟩ := o66.frzE G52
  have o68 := o67.frzN (Ne.symm (Ne.symm ne20)) nf17
  have fr43 := Rs_mono ex17 fr42
  refine ⟨_, rfl, ⟨_, .inl (.inl (G53.sub _ _ fa30))⟩, ?_⟩
  refine for_lst (α := PyData) (fun (ts1 : List PyData) σ H4 => ∃ (F28 : Hp) (x2 : (List PyData)) (p34 : Addr) (us2 : List V) (y1 : Option V), forK (_law_bad_b1 rule cell) ts1 x2 (_law_bad_e2 rule cell) = some r ∧ Sub (F27) F28 ∧ Gr NA F0 H F28 H4 ∧ Ow H F28 H4 p34 us2 ∧ Rs F28 us2 x2 ∧ σ = [some (.ref a1), some (.int cell), some (.int (rule).1), some (.ref a2), some (.ref p34), some (.int ((cell / (100 : Int)) % (((rule).2.length : Int) + (1 : Int)))), some (.ref p27), y1]) (Rs_mono (Sub.refl _) fr43) ⟨F27, ((([PyData.none, (PyData.int (rule).1), (PyData.tuple [(PyData.int (rule).1)]), (PyData.list ([(PyData.int (rule).1), (PyData.list ((rule).2.map fun z => (PyData.list (z.map fun z => (PyData.int z)))))] : (List PyData))), (PyData.tuple [(PyData.int (rule).1), (PyData.list ((rule).2.map fun z => (PyData.list (z.map fun z => (PyData.int z))))), (PyData.int (0 : Int))]), (PyData.tuple [(PyData.int (1 : Int)), (PyData.list ([] : (List PyData)))])] : (List PyData)) ++ ([(PyData.tuple [(PyData.int (17 : Int)), (PyData.list ([] : (List PyData)))]), (PyData.tuple [(PyData.bool true), (PyData.list ([] : (List PyData)))]), (PyData.tuple [(PyData.str (Str.ofString (toString (rule).1))), (PyData.list ((rule).2.map fun z => (PyData.list (z.map fun z => (PyData.int z)))))])] : (List PyData))) ++ ([(PyData.tuple [(PyData.int (rule).1), PyData.none]), (PyData.tuple [(PyData.int (rule).1), (PyData.tuple ((rule).2.map fun z => (PyData.list (z.map fun z => (PyData.int z)))))])] : (List PyData))), _, _, _, hm, (Sub.refl _), G53, o68, (Rs_mono ex17 (Rs_mono ex16 (Rs_mono ex15 (Rs_mono ex14 (Rs_mono ex13 (Rs_mono ex12 (Rs_mono g28.ex (Rs_mono ex11 (Rs_mono ex10 (Rs_mono ex9 (Rs_mono ex8 (Rs_mono ex7 (Rs_mono ex6 (Rs_mono ex5 fr15)))))))))))))), rfl⟩ (fun _ _ _ h => ?_) (fun t1 ts2 v3 σ H1 hv1 hW => ?_) (fun σ H1 hW => ?_)
  · obtain ⟨F28, x2, p34, us2, y1, _, s9z, G9z, _⟩ := h
    exact G9z.sub _ _ (s9z _ _ ((Sub.refl _) _ _ fa30))
  · skip
    obtain ⟨F28, x2, p34, us2, y1, hm, s1, G54, o69, fr44, rfl⟩ := hW
    obtain ⟨next1, hnx1⟩ : ∃ nx, nx = fun s => forK (_law_bad_b1 rule cell) ts2 s (_law_bad_e2 rule cell) := ⟨_, rfl⟩
    have hm : (_law_bad_b1 rule cell) x2 t1 next1 = some r := by rw [hnx1]; exact forK_c hm
    rw [_law_bad_b1] at hm
    with_reducible refine x_gnE (σ' := ([some (.ref a1), some (.int cell), some (.int (rule).1), some (.ref a2), some (.ref p34), some (.int ((cell / (100 : Int)) % (((rule).2.length : Int) + (1 : Int)))), some (.ref p27), some v3] : L2.St)) (by with_unfolding_all rfl) ?_
    with_reducible refine x_drop ?_
    with_reducible refine x_bm ?_
    refine ⟨_, rfl, ?_⟩
    refine ⟨.inl ⟨rfl, _, .inl (.inl o69.at_)⟩, ?_⟩
    with_reducible refine x_cons ?_
    with_reducible refine x_tup ?_
    with_reducible refine x_cons ?_
    refine ⟨_, rfl, ?_⟩
    with_reducible refine x_cons ?_
    with_reducible refine x_op ?_
    with_reducible refine x_op ?_
    with_reducible refine x_sl ?_
    refine ⟨_, rfl, ?_⟩
    with_reducible refine x_nopart ?_
    with_reducible refine x_part ?_
    refine ⟨_, rfl, ?_⟩
    refine ⟨_, rfl, ?_⟩
    refine ⟨_, _, rfl, .inl (.inl (((((((((((((((((((((((((((((g1.ex.trans ex1).trans g3.ex).trans ex2).trans g5.ex).trans ex3).trans g8.ex).trans ex4).trans g10.ex).trans g11.ex).trans g14.ex).trans g15.ex).trans g16.ex).trans ex5).trans ex6).trans ex7).trans ex8).trans ex9).trans ex10).trans ex11).trans g28.ex).trans ex12).trans ex13).trans ex14).trans ex15).trans ex16).trans ex17).trans s1).trans G54.sub) _ _ fa2)), fun p35 np34 => ?_⟩
    have fr45 : Rs (α := (List Int)) (F28) (cutV us1 none (some ((cell / (100 : Int)) % (((rule).2.length : Int) + (1 : Int))))) (cutT (rule).2 none (some ((cell / (100 : Int)) % (((rule).2.length : Int) + (1 : Int))))) := Rs_cut (Rs_mono (((((((((((((((((((((((((((g1.ex.trans ex1).trans g3.ex).trans ex2).trans g5.ex).trans ex3).trans g8.ex).trans ex4).trans g10.ex).trans g11.ex).trans g14.ex).trans g15.ex).trans g16.ex).trans ex5).trans ex6).trans ex7).trans ex8).trans ex9).trans ex10).trans ex11).trans g28.ex).trans ex12).trans ex13).trans ex14).trans ex15).trans ex16).trans ex17).trans s1) fr1)
    have g37 := Gr.newO (o := .lst (cutV us1 none (some ((cell / (100 : Int)) % (((rule).2.length : Int) + (1 : Int)))))) G54.sub np34
    have o70 := Ow.new (us := (cutV us1 none (some ((cell / (100 : Int)) % (((rule).2.length : Int) + (1 : Int)))))) G54 np34
    have ne21 := o69.ne_new np34
    have G55 := G54.step g37
    have o71 := o69.step g37
    with_reducible refine x_lst ?_
    with_reducible refine x_cons ?_
    refine ⟨_, rfl, ?_⟩
    refine ⟨szle (show 1 ≤ 16777216 from by decide), fun p36 np35 => ?_⟩
    have fr46 : Rs (α := PyData) (F28) [v3] ([t1] : (List PyData)) := (Rs_cons (RD.mono s1 hv1) Rs_nil)
    have g38 := Gr.newO (o := .lst [v3]) G55.sub np35
    have o72 := Ow.new (us := [v3]) G55 np35
    have ne22 := o71.ne_new np35
    have ne23 := o70.ne_new np35
    have G56 := G55.step g38
    have o73 := o71.step g38
    have o74 := o70.step g38
    obtain ⟨c6, hm⟩ := guardp hm
    refine ⟨_, _, _, _, rfl, rfl, o74.at_, o72.at_, szle (by rw [Rs_len (Rs_any fr45), Rs_len fr46]; exact c6), fun p37 np36 => ?_⟩
    have fr47 : Rs (α := PyData) (F28) ((cutV us1 none (some ((cell / (100 : Int)) % (((rule).2.length : Int) + (1 : Int))))) ++ [v3]) (((cutT (rule).2 none (some ((cell / (100 : Int)) % (((rule).2.length : Int) + (1 : Int))))).map fun z => (PyData.list (z.map fun z => (PyData.int z)))) ++ ([t1] : (List PyData))) := Rs_app (Rs_any fr45) fr46
    have g39 := Gr.newO (o := .lst ((cutV us1 none (some ((cell / (100 : Int)) % (((rule).2.length : Int) + (1 : Int))))) ++ [v3])) G56.sub np36
    have o75 := Ow.new (us := ((cutV us1 none (some ((cell / (100 : Int)) % (((rule).2.length : Int) + (1 : Int))))) ++ [v3])) G56 np36
    have ne24 := o73.ne_new np36
    have G57 := G56.step g39
    have o76 := o73.step g39
    with_reducible refine x_sl ?_
    refine ⟨_, rfl, ?_⟩
    with_reducible refine x_part ?_
    refine useEv (.int (((cell / (100 : Int)) % (((rule).2.length : Int) + (1 : Int))) + (1 : Int))) (by exact (Evl.ev_op (Evl.ev_var rfl) Evl.ev_c Evl.rv_I0)) (fun H5 e4 => ?_)
    have g40 := gr_ex G57.sub e4
    have G58 := G57.step g40
    have o77 := o76.step g40
    have o78 := o75.step g40
    refine ⟨_, rfl, ?_⟩
    with_reducible refine x_nopart ?_
    refine ⟨_, _, rfl, .inl (.inl (((((((((((((((((((((((((((((g1.ex.trans ex1).trans g3.ex).trans ex2).trans g5.ex).trans ex3).trans g8.ex).trans ex4).trans g10.ex).trans g11.ex).trans g14.ex).trans g15.ex).trans g16.ex).trans ex5).trans ex6).trans ex7).trans ex8).trans ex9).trans ex10).trans ex11).trans g28.ex).trans ex12).trans ex13).trans ex14).trans ex15).trans ex16).trans ex17).trans s1).trans G58.sub) _ _ fa2)), fun p38 np37 => ?_⟩
    have fr48 : Rs (α := (List Int)) (F28) (cutV us1 (some (((cell / (100 : Int)) % (((rule).2.length : Int) + (1 : Int))) + (1 : Int))) none) (cutT (rule).2 (some (((cell / (100 : Int)) % (((rule).2.length : Int) + (1 : Int))) + (1 : Int))) none) := Rs_cut (Rs_mono (((((((((((((((((((((((((((g1.ex.trans ex1).trans g3.ex).trans ex2).trans g5.ex).trans ex3).trans g8.ex).trans ex4).trans g10.ex).trans g11.ex).trans g14.ex).trans g15.ex).trans g16.ex).trans ex5).trans ex6).trans ex7).trans ex8).trans ex9).trans ex10).trans ex11).trans g28.ex).trans ex12).trans ex13).trans ex14).trans ex15).trans ex16).trans ex17).trans s1) fr1)
    have g41 := Gr.newO (o := .lst (cutV us1 (some (((cell / (100 : Int)) % (((rule).2.length : Int) + (1 : Int))) + (1 : Int))) none)) G58.sub np37
    have o79 := Ow.new (us := (cutV us1 (some (((cell / (100 : Int)) % (((rule).2.length : Int) + (1 : Int))) + (1 : Int))) none)) G58 np37
    have ne25 := o77.ne_new np37
    have ne26 := o78.ne_new np37
    have G59 := G58.step g41
    have o80 := o77.step g41
    have o81 := o78.step g41
    obtain ⟨c7, hm⟩ := guardp hm
    refine ⟨_, _, _, _, rfl, rfl, o81.at_, o79.at_, szle (by rw [Rs_len fr47, Rs_len (Rs_any fr48)]; exact c7), fun p39 np38 => ?_⟩
    have fr49 : Rs (α := PyData) (F28) (((cutV us1 none (some ((cell / (100 : Int)) % (((rule).2.length : Int) + (1 : Int))))) ++ [v3]) ++ (cutV us1 (some (((cell / (100 : Int)) % (((rule).2.length : Int) + (1 : Int))) + (1 : Int))) none)) ((((cutT (rule).2 none (some ((cell / (100 : Int)) % (((rule).2.length : Int) + (1 : Int))))).map fun z => (PyData.list (z.map fun z => (PyData.int z)))) ++ ([t1] : (List PyData))) ++ ((cutT (rule).2 (some (((cell / (100 : Int)) % (((rule).2.length : Int) + (1 : Int))) + (1 : Int))) none).map fun z => (PyData.list (z.map fun z => (PyData.int z))))) := Rs_app fr47 (Rs_any fr48)
    have g42 := Gr.newO (o := .lst (((cutV us1 none (some ((cell / (100 : Int)) % (((rule).2.length : Int) + (1 : Int))))) ++ [v3]) ++ (cutV us1 (some (((cell / (100 : Int)) % (((rule).2.length : Int) + (1 : Int))) + (1 : Int))) none))) G59.sub np38
    have o82 := Ow.new (us := (((cutV us1 none (some ((cell / (100 : Int)) % (((rule).2.length : Int) + (1 : Int))))) ++ [v3]) ++ (cutV us1 (some (((cell / (100 : Int)) % (((rule).2.length : Int) + (1 : Int))) + (1 : Int))) none))) G59 np38
    have ne27 := o80.ne_new np38
    have G60 := G59.step g42
    have o83 := o80.step g42
    obtain ⟨F29, G61, ex18, fa31, nf18⟩ := o82.frzE G60
    have o84 := o83.frzN (Ne.symm (Ne.symm ne27)) nf18
    have fr50 := Rs_mono ex18 fr49
    refine ⟨szle (show 2 ≤ 16777216 from by decide), fun p40 np39 => ?_⟩
    obtain ⟨F30, g43, fa32⟩ := Gr.newE (o := .tup [(.int (rule).1), (.ref p39)]) G61.sub np39
    have G62 := G61.step g43
    have o85 := o84.step g43
    have d36 : R (α := PyData) (F30) (.ref p40) (PyData.tuple [(PyData.int (rule).1), (PyData.list ((((cutT (rule).2 none (some ((cell / (100 : Int)) % (((rule).2.length : Int) + (1 : Int))))).map fun z => (PyData.list (z.map fun z => (PyData.int z)))) ++ ([t1] : (List PyData))) ++ ((cutT (rule).2 (some (((cell / (100 : Int)) % (((rule).2.length : Int) + (1 : Int))) + (1 : Int))) none).map fun z => (PyData.list (z.map fun z => (PyData.int z))))))]) := (.tup ((Sub.refl _) _ _ fa32) (.cons (.int _) (.cons (R_anyL (mk_lst (g43.ex _ _ fa31) (Rs_mono g43.ex fr50))) .nil)))
    obtain ⟨c8, hm⟩ := guardp hm
    refine ⟨_, _, _, rfl, rfl, o85.at_, szl (by rw [Rs_len (Rs_mono g43.ex (Rs_mono ex18 fr44))]; exact c8), ?_⟩
    have G63 := o85.mutG (o := .lst (us2 ++ [(.ref p40)])) G62
    have o86 := o85.mut (ws := us2 ++ [(.ref p40)])
    have fr51 : Rs (α := PyData) (F30) (us2 ++ [(.ref p40)]) (x2 ++ [(PyData.tuple [(PyData.int (rule).1), (PyData.list ((((cutT (rule).2 none (some ((cell / (100 : Int)) % (((rule).2.length : Int) + (1 : Int))))).map fun z => (PyData.list (z.map fun z => (PyData.int z)))) ++ ([t1] : (List PyData))) ++ ((cutT (rule).2 (some (((cell / (100 : Int)) % (((rule).2.length : Int) + (1 : Int))) + (1 : Int))) none).map fun z => (PyData.list (z.map fun z => (PyData.int z))))))])]) := Rs_snoc (Rs_mono g43.ex (Rs_mono ex18 fr44)) (RD.mono (Sub.refl _) d36)
    rw [hnx1] at hm
    exact ⟨F30, (x2 ++ [(PyData.tuple [(PyData.int (rule).1), (PyData.list ((((cutT (rule).2 none (some ((cell / (100 : Int)) % (((rule).2.length : Int) + (1 : Int))))).map fun z => (PyData.list (z.map fun z => (PyData.int z)))) ++ ([t1] : (List PyData))) ++ ((cutT (rule).2 (some (((cell / (100 : Int)) % (((rule).2.length : Int) + (1 : Int))) + (1 : Int))) none).map fun z => (PyData.list (z.map fun z => (PyData.int z))))))])]), _, _, _, hm, ((s1.trans ex18).trans g43.ex), G63, o86, fr51, rfl⟩
  · skip
    obtain ⟨F28, x2, p34, us2, y1, hm, s2, G64, o87, fr52, rfl⟩ := hW
    have hm : (_law_bad_e2 rule cell) x2 = some r := forK_n hm
    rw [_law_bad_e2] at hm
    with_reducible refine x_seq ?_
    with_reducible refine x_drop ?_
    with_reducible refine x_bm ?_
    refine ⟨_, rfl, ?_⟩
    refine ⟨.inl ⟨rfl, _, .inl (.inl o87.at_)⟩, ?_⟩
    with_reducible refine x_cons ?_
    with_reducible refine x_tup ?_
    with_reducible refine x_cons ?_
    refine ⟨_, rfl, ?_⟩
    with_reducible refine x_cons ?_
    with_reducible refine x_lst ?_
    with_reducible refine x_cons ?_
    with_reducible refine x_lst ?_
    with_reducible refine x_cons ?_
    with_reducible refine x_c ?_
    refine ⟨szle (show 1 ≤ 16777216 from by decide), fun p41 np40 => ?_⟩
    have fr53 : Rs (α := Int) (F28) [(.int 0)] ([(0 : Int)] : (List Int)) := (Rs_cons (.int _) Rs_nil)
    have g44 := Gr.newO (o := .lst [(.int 0)]) G64.sub np40
    have o88 := Ow.new (us := [(.int 0)]) G64 np40
    have ne28 := o87.ne_new np40
    have G65 := G64.step g44
    have o89 := o87.step g44
    obtain ⟨F31, G66, ex19, fa33, nf19⟩ := o88.frzE G65
    have o90 := o89.frzN (Ne.symm (Ne.symm ne28)) nf19
    have fr54 := Rs_mono ex19 fr53
    with_reducible refine x_cons ?_
    with_reducible refine x_lst ?_
    with_reducible refine x_cons ?_
    with_reducible refine x_c ?_
    with_reducible refine x_cons ?_
    with_reducible refine x_c ?_
    refine ⟨szle (show 2 ≤ 16777216 from by decide), fun p42 np41 => ?_⟩
    have fr55 : Rs (α := Int) (F31) [(.int 0), (.int 1)] ([(0 : Int), (1 : Int)] : (List Int)) := (Rs_cons (.int _) (Rs_cons (.int _) Rs_nil))
    have g45 := Gr.newO (o := .lst [(.int 0), (.int 1)]) G66.sub np41
    have o91 := Ow.new (us := [(.int 0), (.int 1)]) G66 np41
    have ne29 := o90.ne_new np41
    have G67 := G66.step g45
    have o92 := o90.step g45
    obtain ⟨F32, G68, ex20, fa34, nf20⟩ := o91.frzE G67
    have o93 := o92.frzN (Ne.symm (Ne.symm ne29)) nf20
    have fr56 := Rs_mono ex20 fr55
    with_reducible refine x_cons ?_
    with_reducible refine x_lst ?_
    with_reducible refine x_cons ?_
    with_reducible refine x_c ?_
    refine ⟨szle (show 1 ≤ 16777216 from by decide), fun p43 np42 => ?_⟩
    have fr57 : Rs (α := Int) (F32) [(.int 1)] ([(1 : Int)] : (List Int)) := (Rs_cons (.int _) Rs_nil)
    have g46 := Gr.newO (o := .lst [(.int 1)]) G68.sub np42
    have o94 := Ow.new (us := [(.int 1)]) G68 np42
    have ne30 := o93.ne_new np42
    have G69 := G68.step g46
    have o95 := o93.step g46
    obtain ⟨F33, G70, ex21, fa35, nf21⟩ := o94.frzE G69
    have o96 := o95.frzN (Ne.symm (Ne.symm ne30)) nf21
    have fr58 := Rs_mono ex21 fr57
    with_reducible refine x_cons ?_
    with_reducible refine x_lst ?_
    with_reducible refine x_cons ?_
    with_reducible refine x_c ?_
    with_reducible refine x_cons ?_
    with_reducible refine x_c ?_
    refine ⟨szle (show 2 ≤ 16777216 from by decide), fun p44 np43 => ?_⟩
    have fr59 : Rs (α := Int) (F33) [(.int 1), (.int 0)] ([(1 : Int), (0 : Int)] : (List Int)) := (Rs_cons (.int _) (Rs_cons (.int _) Rs_nil))
    have g47 := Gr.newO (o := .lst [(.int 1), (.int 0)]) G70.sub np43
    have o97 := Ow.new (us := [(.int 1), (.int 0)]) G70 np43
    have ne31 := o96.ne_new np43
    have G71 := G70.step g47
    have o98 := o96.step g47
    obtain ⟨F34, G72, ex22, fa36, nf22⟩ := o97.frzE G71
    have o99 := o98.frzN (Ne.symm (Ne.symm ne31)) nf22
    have fr60 := Rs_mono ex22 fr59
    with_reducible refine x_cons ?_
    with_reducible refine x_lst ?_
    with_reducible refine x_cons ?_
    with_reducible refine x_c ?_
    with_reducible refine x_cons ?_
    with_reducible refine x_c ?_
    refine ⟨szle (show 2 ≤ 16777216 from by decide), fun p45 np44 => ?_⟩
    have fr61 : Rs (α := Int) (F34) [(.int 1), (.int 1)] ([(1 : Int), (1 : Int)] : (List Int)) := (Rs_cons (.int _) (Rs_cons (.int _) Rs_nil))
    have g48 := Gr.newO (o := .lst [(.int 1), (.int 1)]) G72.sub np44
    have o100 := Ow.new (us := [(.int 1), (.int 1)]) G72 np44
    have ne32 := o99.ne_new np44
    have G73 := G72.step g48
    have o101 := o99.step g48
    obtain ⟨F35, G74, ex23, fa37, nf23⟩ := o100.frzE G73
    have o102 := o101.frzN (Ne.symm (Ne.symm ne32)) nf23
    have fr62 := Rs_mono ex23 fr61
    refine ⟨szle (show 5 ≤ 16777216 from by decide), fun p46 np45 => ?_⟩
    have fr63 : Rs (α := (List Int)) (F35) [(.ref p41), (.ref p42), (.ref p43), (.ref p44), (.ref p45)] ([([(0 : Int)] : (List Int)), ([(0 : Int), (1 : Int)] : (List Int)), ([(1 : Int)] : (List Int)), ([(1 : Int), (0 : Int)] : (List Int)), ([(1 : Int), (1 : Int)] : (List Int))] : (List (List Int))) := (Rs_cons (mk_lst ((((ex20.trans ex21).trans ex22).trans ex23) _ _ fa33) (Rs_mono (((ex20.trans ex21).trans ex22).trans ex23) fr54)) (Rs_cons (mk_lst (((ex21.trans ex22).trans ex23) _ _ fa34) (Rs_mono ((ex21.trans ex22).trans ex23) fr56)) (Rs_cons (mk_lst ((ex22.trans ex23) _ _ fa35) (Rs_mono (ex22.trans ex23) fr58)) (Rs_cons (mk_lst (ex23 _ _ fa36) (Rs_mono ex23 fr60)) (Rs_cons (mk_lst ((Sub.refl _) _ _ fa37) (Rs_mono (Sub.refl _) fr62)) Rs_nil)))))
    have g49 := Gr.newO (o := .lst [(.ref p41), (.ref p42), (.ref p43), (.ref p44), (.ref p45)]) G74.sub np45
    have o103 := Ow.new (us := [(.ref p41), (.ref p42), (.ref p43), (.ref p44), (.ref p45)]) G74 np45
    have ne33 := o102.ne_new np45
    have G75 := G74.step g49
    have o104 := o102.step g49
    obtain ⟨F36, G76, ex24, fa38, nf24⟩ := o103.frzE G75
    have o105 := o104.frzN (Ne.symm (Ne.symm ne33)) nf24
    have fr64 := Rs_mono ex24 fr63
    refine ⟨szle (show 2 ≤ 16777216 from by decide), fun p47 np46 => ?_⟩
    obtain ⟨F37, g50, fa39⟩ := Gr.newE (o := .tup [(.int (rule).1), (.ref p46)]) G76.sub np46
    have G77 := G76.step g50
    have o106 := o105.step g50
    have d37 : R (α := PyData) (F37) (.ref p47) (PyData.tuple [(PyData.int (rule).1), (PyData.list (([([(0 : Int)] : (List Int)), ([(0 : Int), (1 : Int)] : (List Int)), ([(1 : Int)] : (List Int)), ([(1 : Int), (0 : Int)] : (List Int)), ([(1 : Int), (1 : Int)] : (List Int))] : (List (List Int))).map fun z => (PyData.list (z.map fun z => (PyData.int z)))))]) := (.tup ((Sub.refl _) _ _ fa39) (.cons (.int _) (.cons (mk_lst (g50.ex _ _ fa38) (Rs_mono g50.ex fr64)) .nil)))
    obtain ⟨c9, hm⟩ := guardp hm
    refine ⟨_, _, _, rfl, rfl, o106.at_, szl (by rw [Rs_len (Rs_mono g50.ex (Rs_mono ex24 (Rs_mono ex23 (Rs_mono ex22 (Rs_mono ex21 (Rs_mono ex20 (Rs_mono ex19 fr52)))))))]; exact c9), ?_⟩
    have G78 := o106.mutG (o := .lst (us2 ++ [(.ref p47)])) G77
    have o107 := o106.mut (ws := us2 ++ [(.ref p47)])
    have fr65 : Rs (α := PyData) (F37) (us2 ++ [(.ref p47)]) (x2 ++ [(PyData.tuple [(PyData.int (rule).1), (PyData.list (([([(0 : Int)] : (List Int)), ([(0 : Int), (1 : Int)] : (List Int)), ([(1 : Int)] : (List Int)), ([(1 : Int), (0 : Int)] : (List Int)), ([(1 : Int), (1 : Int)] : (List Int))] : (List (List Int))).map fun z => (PyData.list (z.map fun z => (PyData.int z)))))])]) := Rs_snoc (Rs_mono g50.ex (Rs_mono ex24 (Rs_mono ex23 (Rs_mono ex22 (Rs_mono ex21 (Rs_mono ex20 (Rs_mono ex19 fr52))))))) (RD.mono (Sub.refl _) d37)
    with_reducible refine x_seq ?_
    with_reducible refine x_drop ?_
    with_reducible refine x_bm ?_
    refine ⟨_, rfl, ?_⟩
    refine ⟨.inl ⟨rfl, _, .inl (.inl o107.at_)⟩, ?_⟩
    with_reducible refine x_cons ?_
    with_reducible refine x_tup ?_
    with_reducible refine x_cons ?_
    refine ⟨_, rfl, ?_⟩
    with_reducible refine x_cons ?_
    with_reducible refine x_lst ?_
    with_reducible refine x_cons ?_
    with_reducible refine x_lst ?_
    with_reducible refine x_cons ?_
    with_reducible refine x_c ?_
    refine ⟨szle (show 1 ≤ 16777216 from by decide), fun p48 np47 => ?_⟩
    have fr66 : Rs (α := Int) (F37) [(.int 1)] ([(1 : Int)] : (List Int)) := (Rs_cons (.int _) Rs_nil)
    have g51 := Gr.newO (o := .lst [(.int 1)]) G78.sub np47
    have o108 := Ow.new (us := [(.int 1)]) G78 np47
    have ne34 := o107.ne_new np47
    have G79 := G78.step g51
    have o109 := o107.step g51
    obtain ⟨F38, G80, ex25, fa40, nf25⟩ := o108.frzE G79
    have o110 := o109.frzN (Ne.symm (Ne.symm ne34)) nf25
    have fr67 := Rs_mono ex25 fr66
    with_reducible refine x_cons ?_
    with_reducible refine x_lst ?_
    with_reducible refine x_cons ?_
    with_reducible refine x_c ?_
    refine ⟨szle (show 1 ≤ 16777216 from by decide), fun p49 np48 => ?_⟩
    have fr68 : Rs (α := Int) (F38) [(.int 0)] ([(0 : Int)] : (List Int)) := (Rs_cons (.int _) Rs_nil)
    have g52 := Gr.newO (o := .lst [(.int 0)]) G80.sub np48
    have o111 := Ow.new (us := [(.int 0)]) G80 np48
    have ne35 := o110.ne_new np48
    have G81 := G80.step g52
    have o112 := o110.step g52
    obtain ⟨F39, G82, ex26, fa41, nf26⟩ := o111.frzE G81
    have o113 := o112.frzN (Ne.symm (Ne.symm ne35)) nf26
    have fr69 := Rs_mono ex26 fr68
    refine ⟨szle (show 2 ≤ 16777216 from by decide), fun p50 np49 => ?_⟩
    have fr70 : Rs (α := (List Int)) (F39) [(.ref p48), (.ref p49)] ([([(1 : Int)] : (List Int)), ([(0 : Int)] : (List Int))] : (List (List Int))) := (Rs_cons (mk_lst (ex26 _ _ fa40) (Rs_mono ex26 fr67)) (Rs_cons (mk_lst ((Sub.refl _) _ _ fa41) (Rs_mono (Sub.refl _) fr69)) Rs_nil))
    have g53 := Gr.newO (o := .lst [(.ref p48), (.ref p49)]) G82.sub np49
    have o114 := Ow.new (us := [(.ref p48), (.ref p49)]) G82 np49
    have ne36 := o113.ne_new np49
    have G83 := G82.step g53
    have o115 := o113.step g53
    obtain ⟨F40, G84, ex27, fa42, nf27⟩ := o114.frzE G83
    have o116 := o115.frzN (Ne.symm (Ne.symm ne36)) nf27
    have fr71 := Rs_mono ex27 fr70
    refine ⟨szle (show 2 ≤ 16777216 from by decide), fun p51 np50 => ?_⟩
    obtain ⟨F41, g54, fa43⟩ := Gr.newE (o := .tup [(.int (rule).1), (.ref p50)]) G84.sub np50
    have G85 := G84.step g54
    have o117 := o116.step g54
    have d38 : R (α := PyData) (F41) (.ref p51) (PyData.tuple [(PyData.int (rule).1), (PyData.list (([([(1 : Int)] : (List Int)), ([(0 : Int)] : (List Int))] : (List (List Int))).map fun z => (PyData.list (z.map fun z => (PyData.int z)))))]) := (.tup ((Sub.refl _) _ _ fa43) (.cons (.int _) (.cons (mk_lst (g54.ex _ _ fa42) (Rs_mono g54.ex fr71)) .nil)))
    obtain ⟨c10, hm⟩ := guardp hm
    refine ⟨_, _, _, rfl, rfl, o117.at_, szl (by rw [Rs_len (Rs_mono g54.ex (Rs_mono ex27 (Rs_mono ex26 (Rs_mono ex25 fr65))))]; exact c10), ?_⟩
    have G86 := o117.mutG (o := .lst ((us2 ++ [(.ref p47)]) ++ [(.ref p51)])) G85
    have o118 := o117.mut (ws := (us2 ++ [(.ref p47)]) ++ [(.ref p51)])
    have fr72 : Rs (α := PyData) (F41) ((us2 ++ [(.ref p47)]) ++ [(.ref p51)]) ((x2 ++ [(PyData.tuple [(PyData.int (rule).1), (PyData.list (([([(0 : Int)] : (List Int)), ([(0 : Int), (1 : Int)] : (List Int)), ([(1 : Int)] : (List Int)), ([(1 : Int), (0 : Int)] : (List Int)), ([(1 : Int), (1 : Int)] : (List Int))] : (List (List Int))).map fun z => (PyData.list (z.map fun z => (PyData.int z)))))])]) ++ [(PyData.tuple [(PyData.int (rule).1), (PyData.list (([([(1 : Int)] : (List Int)), ([(0 : Int)] : (List Int))] : (List (List Int))).map fun z => (PyData.list (z.map fun z => (PyData.int z)))))])]) := Rs_snoc (Rs_mono g54.ex (Rs_mono ex27 (Rs_mono ex26 (Rs_mono ex25 fr65)))) (RD.mono (Sub.refl _) d38)
    with_reducible refine x_seq ?_
    with_reducible refine x_drop ?_
    with_reducible refine x_bm ?_
    refine ⟨_, rfl, ?_⟩
    refine ⟨.inl ⟨rfl, _, .inl (.inl o118.at_)⟩, ?_⟩
    with_reducible refine x_cons ?_
    with_reducible refine x_tup ?_
    with_reducible refine x_cons ?_
    refine ⟨_, rfl, ?_⟩
    with_reducible refine x_cons ?_
    with_reducible refine x_lst ?_
    with_reducible refine x_cons ?_
    with_reducible refine x_lst ?_
    with_reducible refine x_cons ?_
    with_reducible refine x_c ?_
    with_reducible refine x_cons ?_
    with_reducible refine x_c ?_
    refine ⟨szle (show 2 ≤ 16777216 from by decide), fun p52 np51 => ?_⟩
    have fr73 : Rs (α := Int) (F41) [(.int 0), (.int 1)] ([(0 : Int), (1 : Int)] : (List Int)) := (Rs_cons (.int _) (Rs_cons (.int _) Rs_nil))
    have g55 := Gr.newO (o := .lst [(.int 0), (.int 1)]) G86.sub np51
    have o119 := Ow.new (us := [(.int 0), (.int 1)]) G86 np51
    have ne37 := o118.ne_new np51
    have G87 := G86.step g55
    have o120 := o118.step g55
    obtain ⟨F42, G88, ex28, fa44, nf28⟩ := o119.frzE G87
    have o121 := o120.frzN (Ne.symm (Ne.symm ne37)) nf28
    have fr74 := Rs_mono ex28 fr73
    with_reducible refine x_cons ?_
    with_reducible refine x_lst ?_
    with_reducible refine x_cons ?_
    with_reducible refine x_c ?_
    with_reducible refine x_cons ?_
    with_reducible refine x_c ?_
    refine ⟨szle (show 2 ≤ 16777216 from by decide), fun p53 np52 => ?_⟩
    have fr75 : Rs (α := Int) (F42) [(.int 0), (.int 1)] ([(0 : Int), (1 : Int)] : (List Int)) := (Rs_cons (.int _) (Rs_cons (.int _) Rs_nil))
    have g56 := Gr.newO (o := .lst [(.int 0), (.int 1)]) G88.sub np52
    have o122 := Ow.new (us := [(.int 0), (.int 1)]) G88 np52
    have ne38 := o121.ne_new np52
    have G89 := G88.step g56
    have o123 := o121.step g56
    obtain ⟨F43, G90, ex29, fa45, nf29⟩ := o122.frzE G89
    have o124 := o123.frzN (Ne.symm (Ne.symm ne38)) nf29
    have fr76 := Rs_mono ex29 fr75
    refine ⟨szle (show 2 ≤ 16777216 from by decide), fun p54 np53 => ?_⟩
    have fr77 : Rs (α := (List Int)) (F43) [(.ref p52), (.ref p53)] ([([(0 : Int), (1 : Int)] : (List Int)), ([(0 : Int), (1 : Int)] : (List Int))] : (List (List Int))) := (Rs_cons (mk_lst (ex29 _ _ fa44) (Rs_mono ex29 fr74)) (Rs_cons (mk_lst ((Sub.refl _) _ _ fa45) (Rs_mono (Sub.refl _) fr76)) Rs_nil))
    have g57 := Gr.newO (o := .lst [(.ref p52), (.ref p53)]) G90.sub np53
    have o125 := Ow.new (us := [(.ref p52), (.ref p53)]) G90 np53
    have ne39 := o124.ne_new np53
    have G91 := G90.step g57
    have o126 := o124.step g57
    obtain ⟨F44, G92, ex30, fa46, nf30⟩ := o125.frzE G91
    have o127 := o126.frzN (Ne.symm (Ne.symm ne39)) nf30
    have fr78 := Rs_mono ex30 fr77
    refine ⟨szle (show 2 ≤ 16777216 from by decide), fun p55 np54 => ?_⟩
    obtain ⟨F45, g58, fa47⟩ := Gr.newE (o := .tup [(.int (rule).1), (.ref p54)]) G92.sub np54
    have G93 := G92.step g58
    have o128 := o127.step g58
    have d39 : R (α := PyData) (F45) (.ref p55) (PyData.tuple [(PyData.int (rule).1), (PyData.list (([([(0 : Int), (1 : Int)] : (List Int)), ([(0 : Int), (1 : Int)] : (List Int))] : (List (List Int))).map fun z => (PyData.list (z.map fun z => (PyData.int z)))))]) := (.tup ((Sub.refl _) _ _ fa47) (.cons (.int _) (.cons (mk_lst (g58.ex _ _ fa46) (Rs_mono g58.ex fr78)) .nil)))
    obtain ⟨c11, hm⟩ := guardp hm
    refine ⟨_, _, _, rfl, rfl, o128.at_, szl (by rw [Rs_len (Rs_mono g58.ex (Rs_mono ex30 (Rs_mono ex29 (Rs_mono ex28 fr72))))]; exact c11), ?_⟩
    have G94 := o128.mutG (o := .lst (((us2 ++ [(.ref p47)]) ++ [(.ref p51)]) ++ [(.ref p55)])) G93
    have o129 := o128.mut (ws := ((us2 ++ [(.ref p47)]) ++ [(.ref p51)]) ++ [(.ref p55)])
    have fr79 : Rs (α := PyData) (F45) (((us2 ++ [(.ref p47)]) ++ [(.ref p51)]) ++ [(.ref p55)]) (((x2 ++ [(PyData.tuple [(PyData.int (rule).1), (PyData.list (([([(0 : Int)] : (List Int)), ([(0 : Int), (1 : Int)] : (List Int)), ([(1 : Int)] : (List Int)), ([(1 : Int), (0 : Int)] : (List Int)), ([(1 : Int), (1 : Int)] : (List Int))] : (List (List Int))).map fun z => (PyData.list (z.map fun z => (PyData.int z)))))])]) ++ [(PyData.tuple [(PyData.int (rule).1), (PyData.list (([([(1 : Int)] : (List Int)), ([(0 : Int)] : (List Int))] : (List (List Int))).map fun z => (PyData.list (z.map fun z => (PyData.int z)))))])]) ++ [(PyData.tuple [(PyData.int (rule).1), (PyData.list (([([(0 : Int), (1 : Int)] : (List Int)), ([(0 : Int), (1 : Int)] : (List Int))] : (List (List Int))).map fun z => (PyData.list (z.map fun z => (PyData.int z)))))])]) := Rs_snoc (Rs_mono g58.ex (Rs_mono ex30 (Rs_mono ex29 (Rs_mono ex28 fr72)))) (RD.mono (Sub.refl _) d39)
    refine ⟨(fun σ H6 => ∃ (F46 : Hp) (x3 : (List PyData)) (p56 : Addr) (us3 : List V), (_law_bad_j3 cell) x3 = some r ∧ Sub (F45) F46 ∧ Gr NA F0 H F46 H6 ∧ Ow H F46 H6 p56 us3 ∧ Rs F46 us3 x3 ∧ σ = [some (.ref a1), some (.int cell), some (.int (rule).1), some (.ref a2), some (.ref p56), some (.int ((cell / (100 : Int)) % (((rule).2.length : Int) + (1 : Int)))), some (.ref p27), y1]), ?_, fun σ H1 hW => ?_⟩
    · with_reducible refine x_if ?_
      with_reducible refine x_B ?_
      refine useEv (.bl (decide ((1 : Int) < ((rule).2.length : Int)))) (by exact (ev_cmp (ev_lenT (Evl.ev_var rfl) ((((((((((((((((((((((((((((((((((((((((((((g1.ex.trans ex1).trans g3.ex).trans ex2).trans g5.ex).trans ex3).trans g8.ex).trans ex4).trans g10.ex).trans g11.ex).trans g14.ex).trans g15.ex).trans g16.ex).trans ex5).trans ex6).trans ex7).trans ex8).trans ex9).trans ex10).trans ex11).trans g28.ex).trans ex12).trans ex13).trans ex14).trans ex15).trans ex16).trans ex17).trans s2).trans ex19).trans ex20).trans ex21).trans ex22).trans ex23).trans ex24).trans g50.ex).trans ex25).trans ex26).trans ex27).trans g54.ex).trans ex28).trans ex29).trans ex30).trans g58.ex).trans G94.sub) _ _ fa2) (Rs_mono ((((((((((((((((((((((((((((((((((((((((((g1.ex.trans ex1).trans g3.ex).trans ex2).trans g5.ex).trans ex3).trans g8.ex).trans ex4).trans g10.ex).trans g11.ex).trans g14.ex).trans g15.ex).trans g16.ex).trans ex5).trans ex6).trans ex7).trans ex8).trans ex9).trans ex10).trans ex11).trans g28.ex).trans ex12).trans ex13).trans ex14).trans ex15).trans ex16).trans ex17).trans s2).trans ex19).trans ex20).trans ex21).trans ex22).trans ex23).trans ex24).trans g50.ex).trans ex25).trans ex26).trans ex27).trans g54.ex).trans ex28).trans ex29).trans ex30).trans g58.ex) fr1)) Evl.ev_c)) (fun H8 e6 => ?_)
      have g60 := gr_ex G94.sub e6
      have G97 := G94.step g60
      have o132 := o129.step g60
      refine ⟨_, rfl, ?_⟩
      refine ifD (fun hc => ?_) (fun hc => ?_)
      · replace hm := itep hm hc
        with_reducible refine x_drop ?_
        with_reducible refine x_bm ?_
        refine ⟨_, rfl, ?_⟩
        refine ⟨.inl ⟨rfl, _, .inl (.inl o132.at_)⟩, ?_⟩
        with_reducible refine x_cons ?_
        with_reducible refine x_tup ?_
        with_reducible refine x_cons ?_
        refine ⟨_, rfl, ?_⟩
        with_reducible refine x_cons ?_
        with_reducible refine x_revL ?_
        refine ⟨_, rfl, ?_⟩
        refine ⟨_, _, rfl, .inl (.inl ((((((((((((((((((((((((((((((((((((((((((((g1.ex.trans ex1).trans g3.ex).trans ex2).trans g5.ex).trans ex3).trans g8.ex).trans ex4).trans g10.ex).trans g11.ex).trans g14.ex).trans g15.ex).trans g16.ex).trans ex5).trans ex6).trans ex7).trans ex8).trans ex9).trans ex10).trans ex11).trans g28.ex).trans ex12).trans ex13).trans ex14).trans ex15).trans ex16).trans ex17).trans s2).trans ex19).trans ex20).trans ex21).trans ex22).trans ex23).trans ex24).trans g50.ex).trans ex25).trans ex26).trans ex27).trans g54.ex).trans ex28).trans ex29).trans ex30).trans g58.ex).trans G97.sub) _ _ fa2)), fun p57 np55 => ?_⟩
        have fr81 : Rs (α := (List Int)) (F45) (us1).reverse (((rule).2).reverse) := Rs_rev (Rs_mono ((((((((((((((((((((((((((((((((((((((((((g1.ex.trans ex1).trans g3.ex).trans ex2).trans g5.ex).trans ex3).trans g8.ex).trans ex4).trans g10.ex).trans g11.ex).trans g14.ex).trans g15.ex).trans g16.ex).trans ex5).trans ex6).trans ex7).trans ex8).trans ex9).trans ex10).trans ex11).trans g28.ex).trans ex12).trans ex13).trans ex14).trans ex15).trans ex16).trans ex17).trans s2).trans ex19).trans ex20).trans ex21).trans ex22).trans ex23).trans ex24).trans g50.ex).trans ex25).trans ex26).trans ex27).trans g54.ex).trans ex28).trans ex29).trans ex30).trans g58.ex) fr1)
        have g61 := Gr.newO (o := .lst (us1).reverse) G97.sub np55
        have o133 := Ow.new (us := (us1).reverse) G97 np55
        have ne40 := o132.ne_new np55
        have G98 := G97.step g61
        have o134 := o132.step g61
        obtain ⟨F47, G99, ex31, fa48, nf31⟩ := o133.frzE G98
        have o135 := o134.frzN (Ne.symm (Ne.symm ne40)) nf31
        have fr82 := Rs_mono ex31 fr81
        refine ⟨szle (show 2 ≤ 16777216 from by decide), fun p58 np56 => ?_⟩
        obtain ⟨F48, g62, fa49⟩ := Gr.newE (o := .tup [(.int (rule).1), (.ref p57)]) G99.sub np56
        have G100 := G99.step g62
        have o136 := o135.step g62
        have d41 : R (α := PyData) (F48) (.ref p58) (PyData.tuple [(PyData.int (rule).1), (PyData.list ((((rule).2).reverse).map fun z => (PyData.list (z.map fun z => (PyData.int z)))))]) := (.tup ((Sub.refl _) _ _ fa49) (.cons (.int _) (.cons (mk_lst (g62.ex _ _ fa48) (Rs_mono g62.ex fr82)) .nil)))
        obtain ⟨c13, hm⟩ := guardp hm
        refine ⟨_, _, _, rfl, rfl, o136.at_, szl (by rw [Rs_len (Rs_mono g62.ex (Rs_mono ex31 fr79))]; exact c13), ?_⟩
        have G101 := o136.mutG (o := .lst ((((us2 ++ [(.ref p47)]) ++ [(.ref p51)]) ++ [(.ref p55)]) ++ [(.ref p58)])) G100
        have o137 := o136.mut (ws := (((us2 ++ [(.ref p47)]) ++ [(.ref p51)]) ++ [(.ref p55)]) ++ [(.ref p58)])
        have fr83 : Rs (α := PyData) (F48) ((((us2 ++ [(.ref p47)]) ++ [(.ref p51)]) ++ [(.ref p55)]) ++ [(.ref p58)]) ((((x2 ++ [(PyData.tuple [(PyData.int (rule).1), (PyData.list (([([(0 : Int)] : (List Int)), ([(0 : Int), (1 : Int)] : (List Int)), ([(1 : Int)] : (List Int)), ([(1 : Int), (0 : Int)] : (List Int)), ([(1 : Int), (1 : Int)] : (List Int))] : (List (List Int))).map fun z => (PyData.list (z.map fun z => (PyData.int z)))))])]) ++ [(PyData.tuple [(PyData.int (rule).1), (PyData.list (([([(1 : Int)] : (List Int)), ([(0 : Int)] : (List Int))] : (List (List Int))).map fun z => (PyData.list (z.map fun z => (PyData.int z)))))])]) ++ [(PyData.tuple [(PyData.int (rule).1), (PyData.list (([([(0 : Int), (1 : Int)] : (List Int)), ([(0 : Int), (1 : Int)] : (List Int))] : (List (List Int))).map fun z => (PyData.list (z.map fun z => (PyData.int z)))))])]) ++ [(PyData.tuple [(PyData.int (rule).1), (PyData.list ((((rule).2).reverse).map fun z => (PyData.list (z.map fun z => (PyData.int z)))))])]) := Rs_snoc (Rs_mono g62.ex (Rs_mono ex31 fr79)) (RD.mono (Sub.refl _) d41)
        exact ⟨F48, ((((x2 ++ [(PyData.tuple [(PyData.int (rule).1), (PyData.list (([([(0 : Int)] : (List Int)), ([(0 : Int), (1 : Int)] : (List Int)), ([(1 : Int)] : (List Int)), ([(1 : Int), (0 : Int)] : (List Int)), ([(1 : Int), (1 : Int)] : (List Int))] : (List (List Int))).map fun z => (PyData.list (z.map fun z => (PyData.int z)))))])]) ++ [(PyData.tuple [(PyData.int (rule).1), (PyData.list (([([(1 : Int)] : (List Int)), ([(0 : Int)] : (List Int))] : (List (List Int))).map fun z => (PyData.list (z.map fun z => (PyData.int z)))))])]) ++ [(PyData.tuple [(PyData.int (rule).1), (PyData.list (([([(0 : Int), (1 : Int)] : (List Int)), ([(0 : Int), (1 : Int)] : (List Int))] : (List (List Int))).map fun z => (PyData.list (z.map fun z => (PyData.int z)))))])]) ++ [(PyData.tuple [(PyData.int (rule).1), (PyData.list ((((rule).2).reverse).map fun z => (PyData.list (z.map fun z => (PyData.int z)))))])]), _, _, hm, (ex31.trans g62.ex), G101, o137, fr83, rfl⟩
      · replace hm := iten hm (bF hc)
        with_reducible refine x_next ?_
        exact ⟨F45, (((x2 ++ [(PyData.tuple [(PyData.int (rule).1), (PyData.list (([([(0 : Int)] : (List Int)), ([(0 : Int), (1 : Int)] : (List Int)), ([(1 : Int)] : (List Int)), ([(1 : Int), (0 : Int)] : (List Int)), ([(1 : Int), (1 : Int)] : (List Int))] : (List (List Int))).map fun z => (PyData.list (z.map fun z => (PyData.int z)))))])]) ++ [(PyData.tuple [(PyData.int (rule).1), (PyData.list (([([(1 : Int)] : (List Int)), ([(0 : Int)] : (List Int))] : (List (List Int))).map fun z => (PyData.list (z.map fun z => (PyData.int z)))))])]) ++ [(PyData.tuple [(PyData.int (rule).1), (PyData.list (([([(0 : Int), (1 : Int)] : (List Int)), ([(0 : Int), (1 : Int)] : (List Int))] : (List (List Int))).map fun z => (PyData.list (z.map fun z => (PyData.int z)))))])]), _, _, hm, (Sub.refl _), G97, o132, fr79, rfl⟩
    · skip
      obtain ⟨F46, x3, p56, us3, hm, s3, G95, o130, fr80, rfl⟩ := hW
      have hm : (_law_bad_j3 cell) x3 = some r := hm
      rw [_law_bad_j3] at hm
      with_reducible refine x_ret ?_
      with_reducible refine x_op ?_
      refine ⟨_, rfl, ?_⟩
      with_reducible refine x_op ?_
      refine ⟨_, rfl, ?_⟩
      refine useEv (.int (x3.length : Int)) (by exact (ev_lenT (Evl.ev_var rfl) o130.at_ fr80)) (fun H7 e5 => ?_)
      have g59 := gr_ex G95.sub e5
      have G96 := G95.step g59
      have o131 := o130.step g59
      obtain ⟨c12, hm⟩ := guardp hm
      refine ⟨_, _, rfl, rfl, c12.p, ?_⟩
      obtain ⟨x4, hx2, hm⟩ := bindp hm
      obtain ⟨v4, hu1, d40⟩ := Rs_at fr80 hx2
      refine ⟨_, _, _, _, rfl, rfl, .inl (.inl o131.at_), hu1, ?_⟩
      obtain rfl : _ = r := Option.some.inj hm
      exact q _ _ _ G96 (RD.mono (Sub.refl _) d40)

abbrev N__law_cell : List Str := ["script", "k"]
theorem sc__law_cell : FnScope N__law_cell ["script", "k"] (defScope s__law_cell) := ⟨rfl, rfl, rfl, by decide +kernel, rfl, by decide +kernel, by decide +kernel⟩
def sp__law_cell (K : PySem.W.Frag) : Sp := fun vs H Q _ => ∃ (F : Hp) (v_script : V) (v_k : V) (script : (List Int)) (k : Int) (r : Int), vs = [v_script, v_k] ∧ Sub F H ∧ ScR K H v_script script ∧ R F v_k k ∧ _law_cell script k = some r ∧ ∀ N H2 v, Gr NA F H N H2 → R N v r → Q v H2
theorem ok__law_cell {P : Program} {w : World} {K : PySem.W.Frag} {mg : Str → Option Value} {base : Heap} (T : Txt K mg) : FnOk P w K mg base CX0 1 T.f__law_cell.f T.f__law_cell.fd ["script", "k"] (sp__law_cell K) := by
  have nd := (sc__law_cell).nd
  refine T.f__law_cell.F.ok sc__law_cell (fun vs H Q E h => ?_) (fun cdv A0 outer s H vs Q E hr h => ?_)
  · obtain ⟨_, _, _, _, _, _, rfl, _⟩ := h
    rfl
  obtain ⟨F0, v_script, v_k, script, k, r, rfl, s0, f_script, f_k, hm, q⟩ := h
  have G0 : Gr NA F0 H F0 H := Gr.refl s0
  obtain ⟨a1, rfl, sq1⟩ := f_script
  obtain rfl := int_of f_k
  refine ⟨_, (pss_cons (ps_if (pt_cmp (pc_lt (pv 1) (pe_callB (r := rLenT K) call_lenT (by rfl) T.z_len PySem.boot_len (pa_cons (pv 0) pa_nil)))) (pss_one (ps_ret (pe_ix (r := rIxL K) ix_list (pv 0) (pv 1) (fun _ _ => rfl)))) pss_nil) (pss_one (ps_ret (pe_op op_add (pe_op op_add (pe_op op_mulW (pe_op op_mul pe_int (pv 1)) (pv 1)) (pe_op op_mul pe_int (pv 1))) pe_int)))), ?_⟩
  refine x_start (σ' := ([some (.ref a1), some (.int k)] : L2.St)) (by with_unfolding_all rfl) ?_
  rw [_law_cell] at hm
  with_reducible refine x_seq ?_
  with_reducible refine x_if ?_
  with_reducible refine x_B ?_
  with_reducible refine x_cmp ?_
  refine ⟨_, rfl, ?_⟩
  with_reducible refine x_cb ?_
  with_reducible refine x_cons ?_
  refine ⟨_, rfl, ?_⟩
  refine ⟨_, _, rfl, .inl (SqL_gr sq1 G0), ?_⟩
  rw [List.length_map]
  refine ⟨_, _, rfl, rfl, ?_⟩
  refine ⟨_, rfl, ?_⟩
  refine ifD (fun hc => ?_) (fun hc => ?_)
  · replace hm := itep hm hc
    with_reducible refine x_ret ?_
    with_reducible refine x_op ?_
    refine ⟨_, rfl, ?_⟩
    refine ⟨_, rfl, ?_⟩
    obtain ⟨x1, hx1, hm⟩ := bindp hm
    refine ⟨_, _, _, _, rfl, rfl, SqL_gr sq1 G0, atI_map hx1, ?_⟩
    obtain rfl : _ = r := Option.some.inj hm
    exact q _ _ _ G0 (.int _)
  · replace hm := iten hm (bF hc)
    with_reducible refine x_next ?_
    with_reducible refine x_ret ?_
    with_reducible refine x_op ?_
    with_reducible refine x_op ?_
    with_reducible refine x_op ?_
    with_reducible refine x_op ?_
    with_reducible refine x_c ?_
    refine ⟨_, rfl, ?_⟩
    refine ⟨_, _, rfl, rfl, .inl ⟨by decide, by decide⟩, ?_⟩
    refine ⟨_, rfl, ?_⟩
    obtain ⟨c1, hm⟩ := guardp hm
    refine ⟨_, _, rfl, rfl, c1.w, ?_⟩
    with_reducible refine x_op ?_
    with_reducible refine x_c ?_
    refine ⟨_, rfl, ?_⟩
    refine ⟨_, _, rfl, rfl, .inl ⟨by decide, by decide⟩, ?_⟩
    refine ⟨_, _, rfl, rfl, ?_⟩
    with_reducible refine x_c ?_
    refine ⟨_, _, rfl, rfl, ?_⟩
    obtain rfl : _ = r := Option.some.inj hm
    exact q _ _ _ G0 (.int _)

abbrev N__law_figures : List Str := ["base", "n", "found"]
theorem sc__law_figures : FnScope N__law_figures ["base", "n"] (defScope s__law_figures) := ⟨rfl, rfl, rfl, by decide +kernel, rfl, by decide +kernel, by decide +kernel⟩
def sp__law_figures : Sp := fun vs H Q _ => ∃ (F : Hp) (v_base : V) (v_n : V) (base : Int) (n : Int) (r : (List Int)), vs = [v_base, v_n] ∧ Sub F H ∧ R F v_base base ∧ R F v_n n ∧ _law_figures base n = some r ∧ ∀ N H2 v, Gr NA F H N H2 → R N v r → Q v H2
theorem ok__law_figures {P : Program} {w : World} {K : PySem.W.Frag} {mg : Str → Option Value} {base : Heap} (T : Txt K mg) : FnOk P w K mg base CX0 1 T.f__law_figures.f T.f__law_figures.fd ["base", "n"] sp__law_figures := by
  have nd := (sc__law_figures).nd
  refine T.f__law_figures.F.ok sc__law_figures (fun vs H Q E h => ?_) (fun cdv A0 outer s H vs Q E hr h => ?_)
  · obtain ⟨_, _, _, _, _, _, rfl, _⟩ := h
    rfl
  obtain ⟨F0, v_base, v_n, base, n, r, rfl, s0, f_base, f_n, hm, q⟩ := h
  have G0 : Gr NA F0 H F0 H := Gr.refl s0
  obtain rfl := int_of f_base
  obtain rfl := int_of f_n
  refine ⟨_, (pss_cons (ps_set (i := 2) nd rfl (by first | exact Or.inl rfl | exact Or.inr rfl) (pe_lst (pa_cons (pe_op op_mod (pv 1) (pv 0)) pa_nil))) (pss_cons (ps_while PassesOwn.never (pt_cmp (pc_ge (pv 1) (pv 0))) (pss_cons (ps_set (i := 1) nd rfl (by first | exact Or.inl rfl | exact Or.inr rfl) (pe_op op_fdivW (pv 1) (pv 0))) (pss_one (ps_set (i := 2) nd rfl (by first | exact Or.inl rfl | exact Or.inr rfl) (pe_op op_cat (pe_lst (pa_cons (pe_op op_mod (pv 1) (pv 0)) pa_nil)) (pv 2)))))) (pss_one (ps_ret (pv 2))))), ?_⟩
  refine x_start (σ' := ([some (.int base), some (.int n), none] : L2.St)) (by with_unfolding_all rfl) ?_
  rw [_law_figures] at hm
  with_reducible refine x_seq ?_
  with_reducible refine x_asg ?_
  with_reducible refine x_lst ?_
  with_reducible refine x_cons ?_
  with_reducible refine x_op ?_
  refine ⟨_, rfl, ?_⟩
  refine ⟨_, rfl, ?_⟩
  obtain ⟨c1, hm⟩ := guardp hm
  refine ⟨_, _, rfl, rfl, c1.p, ?_⟩
  refine ⟨szle (show 1 ≤ 16777216 from by decide), fun p1 np1 => ?_⟩
  have fr1 : Rs (α := Int) (F0) [(.int (n % base))] ([(n % base)] : (List Int)) := (Rs_cons (.int _) Rs_nil)
  have g1 := Gr.newO (o := .lst [(.int (n % base))]) G0.sub np1
  have o1 := Ow.new (us := [(.int (n % base))]) G0 np1
  have G1 := G0.step g1
  obtain ⟨F1, G2, ex1, fa1, nf1⟩ := o1.frzE G1
  have fr2 := Rs_mono ex1 fr1
  with_reducible refine x_gnE (σ' := ([some (.int base), some (.int n), some (.ref p1)] : L2.St)) (by with_unfolding_all rfl) ?_
  with_reducible refine x_seq ?_
  refine while_n (fun m σ H1 => ∃ (F2 : Hp) (x1 : Int) (x2 : (List Int)) (v1 : V), whileK (_law_figures_w1 base) m (x1, x2) = some r ∧ Sub (F1) F2 ∧ Gr NA F0 H F2 H1 ∧ R F2 v1 x2 ∧ σ = [some (.int base), some (.int x1), some v1]) fuel ⟨F1, n, ([(n % base)] : (List Int)), _, hm, (Sub.refl _), G2, (mk_lst ((Sub.refl _) _ _ fa1) (Rs_mono (Sub.refl _) fr2)), rfl⟩ (fun σ H1 hW => ?_) (fun m1 σ H1 hW => ?_)
  · obtain ⟨F2, x1, x2, v1, h9, _⟩ := hW
    exact no_none h9
  obtain ⟨F2, x1, x2, v1, hm, s1, G3, d1, rfl⟩ := hW
  obtain ⟨a1, us1, rfl, fa2, fr3⟩ := lst_of d1
  obtain ⟨next1, hnx1⟩ : ∃ nx, nx = whileK (_law_figures_w1 base) m1 := ⟨_, rfl⟩
  have hm : (_law_figures_w1 base) (x1, x2) next1 = some r := by rw [hnx1]; exact whileK_s hm
  rw [_law_figures_w1] at hm
  with_reducible refine x_B ?_
  refine useEv (.bl (decide (base ≤ x1))) (by exact (ev_cmp (Evl.ev_var rfl) (Evl.ev_var rfl))) (fun H2 e1 => ?_)
  have g2 := gr_ex G3.sub e1
  have G4 := G3.step g2
  refine ⟨_, rfl, ?_⟩
  refine ifD (fun hc => ?_) (fun hc => ?_)
  · replace hm := itep hm hc
    refine ⟨_, fun σ9 H9 h9 => ⟨m1, Nat.lt_succ_self _, h9⟩, ?_⟩
    with_reducible refine x_seq ?_
    with_reducible refine x_asg ?_
    with_reducible refine x_op ?_
    refine ⟨_, rfl, ?_⟩
    refine ⟨_, rfl, ?_⟩
    obtain ⟨c2, hm⟩ := guardp hm
    refine ⟨_, _, rfl, rfl, c2.w, ?_⟩
    with_reducible refine x_gnE (σ' := ([some (.int base), some (.int (x1 / base)), some (.ref a1)] : L2.St)) (by with_unfolding_all rfl) ?_
    with_reducible refine x_asg ?_
    with_reducible refine x_op ?_
    with_reducible refine x_lst ?_
    with_reducible refine x_cons ?_
    with_reducible refine x_op ?_
    refine ⟨_, rfl, ?_⟩
    refine ⟨_, rfl, ?_⟩
    obtain ⟨c3, hm⟩ := guardp hm
    refine ⟨_, _, rfl, rfl, c3.p, ?_⟩
    refine ⟨szle (show 1 ≤ 16777216 from by decide), fun p2 np2 => ?_⟩
    have fr4 : Rs (α := Int) (F2) [(.int ((x1 / base) % base))] ([((x1 / base) % base)] : (List Int)) := (Rs_cons (.int _) Rs_nil)
    have g3 := Gr.newO (o := .lst [(.int ((x1 / base) % base))]) G4.sub np2
    have o2 := Ow.new (us := [(.int ((x1 / base) % base))]) G4 np2
    have G5 := G4.step g3
    refine ⟨_, rfl, ?_⟩
    obtain ⟨c4, hm⟩ := guardp hm
    refine ⟨_, _, _, _, rfl, rfl, o2.at_, (G5.sub _ _ fa2), szle (by rw [Rs_len fr4, Rs_len (Rs_mono (Sub.refl _) fr3)]; exact c4), fun p3 np3 => ?_⟩
    have fr5 : Rs (α := Int) (F2) ([(.int ((x1 / base) % base))] ++ us1) (([((x1 / base) % base)] : (List Int)) ++ x2) := Rs_app fr4 (Rs_mono (Sub.refl _) fr3)
    have g4 := Gr.newO (o := .lst ([(.int ((x1 / base) % base))] ++ us1)) G5.sub np3
    have o3 := Ow.new (us := ([(.int ((x1 / base) % base))] ++ us1)) G5 np3
    have G6 := G5.step g4
    obtain ⟨F3, G7, ex2, fa3, nf2⟩ := o3.frzE G6
    have fr6 := Rs_mono ex2 fr5
    with_reducible refine x_gnE (σ' := ([some (.int base), some (.int (x1 / base)), some (.ref p3)] : L2.St)) (by with_unfolding_all rfl) ?_
    rw [hnx1] at hm
    exact ⟨F3, (x1 / base), (([((x1 / base) % base)] : (List Int)) ++ x2), _, hm, (s1.trans ex2), G7, (mk_lst ((Sub.refl _) _ _ fa3) (Rs_mono (Sub.refl _) fr6)), rfl⟩
  · replace hm := iten hm (bF hc)
    with_reducible refine x_ret ?_
    refine ⟨_, rfl, ?_⟩
    obtain rfl : _ = r := Option.some.inj hm
    exact q _ _ _ G4 (mk_lst ((Sub.refl _) _ _ fa2) (Rs_mono (Sub.refl _) fr3))

abbrev N__law_mixed : List Str := ["cell", "k", "number", "some"]
theorem sc__law_mixed : FnScope N__law_mixed ["cell", "k"] (defScope s__law_mixed) := ⟨rfl, rfl, rfl, by decide +kernel, rfl, by decide +kernel, by decide +kernel⟩
def sp__law_mixed : Sp := fun vs H Q _ => ∃ (F : Hp) (v_cell : V) (v_k : V) (cell : Int) (k : Int) (r : Int), vs = [v_cell, v_k] ∧ Sub F H ∧ R F v_cell cell ∧ R F v_k k ∧ _law_mixed cell k = some r ∧ ∀ N H2 v, Gr NA F H N H2 → R N v r → Q v H2
theorem ok__law_mixed {P : Program} {w : World} {K : PySem.W.Frag} {mg : Str → Option Value} {base : Heap} (T : Txt K mg) : FnOk P w K mg base CX0 1 T.f__law_mixed.f T.f__law_mixed.fd ["cell", "k"] sp__law_mixed := by
  have nd := (sc__law_mixed).nd
  refine T.f__law_mixed.F.ok sc__law_mixed (fun vs H Q E h => ?_) (fun cdv A0 outer s H vs Q E hr h => ?_)
  · obtain ⟨_, _, _, _, _, _, rfl, _⟩ := h
    rfl
  obtain ⟨F0, v_cell, v_k, cell, k, r, rfl, s0, f_cell, f_k, hm, q⟩ := h
  have G0 : Gr NA F0 H F0 H := Gr.refl s0
  obtain rfl := int_of f_cell
  obtain rfl := int_of f_k
  refine ⟨_, (pss_cons (ps_set (i := 2) nd rfl (by first | exact Or.inl rfl | exact Or.inr rfl) (pe_op op_mod (pe_op op_add (pe_op op_add (pe_op op_add (pe_op op_mul (pv 0) pe_int) (pe_op op_mulW (pe_op op_mul pe_int (pv 1)) (pv 1))) (pe_op op_mul pe_int (pv 1))) pe_int) pe_int)) (pss_cons (ps_set (i := 3) nd rfl (by first | exact Or.inl rfl | exact Or.inr rfl) (pe_lst (pa_cons pe_int (pa_cons pe_int (pa_cons pe_int (pa_cons pe_int (pa_cons pe_int (pa_cons pe_int (pa_cons pe_int pa_nil))))))))) (pss_cons (ps_set (i := 2) nd rfl (by first | exact Or.inl rfl | exact Or.inr rfl) (pe_op op_mod (pe_op op_mulW (pv 2) (pv 2)) (pe_ix (r := rIxL K) ix_list (pv 3) (pe_op op_mod (pv 1) pe_int) (fun _ _ => rfl)))) (pss_one (ps_ret (pe_op op_fdivW (pe_op op_add (pe_op op_mul (pv 2) pe_int) (pe_op op_mod (pv 0) pe_int)) pe_int)))))), ?_⟩
  refine x_start (σ' := ([some (.int cell), some (.int k), none, none] : L2.St)) (by with_unfolding_all rfl) ?_
  rw [_law_mixed] at hm
  with_reducible refine x_seq ?_
  with_reducible refine x_asg ?_
  with_reducible refine x_op ?_
  with_reducible refine x_op ?_
  with_reducible refine x_op ?_
  with_reducible refine x_op ?_
  with_reducible refine x_op ?_
  refine ⟨_, rfl, ?_⟩
  with_reducible refine x_c ?_
  refine ⟨_, _, rfl, rfl, .inr ⟨by decide, by decide⟩, ?_⟩
  with_reducible refine x_op ?_
  with_reducible refine x_op ?_
  with_reducible refine x_c ?_
  refine ⟨_, rfl, ?_⟩
  refine ⟨_, _, rfl, rfl, .inl ⟨by decide, by decide⟩, ?_⟩
  refine ⟨_, rfl, ?_⟩
  obtain ⟨c1, hm⟩ := guardp hm
  refine ⟨_, _, rfl, rfl, c1.w, ?_⟩
  refine ⟨_, _, rfl, rfl, ?_⟩
  with_reducible refine x_op ?_
  with_reducible refine x_c ?_
  refine ⟨_, rfl, ?_⟩
  refine ⟨_, _, rfl, rfl, .inl ⟨by decide, by decide⟩, ?_⟩
  refine ⟨_, _, rfl, rfl, ?_⟩
  with_reducible refine x_c ?_
  refine ⟨_, _, rfl, rfl, ?_⟩
  with_reducible refine x_c ?_
  refine ⟨_, _, rfl, rfl, (show (0 : Int) < (2147483647 : Int) from by decide), ?_⟩
  with_reducible refine x_gnE (σ' := ([some (.int cell), some (.int k), some (.int (((((cell * (48271 : Int)) + (((7919 : Int) * k) * k)) + ((104729 : Int) * k)) + (11 : Int)) % (2147483647 : Int))), none] : L2.St)) (by with_unfolding_all rfl) ?_
  with_reducible refine x_seq ?_
  with_reducible refine x_asg ?_
  with_reducible refine x_lst ?_
  with_reducible refine x_cons ?_
  with_reducible refine x_c ?_
  with_reducible refine x_cons ?_
  with_reducible refine x_c ?_
  with_reducible refine x_cons ?_
  with_reducible refine x_c ?_
  with_reducible refine x_cons ?_
  with_reducible refine x_c ?_
  with_reducible refine x_cons ?_
  with_reducible refine x_c ?_
  with_reducible refine x_cons ?_
  with_reducible refine x_c ?_
  with_reducible refine x_cons ?_
  with_reducible refine x_c ?_
  refine ⟨szle (show 7 ≤ 16777216 from by decide), fun p1 np1 => ?_⟩
  have fr1 : Rs (α := Int) (F0) [(.int 2147483629), (.int 2147483587), (.int 2147483579), (.int 2147483563), (.int 2147483549), (.int 2147483543), (.int 2147483497)] ([(2147483629 : Int), (2147483587 : Int), (2147483579 : Int), (2147483563 : Int), (2147483549 : Int), (2147483543 : Int), (2147483497 : Int)] : (List Int)) := (Rs_cons (.int _) (Rs_cons (.int _) (Rs_cons (.int _) (Rs_cons (.int _) (Rs_cons (.int _) (Rs_cons (.int _) (Rs_cons (.int _) Rs_nil)))))))
  have g1 := Gr.newO (o := .lst [(.int 2147483629), (.int 2147483587), (.int 2147483579), (.int 2147483563), (.int 2147483549), (.int 2147483543), (.int 2147483497)]) G0.sub np1
  have o1 := Ow.new (us := [(.int 2147483629), (.int 2147483587), (.int 2147483579), (.int 2147483563), (.int 2147483549), (.int 2147483543), (.int 2147483497)]) G0 np1
  have G1 := G0.step g1
  obtain ⟨F1, G2, ex1, fa1, nf1⟩ := o1.frzE G1
  have fr2 := Rs_mono ex1 fr1
  with_reducible refine x_gnE (σ' := ([some (.int cell), some (.int k), some (.int (((((cell * (48271 : Int)) + (((7919 : Int) * k) * k)) + ((104729 : Int) * k)) + (11 : Int)) % (2147483647 : Int))), some (.ref p1)] : L2.St)) (by with_unfolding_all rfl) ?_
  with_reducible refine x_seq ?_
  with_reducible refine x_asg ?_
  with_reducible refine x_op ?_
  with_reducible refine x_op ?_
  refine ⟨_, rfl, ?_⟩
  refine ⟨_, rfl, ?_⟩
  obtain ⟨c2, hm⟩ := guardp hm
  refine ⟨_, _, rfl, rfl, c2.w, ?_⟩
  with_reducible refine x_op ?_
  refine ⟨_, rfl, ?_⟩
  with_reducible refine x_op ?_
  refine ⟨_, rfl, ?_⟩
  with_reducible refine x_c ?_
  refine ⟨_, _, rfl, rfl, (show (0 : Int) < (7 : Int) from by decide), ?_⟩
  obtain ⟨x1, hx1, hm⟩ := bindp hm
  obtain ⟨v1, hu1, d1⟩ := Rs_at (Rs_mono (Sub.refl _) fr2) hx1
  refine ⟨_, _, _, _, rfl, rfl, .inl (.inl (G2.sub _ _ fa1)), hu1, ?_⟩
  obtain rfl := int_of d1
  obtain ⟨c3, hm⟩ := guardp hm
  refine ⟨_, _, rfl, rfl, c3.p, ?_⟩
  with_reducible refine x_gnE (σ' := ([some (.int cell), some (.int k), some (.int (((((((cell * (48271 : Int)) + (((7919 : Int) * k) * k)) + ((104729 : Int) * k)) + (11 : Int)) % (2147483647 : Int)) * (((((cell * (48271 : Int)) + (((7919 : Int) * k) * k)) + ((104729 : Int) * k)) + (11 : Int)) % (2147483647 : Int))) % x1)), some (.ref p1)] : L2.St)) (by with_unfolding_all rfl) ?_
  with_reducible refine x_ret ?_
  with_reducible refine x_op ?_
  with_reducible refine x_op ?_
  with_reducible refine x_op ?_
  refine ⟨_, rfl, ?_⟩
  with_reducible refine x_c ?_
  refine ⟨_, _, rfl, rfl, .inr ⟨by decide, by decide⟩, ?_⟩
  with_reducible refine x_op ?_
  refine ⟨_, rfl, ?_⟩
  with_reducible refine x_c ?_
  refine ⟨_, _, rfl, rfl, (show (0 : Int) < (5 : Int) from by decide), ?_⟩
  refine ⟨_, _, rfl, rfl, ?_⟩
  with_reducible refine x_c ?_
  refine ⟨_, _, rfl, rfl, (show Dv ((8 : Int)) from by decide +kernel).w, ?_⟩
  obtain rfl : _ = r := Option.some.inj hm
  exact q _ _ _ G2 (.int _)

abbrev N__law_number : List Str := ["cell", "k", "one"]
theorem sc__law_number : FnScope N__law_number ["cell", "k"] (defScope s__law_number) := ⟨rfl, rfl, rfl, by decide +kernel, rfl, by decide +kernel, by decide +kernel⟩
def sp__law_number : Sp := fun vs H Q _ => ∃ (F : Hp) (v_cell : V) (v_k : V) (cell : Int) (k : Int) (r : Int), vs = [v_cell, v_k] ∧ Sub F H ∧ R F v_cell cell ∧ R F v_k k ∧ _law_number cell k = some r ∧ ∀ N H2 v, Gr NA F H N H2 → R N v r → Q v H2
theorem ok__law_number {P : Program} {w : World} {K : PySem.W.Frag} {mg : Str → Option Value} {base : Heap} (T : Txt K mg) : FnOk P w K mg base CX0 2 T.f__law_number.f T.f__law_number.fd ["cell", "k"] sp__law_number := by
  have nd := (sc__law_number).nd
  refine T.f__law_number.F.ok sc__law_number (fun vs H Q E h => ?_) (fun cdv A0 outer s H vs Q E hr h => ?_)
  · obtain ⟨_, _, _, _, _, _, rfl, _⟩ := h
    rfl
  obtain ⟨F0, v_cell, v_k, cell, k, r, rfl, s0, f_cell, f_k, hm, q⟩ := h
  have G0 : Gr NA F0 H F0 H := Gr.refl s0
  obtain rfl := int_of f_cell
  obtain rfl := int_of f_k
  refine ⟨_, (pss_cons (ps_set (i := 2) nd rfl (by first | exact Or.inl rfl | exact Or.inr rfl) (pe_op op_mulW (pe_call (ok__law_mixed T) (hr.mono (by decide)) (by rfl) T.f__law_mixed.g T.f__law_mixed.F.kp T.f__law_mixed.b .nil pass0 (pa_cons (pv 0) (pa_cons (pv 1) pa_nil))) (pe_op op_add (pe_op op_mul pe_int (pe_op op_pow pe_int pe_int)) pe_int))) (pss_one (ps_ret (pe_op op_mod (pv 2) (pe_ix (r := rIxL K) ix_list (pe_lst (pa_cons pe_int (pa_cons pe_int (pa_cons (pe_op op_pow pe_int pe_int) (pa_cons (pe_op op_pow pe_int pe_int) pa_nil))))) (pe_op op_mod (pe_call (ok__law_mixed T) (hr.mono (by decide)) (by rfl) T.f__law_mixed.g T.f__law_mixed.F.kp T.f__law_mixed.b .nil pass0 (pa_cons (pv 0) (pa_cons (pe_op op_add (pv 1) pe_int) pa_nil))) pe_int) (fun _ _ => rfl)))))), ?_⟩
  refine x_start (σ' := ([some (.int cell), some (.int k), none] : L2.St)) (by with_unfolding_all rfl) ?_
  rw [_law_number] at hm
  with_reducible refine x_seq ?_
  with_reducible refine x_asg ?_
  with_reducible refine x_op ?_
  with_reducible refine x_call ?_
  with_reducible refine x_cons ?_
  refine ⟨_, rfl, ?_⟩
  with_reducible refine x_cons ?_
  refine ⟨_, rfl, ?_⟩
  obtain ⟨r1, hr1, hm⟩ := bindp hm
  refine ⟨_, _, _, cell, k, r1, rfl, G0.sub, (.int _), (.int _), hr1, fun N1 H1 v1 g1 d1  => ?_⟩
  have G1 := G0.step g1
  obtain rfl := int_of d1
  with_reducible refine x_op ?_
  with_reducible refine x_op ?_
  with_reducible refine x_c ?_
  with_reducible refine x_op ?_
  refine ⟨_, _, rfl, rfl, ⟨by decide, by decide, by decide⟩, ?_⟩
  refine ⟨_, _, rfl, rfl, .inl ⟨by decide, by decide⟩, ?_⟩
  with_reducible refine x_c ?_
  refine ⟨_, _, rfl, rfl, ?_⟩
  obtain ⟨c1, hm⟩ := guardp hm
  refine ⟨_, _, rfl, rfl, c1.w, ?_⟩
  with_reducible refine x_gnE (σ' := ([some (.int cell), some (.int k), some (.int (r1 * (((46337 : Int) * ((10 : Int) ^ (9 : Int).toNat)) + (461 : Int))))] : L2.St)) (by with_unfolding_all rfl) ?_
  with_reducible refine x_ret ?_
  with_reducible refine x_op ?_
  refine ⟨_, rfl, ?_⟩
  with_reducible refine x_op ?_
  with_reducible refine x_lst ?_
  with_reducible refine x_cons ?_
  with_reducible refine x_c ?_
  with_reducible refine x_cons ?_
  with_reducible refine x_c ?_
  with_reducible refine x_cons ?_
  with_reducible refine x_op ?_
  refine ⟨_, _, rfl, rfl, ⟨by decide, by decide, by decide⟩, ?_⟩
  with_reducible refine x_cons ?_
  with_reducible refine x_op ?_
  refine ⟨_, _, rfl, rfl, ⟨by decide, by decide, by decide⟩, ?_⟩
  refine ⟨szle (show 4 ≤ 16777216 from by decide), fun p1 np1 => ?_⟩
  have fr1 : Rs (α := Int) (N1) [(.int 30), (.int 1000), (.int ((10 : Int) ^ (12 : Int).toNat)), (.int ((10 : Int) ^ (26 : Int).toNat))] ([(30 : Int), (1000 : Int), ((10 : Int) ^ (12 : Int).toNat), ((10 : Int) ^ (26 : Int).toNat)] : (List Int)) := (Rs_cons (.int _) (Rs_cons (.int _) (Rs_cons (.int _) (Rs_cons (.int _) Rs_nil))))
  have g2 := Gr.newO (o := .lst [(.int 30), (.int 1000), (.int ((10 : Int) ^ (12 : Int).toNat)), (.int ((10 : Int) ^ (26 : Int).toNat))]) G1.sub np1
  have o1 := Ow.new (us := [(.int 30), (.int 1000), (.int ((10 : Int) ^ (12 : Int).toNat)), (.int ((10 : Int) ^ (26 : Int).toNat))]) G1 np1
  have G2 := G1.step g2
  with_reducible refine x_op ?_
  with_reducible refine x_call ?_
  with_reducible refine x_cons ?_
  refine ⟨_, rfl, ?_⟩
  with_reducible refine x_cons ?_
  refine useEv (.int (k + (1 : Int))) (by exact (Evl.ev_op (Evl.ev_var rfl) Evl.ev_c Evl.rv_I0)) (fun H2 e1 => ?_)
  have g3 := gr_ex G2.sub e1
  have G3 := G2.step g3
  have o2 := o1.step g3
  obtain ⟨r2, hr2, hm⟩ := bindp hm
  refine ⟨_, _, _, cell, (k + (1 : Int)), r2, rfl, G3.sub, (.int _), (.int _), hr2, fun N2 H3 v2 g4 d2  => ?_⟩
  have G4 := G3.step g4
  have o3 := o2.step g4
  obtain rfl := int_of d2
  with_reducible refine x_c ?_
  refine ⟨_, _, rfl, rfl, (show (0 : Int) < (4 : Int) from by decide), ?_⟩
  obtain ⟨x1, hx1, hm⟩ := bindp hm
  obtain ⟨v3, hu1, d3⟩ := Rs_at (Rs_mono g4.ex fr1) hx1
  refine ⟨_, _, _, _, rfl, rfl, .inl (.inl o3.at_), hu1, ?_⟩
  obtain rfl := int_of d3
  obtain ⟨c2, hm⟩ := guardp hm
  refine ⟨_, _, rfl, rfl, c2.p, ?_⟩
  obtain rfl : _ = r := Option.some.inj hm
  exact q _ _ _ G4 (.int _)

abbrev N__law_odd : List Str := ["cell", "some"]
theorem sc__law_odd : FnScope N__law_odd ["cell"] (defScope s__law_odd) := ⟨rfl, rfl, rfl, by decide +kernel, rfl, by decide +kernel, by decide +kernel⟩
def sp__law_odd : Sp := fun vs H Q _ => ∃ (F : Hp) (v_cell : V) (cell : Int) (r : Str), vs = [v_cell] ∧ Sub F H ∧ R F v_cell cell ∧ _law_odd cell = some r ∧ ∀ N H2 v, Gr NA F H N H2 → R N v r → Q v H2
theorem ok__law_odd {P : Program} {w : World} {K : PySem.W.Frag} {mg : Str → Option Value} {base : Heap} (T : Txt K mg) : FnOk P w K mg base CX0 1 T.f__law_odd.f T.f__law_odd.fd ["cell"] sp__law_odd := by
  have nd := (sc__law_odd).nd
  refine T.f__law_odd.F.ok sc__law_odd (fun vs H Q E h => ?_) (fun cdv A0 outer s H vs Q E hr h => ?_)
  · obtain ⟨_, _, _, _, rfl, _⟩ := h
    rfl
  obtain ⟨F0, v_cell, cell, r, rfl, s0, f_cell, hm, q⟩ := h
  have G0 : Gr NA F0 H F0 H := Gr.refl s0
  obtain rfl := int_of f_cell
  refine ⟨_, (pss_cons (ps_set (i := 1) nd rfl (by first | exact Or.inl rfl | exact Or.inr rfl) (pe_lst (pa_cons pe_str (pa_cons pe_str (pa_cons pe_str (pa_cons pe_str (pa_cons pe_str (pa_cons pe_str (pa_cons pe_str (pa_cons pe_str (pa_cons pe_str pa_nil))))))))))) (pss_cons (ps_set (i := 1) nd rfl (by first | exact Or.inl rfl | exact Or.inr rfl) (pe_op op_cat (pv 1) (pe_lst (pa_cons pe_str (pa_cons pe_str (pa_cons pe_str (pa_cons pe_str (pa_cons pe_str (pa_cons pe_str (pa_cons pe_str (pa_cons pe_str (pa_cons pe_str pa_nil)))))))))))) (pss_cons (ps_set (i := 1) nd rfl (by first | exact Or.inl rfl | exact Or.inr rfl) (pe_op op_cat (pv 1) (pe_lst (pa_cons pe_str (pa_cons pe_str (pa_cons pe_str (pa_cons pe_str (pa_cons pe_str (pa_cons pe_str (pa_cons pe_str (pa_cons pe_str pa_nil))))))))))) (pss_cons (ps_set (i := 1) nd rfl (by first | exact Or.inl rfl | exact Or.inr rfl) (pe_op op_cat (pv 1) (pe_lst (pa_cons pe_str (pa_cons pe_str (pa_cons pe_str (pa_cons pe_str (pa_cons pe_str (pa_cons pe_str (pa_cons pe_str pa_nil)))))))))) (pss_cons (ps_set (i := 1) nd rfl (by first | exact Or.inl rfl | exact Or.inr rfl) (pe_op op_cat (pv 1) (pe_lst (pa_cons pe_str (pa_cons pe_str (pa_cons pe_str (pa_cons pe_str (pa_cons pe_str (pa_cons pe_str pa_nil))))))))) (pss_cons (ps_set (i := 1) nd rfl (by first | exact Or.inl rfl | exact Or.inr rfl) (pe_op op_cat (pv 1) (pe_lst (pa_cons pe_str (pa_cons pe_str (pa_cons pe_str (pa_cons pe_str (pa_cons pe_str (pa_cons pe_str pa_nil))))))))) (pss_cons (ps_set (i := 1) nd rfl (by first | exact Or.inl rfl | exact Or.inr rfl) (pe_op op_cat (pv 1) (pe_lst (pa_cons pe_str (pa_cons pe_str (pa_cons pe_str (pa_cons pe_str (pa_cons pe_str (pa_cons pe_str (pa_cons pe_str (pa_cons pe_str (pa_cons pe_str (pa_cons pe_str pa_nil))))))))))))) (pss_cons (ps_set (i := 1) nd rfl (by first | exact Or.inl rfl | exact Or.inr rfl) (pe_op op_cat (pv 1) (pe_lst (pa_cons pe_str (pa_cons pe_str (pa_cons pe_str (pa_cons pe_str (pa_cons pe_str (pa_cons pe_str (pa_cons pe_str (pa_cons pe_str (pa_cons pe_str pa_nil)))))))))))) (pss_one (ps_ret (pe_ix (r := rIxL K) ix_list (pv 1) (pe_op op_mod (pv 0) (pe_callB (r := rLenT K) call_lenT (by rfl) T.z_len PySem.boot_len (pa_cons (pv 1) pa_nil))) (fun _ _ => rfl)))))))))))), ?_⟩
  refine x_start (σ' := ([some (.int cell), none] : L2.St)) (by with_unfolding_all rfl) ?_
  rw [_law_odd] at hm
  with_reducible refine x_seq ?_
  with_reducible refine x_asg ?_
  with_reducible refine x_lst ?_
  with_reducible refine x_cons ?_
  with_reducible refine x_c ?_
  with_reducible refine x_cons ?_
  with_reducible refine x_c ?_
  with_reducible refine x_cons ?_
  with_reducible refine x_c ?_
  with_reducible refine x_cons ?_
  with_reducible refine x_c ?_
  with_reducible refine x_cons ?_
  with_reducible refine x_c ?_
  with_reducible refine x_cons ?_
  with_reducible refine x_c ?_
  with_reducible refine x_cons ?_
  with_reducible refine x_c ?_
  with_reducible refine x_cons ?_
  with_reducible refine x_c ?_
  with_reducible refine x_cons ?_
  with_reducible refine x_c ?_
  obtain ⟨x1, hx1, hm⟩ := bindp hm
  replace hx1 := Option.some.inj hx1
  refine ⟨szle (show 9 ≤ 16777216 from by decide), fun p1 np1 => ?_⟩
  have he1 : ([(.str ("" : Str)), (.str (" " : Str)), (.str ("10" : Str)), (.str ("10 " : Str)), (.str (" 10" : Str)), (.str ("10  1" : Str)), (.str ("10 1" : Str)), (.str ("10 1 2" : Str)), (.str ("10 2 1" : Str))] : List V) = x1.map V.str := by rw [← hx1]; rfl
  rw [he1]
  clear he1 hx1
  have g1 := Gr.newO (o := .lst (x1.map V.str)) G0.sub np1
  have o1 := Ow.new (us := (x1.map V.str)) G0 np1
  have G1 := G0.step g1
  obtain ⟨F1, G2, ex1, fa1, nf1⟩ := o1.frzE G1
  have fr1 := Rs_mono ex1 (strs_Rs (F := F0) x1)
  with_reducible refine x_gnE (σ' := ([some (.int cell), some (.ref p1)] : L2.St)) (by with_unfolding_all rfl) ?_
  with_reducible refine x_seq ?_
  with_reducible refine x_asg ?_
  with_reducible refine x_op ?_
  refine ⟨_, rfl, ?_⟩
  with_reducible refine x_lst ?_
  with_reducible refine x_cons ?_
  with_reducible refine x_c ?_
  with_reducible refine x_cons ?_
  with_reducible refine x_c ?_
  with_reducible refine x_cons ?_
  with_reducible refine x_c ?_
  with_reducible refine x_cons ?_
  with_reducible refine x_c ?_
  with_reducible refine x_cons ?_
  with_reducible refine x_c ?_
  with_reducible refine x_cons ?_
  with_reducible refine x_c ?_
  with_reducible refine x_cons ?_
  with_reducible refine x_c ?_
  with_reducible refine x_cons ?_
  with_reducible refine x_c ?_
  with_reducible refine x_cons ?_
  with_reducible refine x_c ?_
  obtain ⟨x2, hx2, hm⟩ := bindp hm
  replace hx2 := Option.some.inj hx2
  refine ⟨szle (show 9 ≤ 16777216 from by decide), fun p2 np2 => ?_⟩
  have he2 : ([(.str ("10 1 1" : Str)), (.str ("1" : Str)), (.str ("17" : Str)), (.str ("16" : Str)), (.str ("02 1" : Str)), (.str ("2 1" : Str)), (.str ("2 2" : Str)), (.str ("2 0 1" : Str)), (.str ("2 1 0" : Str))] : List V) = x2.map V.str := by rw [← hx2]; rfl
  rw [he2]
  clear he2 hx2
  have g2 := Gr.newO (o := .lst (x2.map V.str)) G2.sub np2
  have o2 := Ow.new (us := (x2.map V.str)) G2 np2
  have G3 := G2.step g2
  obtain ⟨c1, hm⟩ := guardp hm
  refine ⟨_, _, _, _, rfl, rfl, (G3.sub _ _ fa1), o2.at_, szle (by rw [Rs_len (Rs_mono (Sub.refl _) fr1), Rs_len (strs_Rs (F := F1) x2)]; exact c1), fun p3 np3 => ?_⟩
  have fr2 : Rs (α := Str) (F1) ((x1.map V.str) ++ (x2.map V.str)) (x1 ++ x2) := Rs_app (Rs_mono (Sub.refl _) fr1) (strs_Rs (F := F1) x2)
  have g3 := Gr.newO (o := .lst ((x1.map V.str) ++ (x2.map V.str))) G3.sub np3
  have o3 := Ow.new (us := ((x1.map V.str) ++ (x2.map V.str))) G3 np3
  have G4 := G3.step g3
  obtain ⟨F2, G5, ex2, fa2, nf2⟩ := o3.frzE G4
  have fr3 := Rs_mono ex2 fr2
  with_reducible refine x_gnE (σ' := ([some (.int cell), some (.ref p3)] : L2.St)) (by with_unfolding_all rfl) ?_
  with_reducible refine x_seq ?_
  with_reducible refine x_asg ?_
  with_reducible refine x_op ?_
  refine ⟨_, rfl, ?_⟩
  with_reducible refine x_lst ?_
  with_reducible refine x_cons ?_
  with_reducible refine x_c ?_
  with_reducible refine x_cons ?_
  with_reducible refine x_c ?_
  with_reducible refine x_cons ?_
  with_reducible refine x_c ?_
  with_reducible refine x_cons ?_
  with_reducible refine x_c ?_
  with_reducible refine x_cons ?_
  with_reducible refine x_c ?_
  with_reducible refine x_cons ?_
  with_reducible refine x_c ?_
  with_reducible refine x_cons ?_
  with_reducible refine x_c ?_
  with_reducible refine x_cons ?_
  with_reducible refine x_c ?_
  obtain ⟨x3, hx3, hm⟩ := bindp hm
  replace hx3 := Option.some.inj hx3
  refine ⟨szle (show 8 ≤ 16777216 from by decide), fun p4 np4 => ?_⟩
  have he3 : ([(.str ("10 1234" : Str)), (.str ("10 12345" : Str)), (.str ("10 a" : Str)), (.str ("16 a" : Str)), (.str ("16 f" : Str)), (.str ("16 g" : Str)), (.str ("16 A" : Str)), (.str ("11 a" : Str))] : List V) = x3.map V.str := by rw [← hx3]; rfl
  rw [he3]
  clear he3 hx3
  have g4 := Gr.newO (o := .lst (x3.map V.str)) G5.sub np4
  have o4 := Ow.new (us := (x3.map V.str)) G5 np4
  have G6 := G5.step g4
  obtain ⟨c2, hm⟩ := guardp hm
  refine ⟨_, _, _, _, rfl, rfl, (G6.sub _ _ fa2), o4.at_, szle (by rw [Rs_len (Rs_mono (Sub.refl _) fr3), Rs_len (strs_Rs (F := F2) x3)]; exact c2), fun p5 np5 => ?_⟩
  have fr4 : Rs (α := Str) (F2) (((x1.map V.str) ++ (x2.map V.str)) ++ (x3.map V.str)) ((x1 ++ x2) ++ x3) := Rs_app (Rs_mono (Sub.refl _) fr3) (strs_Rs (F := F2) x3)
  have g5 := Gr.newO (o := .lst (((x1.map V.str) ++ (x2.map V.str)) ++ (x3.map V.str))) G6.sub np5
  have o5 := Ow.new (us := (((x1.map V.str) ++ (x2.map V.str)) ++ (x3.map V.str))) G6 np5
  have G7 := G6.step g5
  obtain ⟨F3, G8, ex3, fa3, nf3⟩ := o5.frzE G7
  have fr5 := Rs_mono ex3 fr4
  with_reducible refine x_gnE (σ' := ([some (.int cell), some (.ref p5)] : L2.St)) (by with_unfolding_all rfl) ?_
  with_reducible refine x_seq ?_
  with_reducible refine x_asg ?_
  with_reducible refine x_op ?_
  refine ⟨_, rfl, ?_⟩
  with_reducible refine x_lst ?_
  with_reducible refine x_cons ?_
  with_reducible refine x_c ?_
  with_reducible refine x_cons ?_
  with_reducible refine x_c ?_
  with_reducible refine x_cons ?_
  with_reducible refine x_c ?_
  with_reducible refine x_cons ?_
  with_reducible refine x_c ?_
  with_reducible refine x_cons ?_
  with_reducible refine x_c ?_
  with_reducible refine x_cons ?_
  with_reducible refine x_c ?_
  with_reducible refine x_cons ?_
  with_reducible refine x_c ?_
  obtain ⟨x4, hx4, hm⟩ := bindp hm
  replace hx4 := Option.some.inj hx4
  refine ⟨szle (show 7 ≤ 16777216 from by decide), fun p6 np6 => ?_⟩
  have he4 : ([(.str ("11 b" : Str)), (.str ("10 1,2" : Str)), (.str ("10 1\n" : Str)), (.str ("10\t1" : Str)), (.str ("-10" : Str)), (.str ("+10" : Str)), (.str ("1 0" : Str))] : List V) = x4.map V.str := by rw [← hx4]; rfl
  rw [he4]
  clear he4 hx4
  have g6 := Gr.newO (o := .lst (x4.map V.str)) G8.sub np6
  have o6 := Ow.new (us := (x4.map V.str)) G8 np6
  have G9 := G8.step g6
  obtain ⟨c3, hm⟩ := guardp hm
  refine ⟨_, _, _, _, rfl, rfl, (G9.sub _ _ fa3), o6.at_, szle (by rw [Rs_len (Rs_mono (Sub.refl _) fr5), Rs_len (strs_Rs (F := F3) x4)]; exact c3), fun p7 np7 => ?_⟩
  have fr6 : Rs (α := Str) (F3) ((((x1.map V.str) ++ (x2.map V.str)) ++ (x3.map V.str)) ++ (x4.map V.str)) (((x1 ++ x2) ++ x3) ++ x4) := Rs_app (Rs_mono (Sub.refl _) fr5) (strs_Rs (F := F3) x4)
  have g7 := Gr.newO (o := .lst ((((x1.map V.str) ++ (x2.map V.str)) ++ (x3.map V.str)) ++ (x4.map V.str))) G9.sub np7
  have o7 := Ow.new (us := ((((x1.map V.str) ++ (x2.map V.str)) ++ (x3.map V.str)) ++ (x4.map V.str))) G9 np7
  have G10 := G9.step g7
  obtain ⟨F4, G11, ex4, fa4, nf4⟩ := o7.frzE G10
  have fr7 := Rs_mono ex4 fr6
  with_reducible refine x_gnE (σ' := ([some (.int cell), some (.ref p7)] : L2.St)) (by with_unfolding_all rfl) ?_
  with_reducible refine x_seq ?_
  with_reducible refine x_asg ?_
  with_reducible refine x_op ?_
  refine ⟨_, rfl, ?_⟩
  with_reducible refine x_lst ?_
  with_reducible refine x_cons ?_
  with_reducible refine x_c ?_
  with_reducible refine x_cons ?_
  with_reducible refine x_c ?_
  with_reducible refine x_cons ?_
  with_reducible refine x_c ?_
  with_reducible refine x_cons ?_
  with_reducible refine x_c ?_
  with_reducible refine x_cons ?_
  with_reducible refine x_c ?_
  with_reducible refine x_cons ?_
  with_reducible refine x_c ?_
  obtain ⟨x5, hx5, hm⟩ := bindp hm
  replace hx5 := Option.some.inj hx5
  refine ⟨szle (show 6 ≤ 16777216 from by decide), fun p8 np8 => ?_⟩
  have he5 : ([(.str ("10 1 2 3 4" : Str)), (.str ("10 1 2 3 4 5" : Str)), (.str ("10 01" : Str)), (.str ("10 00" : Str)), (.str ("10 0" : Str)), (.str ("10 0 00" : Str))] : List V) = x5.map V.str := by rw [← hx5]; rfl
  rw [he5]
  clear he5 hx5
  have g8 := Gr.newO (o := .lst (x5.map V.str)) G11.sub np8
  have o8 := Ow.new (us := (x5.map V.str)) G11 np8
  have G12 := G11.step g8
  obtain ⟨c4, hm⟩ := guardp hm
  refine ⟨_, _, _, _, rfl, rfl, (G12.sub _ _ fa4), o8.at_, szle (by rw [Rs_len (Rs_mono (Sub.refl _) fr7), Rs_len (strs_Rs (F := F4) x5)]; exact c4), fun p9 np9 => ?_⟩
  have fr8 : Rs (α := Str) (F4) (((((x1.map V.str) ++ (x2.map V.str)) ++ (x3.map V.str)) ++ (x4.map V.str)) ++ (x5.map V.str)) ((((x1 ++ x2) ++ x3) ++ x4) ++ x5) := Rs_app (Rs_mono (Sub.refl _) fr7) (strs_Rs (F := F4) x5)
  have g9 := Gr.newO (o := .lst (((((x1.map V.str) ++ (x2.map V.str)) ++ (x3.map V.str)) ++ (x4.map V.str)) ++ (x5.map V.str))) G12.sub np9
  have o9 := Ow.new (us := (((((x1.map V.str) ++ (x2.map V.str)) ++ (x3.map V.str)) ++ (x4.map V.str)) ++ (x5.map V.str))) G12 np9
  have G13 := G12.step g9
  obtain ⟨F5, G14, ex5, fa5, nf5⟩ := o9.frzE G13
  have fr9 := Rs_mono ex5 fr8
  with_reducible refine x_gnE (σ' := ([some (.int cell), some (.ref p9)] : L2.St)) (by with_unfolding_all rfl) ?_
  with_reducible refine x_seq ?_
  with_reducible refine x_asg ?_
  with_reducible refine x_op ?_
  refine ⟨_, rfl, ?_⟩
  with_reducible refine x_lst ?_
  with_reducible refine x_cons ?_
  with_reducible refine x_c ?_
  with_reducible refine x_cons ?_
  with_reducible refine x_c ?_
  with_reducible refine x_cons ?_
  with_reducible refine x_c ?_
  with_reducible refine x_cons ?_
  with_reducible refine x_c ?_
  with_reducible refine x_cons ?_
  with_reducible refine x_c ?_
  with_reducible refine x_cons ?_
  with_reducible refine x_c ?_
  obtain ⟨x6, hx6, hm⟩ := bindp hm
  replace hx6 := Option.some.inj hx6
  refine ⟨szle (show 6 ≤ 16777216 from by decide), fun p10 np10 => ?_⟩
  have he6 : ([(.str ("10 00 0" : Str)), (.str ("10 1 12" : Str)), (.str ("10 12 1" : Str)), (.str ("10 12 123 2" : Str)), (.str ("x" : Str)), (.str ("10 x" : Str))] : List V) = x6.map V.str := by rw [← hx6]; rfl
  rw [he6]
  clear he6 hx6
  have g10 := Gr.newO (o := .lst (x6.map V.str)) G14.sub np10
  have o10 := Ow.new (us := (x6.map V.str)) G14 np10
  have G15 := G14.step g10
  obtain ⟨c5, hm⟩ := guardp hm
  refine ⟨_, _, _, _, rfl, rfl, (G15.sub _ _ fa5), o10.at_, szle (by rw [Rs_len (Rs_mono (Sub.refl _) fr9), Rs_len (strs_Rs (F := F5) x6)]; exact c5), fun p11 np11 => ?_⟩
  have fr10 : Rs (α := Str) (F5) ((((((x1.map V.str) ++ (x2.map V.str)) ++ (x3.map V.str)) ++ (x4.map V.str)) ++ (x5.map V.str)) ++ (x6.map V.str)) (((((x1 ++ x2) ++ x3) ++ x4) ++ x5) ++ x6) := Rs_app (Rs_mono (Sub.refl _) fr9) (strs_Rs (F := F5) x6)
  have g11 := Gr.newO (o := .lst ((((((x1.map V.str) ++ (x2.map V.str)) ++ (x3.map V.str)) ++ (x4.map V.str)) ++ (x5.map V.str)) ++ (x6.map V.str))) G15.sub np11
  have o11 := Ow.new (us := ((((((x1.map V.str) ++ (x2.map V.str)) ++ (x3.map V.str)) ++ (x4.map V.str)) ++ (x5.map V.str)) ++ (x6.map V.str))) G15 np11
  have G16 := G15.step g11
  obtain ⟨F6, G17, ex6, fa6, nf6⟩ := o11.frzE G16
  have fr11 := Rs_mono ex6 fr10
  with_reducible refine x_gnE (σ' := ([some (.int cell), some (.ref p11)] : L2.St)) (by with_unfolding_all rfl) ?_
  with_reducible refine x_seq ?_
  with_reducible refine x_asg ?_
  with_reducible refine x_op ?_
  refine ⟨_, rfl, ?_⟩
  with_reducible refine x_lst ?_
  with_reducible refine x_cons ?_
  with_reducible refine x_c ?_
  with_reducible refine x_cons ?_
  with_reducible refine x_c ?_
  with_reducible refine x_cons ?_
  with_reducible refine x_c ?_
  with_reducible refine x_cons ?_
  with_reducible refine x_c ?_
  with_reducible refine x_cons ?_
  with_reducible refine x_c ?_
  with_reducible refine x_cons ?_
  with_reducible refine x_c ?_
  with_reducible refine x_cons ?_
  with_reducible refine x_c ?_
  with_reducible refine x_cons ?_
  with_reducible refine x_c ?_
  with_reducible refine x_cons ?_
  with_reducible refine x_c ?_
  with_reducible refine x_cons ?_
  with_reducible refine x_c ?_
  obtain ⟨x7, hx7, hm⟩ := bindp hm
  replace hx7 := Option.some.inj hx7
  refine ⟨szle (show 10 ≤ 16777216 from by decide), fun p12 np12 => ?_⟩
  have he7 : ([(.str ("0" : Str)), (.str ("00" : Str)), (.str ("01" : Str)), (.str ("1" : Str)), (.str ("a" : Str)), (.str ("f" : Str)), (.str ("g" : Str)), (.str ("1a" : Str)), (.str ("a1" : Str)), (.str ("12 34" : Str))] : List V) = x7.map V.str := by rw [← hx7]; rfl
  rw [he7]
  clear he7 hx7
  have g12 := Gr.newO (o := .lst (x7.map V.str)) G17.sub np12
  have o12 := Ow.new (us := (x7.map V.str)) G17 np12
  have G18 := G17.step g12
  obtain ⟨c6, hm⟩ := guardp hm
  refine ⟨_, _, _, _, rfl, rfl, (G18.sub _ _ fa6), o12.at_, szle (by rw [Rs_len (Rs_mono (Sub.refl _) fr11), Rs_len (strs_Rs (F := F6) x7)]; exact c6), fun p13 np13 => ?_⟩
  have fr12 : Rs (α := Str) (F6) (((((((x1.map V.str) ++ (x2.map V.str)) ++ (x3.map V.str)) ++ (x4.map V.str)) ++ (x5.map V.str)) ++ (x6.map V.str)) ++ (x7.map V.str)) ((((((x1 ++ x2) ++ x3) ++ x4) ++ x5) ++ x6) ++ x7) := Rs_app (Rs_mono (Sub.refl _) fr11) (strs_Rs (F := F6) x7)
  have g13 := Gr.newO (o := .lst (((((((x1.map V.str) ++ (x2.map V.str)) ++ (x3.map V.str)) ++ (x4.map V.str)) ++ (x5.map V.str)) ++ (x6.map V.str)) ++ (x7.map V.str))) G18.sub np13
  have o13 := Ow.new (us := (((((((x1.map V.str) ++ (x2.map V.str)) ++ (x3.map V.str)) ++ (x4.map V.str)) ++ (x5.map V.str)) ++ (x6.map V.str)) ++ (x7.map V.str))) G18 np13
  have G19 := G18.step g13
  obtain ⟨F7, G20, ex7, fa7, nf7⟩ := o13.frzE G19
  have fr13 := Rs_mono ex7 fr12
  with_reducible refine x_gnE (σ' := ([some (.int cell), some (.ref p13)] : L2.St)) (by with_unfolding_all rfl) ?_
  with_reducible refine x_seq ?_
  with_reducible refine x_asg ?_
  with_reducible refine x_op ?_
  refine ⟨_, rfl, ?_⟩
  with_reducible refine x_lst ?_
  with_reducible refine x_cons ?_
  with_reducible refine x_c ?_
  with_reducible refine x_cons ?_
  with_reducible refine x_c ?_
  with_reducible refine x_cons ?_
  with_reducible refine x_c ?_
  with_reducible refine x_cons ?_
  with_reducible refine x_c ?_
  with_reducible refine x_cons ?_
  with_reducible refine x_c ?_
  with_reducible refine x_cons ?_
  with_reducible refine x_c ?_
  with_reducible refine x_cons ?_
  with_reducible refine x_c ?_
  with_reducible refine x_cons ?_
  with_reducible refine x_c ?_
  with_reducible refine x_cons ?_
  with_reducible refine x_c ?_
  obtain ⟨x8, hx8, hm⟩ := bindp hm
  replace hx8 := Option.some.inj hx8
  refine ⟨szle (show 9 ≤ 16777216 from by decide), fun p14 np14 => ?_⟩
  have he8 : ([(.str ("-1" : Str)), (.str ("+1" : Str)), (.str ("1.0" : Str)), (.str ("1_0" : Str)), (.str ("ffffffffffffffffffffffff" : Str)), (.str ("1 " : Str)), (.str (" 1" : Str)), (.str ("1\n" : Str)), (.str ("A" : Str))] : List V) = x8.map V.str := by rw [← hx8]; rfl
  rw [he8]
  clear he8 hx8
  have g14 := Gr.newO (o := .lst (x8.map V.str)) G20.sub np14
  have o14 := Ow.new (us := (x8.map V.str)) G20 np14
  have G21 := G20.step g14
  obtain ⟨c7, hm⟩ := guardp hm
  refine ⟨_, _, _, _, rfl, rfl, (G21.sub _ _ fa7), o14.at_, szle (by rw [Rs_len (Rs_mono (Sub.refl _) fr13), Rs_len (strs_Rs (F := F7) x8)]; exact c7), fun p15 np15 => ?_⟩
  have fr14 : Rs (α := Str) (F7) ((((((((x1.map V.str) ++ (x2.map V.str)) ++ (x3.map V.str)) ++ (x4.map V.str)) ++ (x5.map V.str)) ++ (x6.map V.str)) ++ (x7.map V.str)) ++ (x8.map V.str)) (((((((x1 ++ x2) ++ x3) ++ x4) ++ x5) ++ x6) ++ x7) ++ x8) := Rs_app (Rs_mono (Sub.refl _) fr13) (strs_Rs (F := F7) x8)
  have g15 := Gr.newO (o := .lst ((((((((x1.map V.str) ++ (x2.map V.str)) ++ (x3.map V.str)) ++ (x4.map V.str)) ++ (x5.map V.str)) ++ (x6.map V.str)) ++ (x7.map V.str)) ++ (x8.map V.str))) G21.sub np15
  have o15 := Ow.new (us := ((((((((x1.map V.str) ++ (x2.map V.str)) ++ (x3.map V.str)) ++ (x4.map V.str)) ++ (x5.map V.str)) ++ (x6.map V.str)) ++ (x7.map V.str)) ++ (x8.map V.str))) G21 np15
  have G22 := G21.step g15
  obtain ⟨F8, G23, ex8, fa8, nf8⟩ := o15.frzE G22
  have fr15 := Rs_mono ex8 fr14
  with_reducible refine x_gnE (σ' := ([some (.int cell), some (.ref p15)] : L2.St)) (by with_unfolding_all rfl) ?_
  with_reducible refine x_ret ?_
  with_reducible refine x_op ?_
  refine ⟨_, rfl, ?_⟩
  with_reducible refine x_op ?_
  refine ⟨_, rfl, ?_⟩
  refine useEv (.int ((((((((x1 ++ x2) ++ x3) ++ x4) ++ x5) ++ x6) ++ x7) ++ x8).length : Int)) (by exact (ev_lenT (Evl.ev_var rfl) (G23.sub _ _ fa8) (Rs_mono (Sub.refl _) fr15))) (fun H1 e1 => ?_)
  have g16 := gr_ex G23.sub e1
  have G24 := G23.step g16
  obtain ⟨c8, hm⟩ := guardp hm
  refine ⟨_, _, rfl, rfl, c8.p, ?_⟩
  obtain ⟨x9, hx9, hm⟩ := bindp hm
  obtain ⟨v1, hu1, d1⟩ := Rs_at (Rs_mono (Sub.refl _) fr15) hx9
  refine ⟨_, _, _, _, rfl, rfl, .inl (.inl (G24.sub _ _ fa8)), hu1, ?_⟩
  obtain rfl := str_of d1
  obtain rfl : _ = r := Option.some.inj hm
  exact q _ _ _ G24 (.str _)

abbrev N__law_rule : List Str := ["cell", "base", "bad", "k", "wide", "long", "one", "j"]
theorem sc__law_rule : FnScope N__law_rule ["cell"] (defScope s__law_rule) := ⟨rfl, rfl, rfl, by decide +kernel, rfl, by decide +kernel, by decide +kernel⟩
def sp__law_rule : Sp := fun vs H Q _ => ∃ (F : Hp) (v_cell : V) (cell : Int) (r : (Int × (List (List Int)))), vs = [v_cell] ∧ Sub F H ∧ R F v_cell cell ∧ _law_rule cell = some r ∧ ∀ N H2 v, Gr NA F H N H2 → R N v r → Q v H2
theorem ok__law_rule {P : Program} {w : World} {K : PySem.W.Frag} {mg : Str → Option Value} {base : Heap} (T : Txt K mg) : FnOk P w K mg base CX0 2 T.f__law_rule.f T.f__law_rule.fd ["cell"] sp__law_rule := by
  have nd := (sc__law_rule).nd
  refine T.f__law_rule.F.ok sc__law_rule (fun vs H Q E h => ?_) (fun cdv A0 outer s H vs Q E hr h => ?_)
  · obtain ⟨_, _, _, _, rfl, _⟩ := h
    rfl
  obtain ⟨F0, v_cell, cell, r, rfl, s0, f_cell, hm, q⟩ := h
  have G0 : Gr NA F0 H F0 H := Gr.refl s0
  obtain rfl := int_of f_cell
  refine ⟨_, (pss_cons (ps_set (i := 1) nd rfl (by first | exact Or.inl rfl | exact Or.inr rfl) (pe_op op_add pe_int (pe_op op_mod (pv 0) pe_int))) (pss_cons (ps_set (i := 2) nd rfl (by first | exact Or.inl rfl | exact Or.inr rfl) (pe_lst pa_nil)) (pss_cons (ps_for PassesOwn.never rfl (pi_range1 (by rfl) T.z_range (pa_cons (pe_op op_mod (pe_op op_fdivW (pv 0) pe_int) pe_int) pa_nil)) (pg_name (i := 3) nd rfl (by first | exact Or.inl rfl | exact Or.inr rfl)) (pss_cons (ps_set (i := 4) nd rfl (by first | exact Or.inl rfl | exact Or.inr rfl) (pe_ix (r := rIxL K) ix_list (pe_lst (pa_cons (pv 1) (pa_cons (pe_callB (call_min2 rfl) (by rfl) T.z_min (by decide +kernel) (pa_cons (pv 1) (pa_cons pe_int pa_nil))) (pa_cons pe_int pa_nil)))) (pe_op op_mod (pe_call (ok__law_mixed T) (hr.mono (by decide)) (by rfl) T.f__law_mixed.g T.f__law_mixed.F.kp T.f__law_mixed.b .nil pass0 (pa_cons (pv 0) (pa_cons (pv 3) pa_nil))) pe_int) (fun _ _ => rfl))) (pss_cons (ps_set (i := 5) nd rfl (by first | exact Or.inl rfl | exact Or.inr rfl) (pe_op op_add pe_int (pe_op op_mod (pe_call (ok__law_mixed T) (hr.mono (by decide)) (by rfl) T.f__law_mixed.g T.f__law_mixed.F.kp T.f__law_mixed.b .nil pass0 (pa_cons (pv 0) (pa_cons (pe_op op_add pe_int (pv 3)) pa_nil))) pe_int))) (pss_cons (ps_setLc (i := 6) (own := [("j", 7)]) (g := (gName 7)) rfl nd rfl rfl (sw_true rfl rfl rfl (by decide +kernel)) (pi_range1 (by rfl) T.z_range (pa_cons (pv 5) pa_nil)) (blkOk_by (own := [("j", 7)]) (N := N__law_rule) (sc := defScope s__law_rule) (by decide +kernel)) (fun _ _ _ _ _ => pg_name (i := 7) nd rfl (Or.inl rfl)) (fun _ _ _ _ _ => pts_nil) (fun _ _ _ _ _ => (pe_op op_mod (pe_call (ok__law_mixed T) (hr.mono (by decide)) (by rfl) T.f__law_mixed.g T.f__law_mixed.F.kp T.f__law_mixed.b .nil pass0 (pa_cons (pv 0) (pa_cons (pe_op op_add (pe_op op_add pe_int (pe_op op_mul pe_int (pv 3))) (pv 7)) pa_nil))) (pv 4)))) (pss_one (ps_if (pt_cmpR (op_niT (α := (List Int)) (by decide) (hu65 hr)) (pv 6) (pv 2) (by rfl)) (pss_one (ps_expr (pe_bm PySem.F.plainAttrs_list PySem.F.slot_list_append PySem.F.type_list_append mt_append (pv 2) (pa_cons (pv 6) pa_nil)))) pss_nil)))))) (pss_one (ps_ret (pe_tup (pa_cons (pv 1) (pa_cons (pe_callB (r := rSortedT (List Int)) (call_sortedT (by decide) (hu200' hr)) (by rfl) T.z_sorted (by decide +kernel) (pa_cons (pv 2) pa_nil)) pa_nil)))))))), ?_⟩
  refine x_start (σ' := ([some (.int cell), none, none, none, none, none, none, none] : L2.St)) (by with_unfolding_all rfl) ?_
  rw [_law_rule] at hm
  with_reducible refine x_seq ?_
  with_reducible refine x_asg ?_
  with_reducible refine x_op ?_
  with_reducible refine x_c ?_
  with_reducible refine x_op ?_
  refine ⟨_, rfl, ?_⟩
  with_reducible refine x_c ?_
  refine ⟨_, _, rfl, rfl, (show (0 : Int) < (15 : Int) from by decide), ?_⟩
  refine ⟨_, _, rfl, rfl, ?_⟩
  with_reducible refine x_gnE (σ' := ([some (.int cell), some (.int ((2 : Int) + (cell % (15 : Int)))), none, none, none, none, none, none] : L2.St)) (by with_unfolding_all rfl) ?_
  with_reducible refine x_seq ?_
  with_reducible refine x_asg ?_
  with_reducible refine x_lst ?_
  refine ⟨szle (show 0 ≤ 16777216 from by decide), fun p1 np1 => ?_⟩
  have fr1 : Rs (α := (List Int)) (F0) [] ([] : (List (List Int))) := Rs_nil
  have g1 := Gr.newO (o := .lst []) G0.sub np1
  have o1 := Ow.new (us := []) G0 np1
  have G1 := G0.step g1
  with_reducible refine x_gnE (σ' := ([some (.int cell), some (.int ((2 : Int) + (cell % (15 : Int)))), some (.ref p1), none, none, none, none, none] : L2.St)) (by with_unfolding_all rfl) ?_
  with_reducible refine x_seq ?_
  with_reducible refine x_for ?_
  with_reducible refine x_rng1 ?_
  with_reducible refine x_cons ?_
  with_reducible refine x_op ?_
  with_reducible refine x_op ?_
  refine ⟨_, rfl, ?_⟩
  with_reducible refine x_c ?_
  refine ⟨_, _, rfl, rfl, (show Dv ((15 : Int)) from by decide +kernel).w, ?_⟩
  with_reducible refine x_c ?_
  refine ⟨_, _, rfl, rfl, (show (0 : Int) < (5 : Int) from by decide), ?_⟩
  obtain ⟨c1, hm⟩ := guardp hm
  refine ⟨_, rfl, c1.lo, c1.hi, ?_⟩
  refine for_rng (lo := 0) (hi := ((cell / (15 : Int)) % (5 : Int))) (by rw [Int.sub_zero]) (fun (ts1 : List Int) σ H1 => ∃ (F1 : Hp) (x1 : (List (List Int))) (p2 : Addr) (us1 : List V) (y1 : Option V) (y2 : Option V) (y3 : Option V) (y4 : Option V), forK (_law_rule_b1 cell) ts1 x1 (_law_rule_e2 cell) = some r ∧ Sub (F0) F1 ∧ Gr NA F0 H F1 H1 ∧ Ow H F1 H1 p2 us1 ∧ Rs F1 us1 x1 ∧ σ = [some (.int cell), some (.int ((2 : Int) + (cell % (15 : Int)))), some (.ref p2), y1, y4, y2, y3, none]) ⟨F0, ([] : (List (List Int))), _, _, _, _, _, _, hm, (Sub.refl _), G1, o1, fr1, rfl⟩ (fun t1 ts2 σ H1 hW => ?_) (fun σ H1 hW => ?_)
  · skip
    obtain ⟨F1, x1, p2, us1, y1, y2, y3, y4, hm, s1, G2, o2, fr2, rfl⟩ := hW
    obtain ⟨next1, hnx1⟩ : ∃ nx, nx = fun s => forK (_law_rule_b1 cell) ts2 s (_law_rule_e2 cell) := ⟨_, rfl⟩
    have hm : (_law_rule_b1 cell) x1 t1 next1 = some r := by rw [hnx1]; exact forK_c hm
    rw [_law_rule_b1] at hm
    with_reducible refine x_gnE (σ' := ([some (.int cell), some (.int ((2 : Int) + (cell % (15 : Int)))), some (.ref p2), some (.int t1), y4, y2, y3, none] : L2.St)) (by with_unfolding_all rfl) ?_
    with_reducible refine x_seq ?_
    with_reducible refine x_asg ?_
    with_reducible refine x_op ?_
    with_reducible refine x_lst ?_
    with_reducible refine x_cons ?_
    refine ⟨_, rfl, ?_⟩
    with_reducible refine x_cons ?_
    with_reducible refine x_cb ?_
    with_reducible refine x_cons ?_
    refine ⟨_, rfl, ?_⟩
    with_reducible refine x_cons ?_
    with_reducible refine x_c ?_
    refine ⟨_, _, rfl, ?_⟩
    with_reducible refine x_cons ?_
    with_reducible refine x_c ?_
    refine ⟨szle (show 3 ≤ 16777216 from by decide), fun p3 np2 => ?_⟩
    have fr3 : Rs (α := Int) (F1) [(.int ((2 : Int) + (cell % (15 : Int)))), (.int (if (3 : Int) < ((2 : Int) + (cell % (15 : Int))) then (3 : Int) else ((2 : Int) + (cell % (15 : Int))))), (.int 2)] ([((2 : Int) + (cell % (15 : Int))), (if (3 : Int) < ((2 : Int) + (cell % (15 : Int))) then (3 : Int) else ((2 : Int) + (cell % (15 : Int)))), (2 : Int)] : (List Int)) := (Rs_cons (.int _) (Rs_cons (.int _) (Rs_cons (.int _) Rs_nil)))
    have g2 := Gr.newO (o := .lst [(.int ((2 : Int) + (cell % (15 : Int)))), (.int (if (3 : Int) < ((2 : Int) + (cell % (15 : Int))) then (3 : Int) else ((2 : Int) + (cell % (15 : Int))))), (.int 2)]) G2.sub np2
    have o3 := Ow.new (us := [(.int ((2 : Int) + (cell % (15 : Int)))), (.int (if (3 : Int) < ((2 : Int) + (cell % (15 : Int))) then (3 : Int) else ((2 : Int) + (cell % (15 : Int))))), (.int 2)]) G2 np2
    have ne1 := o2.ne_new np2
    have G3 := G2.step g2
    have o4 := o2.step g2
    with_reducible refine x_op ?_
    with_reducible refine x_call ?_
    with_reducible refine x_cons ?_
    refine ⟨_, rfl, ?_⟩
    with_reducible refine x_cons ?_
    refine ⟨_, rfl, ?_⟩
    obtain ⟨r1, hr1, hm⟩ := bindp hm
    refine ⟨_, _, _, cell, t1, r1, rfl, G3.sub, (.int _), (.int _), hr1, fun N1 H2 v2 g3 d1  => ?_⟩
    have G4 := G3.step g3
    have o5 := o4.step g3
    have o6 := o3.step g3
    obtain rfl := int_of d1
    with_reducible refine x_c ?_
    refine ⟨_, _, rfl, rfl, (show (0 : Int) < (3 : Int) from by decide), ?_⟩
    obtain ⟨x2, hx1, hm⟩ := bindp hm
    obtain ⟨v3, hu1, d2⟩ := Rs_at (Rs_mono g3.ex fr3) hx1
    refine ⟨_, _, _, _, rfl, rfl, .inl (.inl o6.at_), hu1, ?_⟩
    obtain rfl := int_of d2
    with_reducible refine x_gnE (σ' := ([some (.int cell), some (.int ((2 : Int) + (cell % (15 : Int)))), some (.ref p2), some (.int t1), some (.int x2), y2, y3, none] : L2.St)) (by with_unfolding_all rfl) ?_
    with_reducible refine x_seq ?_
    with_reducible refine x_asg ?_
    with_reducible refine x_op ?_
    with_reducible refine x_c ?_
    with_reducible refine x_op ?_
    with_reducible refine x_call ?_
    with_reducible refine x_cons ?_
    refine ⟨_, rfl, ?_⟩
    with_reducible refine x_cons ?_
    refine useEv (.int ((10 : Int) + t1)) (by exact (Evl.ev_op Evl.ev_c (Evl.ev_var rfl) Evl.rv_I0)) (fun H3 e1 => ?_)
    have g4 := gr_ex G4.sub e1
    have G5 := G4.step g4
    have o7 := o5.step g4
    obtain ⟨r2, hr2, hm⟩ := bindp hm
    refine ⟨_, _, _, cell, ((10 : Int) + t1), r2, rfl, G5.sub, (.int _), (.int _), hr2, fun N2 H4 v4 g5 d3  => ?_⟩
    have G6 := G5.step g5
    have o8 := o7.step g5
    obtain rfl := int_of d3
    with_reducible refine x_c ?_
    refine ⟨_, _, rfl, rfl, (show (0 : Int) < (4 : Int) from by decide), ?_⟩
    refine ⟨_, _, rfl, rfl, ?_⟩
    with_reducible refine x_gnE (σ' := ([some (.int cell), some (.int ((2 : Int) + (cell % (15 : Int)))), some (.ref p2), some (.int t1), some (.int x2), some (.int ((1 : Int) + (r2 % (4 : Int)))), y3, none] : L2.St)) (by with_unfolding_all rfl) ?_
    with_reducible refine x_seq ?_
    with_reducible refine x_asg ?_
    with_reducible refine x_lc ?_
    with_reducible refine x_rng1 ?_
    with_reducible refine x_cons ?_
    refine ⟨_, rfl, ?_⟩
    obtain ⟨c2, hm⟩ := guardp hm
    refine ⟨_, rfl, c2.lo, c2.hi, fun p4 np3 => ?_⟩
    have g6 := Gr.newO (o := .lst []) G6.sub np3
    have o9 := Ow.new (us := []) G6 np3
    have ne2 := o8.ne_new np3
    have G7 := G6.step g6
    have o10 := o8.step g6
    refine lc_rng (lo := 0) (hi := ((1 : Int) + (r2 % (4 : Int)))) (by rw [Int.sub_zero]) (fun (ts3 : List Int) H5 => ∃ (F2 : Hp) (x4 : List Int) (us3 : List V), forK (_law_rule_c3 cell t1 x2) ts3 x4 (_law_rule_k4 x1 next1) = some r ∧ Sub (N2) F2 ∧ Gr NA F0 H F2 H5 ∧ Ow H F2 H5 p4 us3 ∧ Rs F2 us3 x4 ∧ Ow H F2 H5 p2 us1) ⟨N2, ([] : List Int), _, hm, (Sub.refl _), G7, o9, Rs_nil, o10⟩ (fun t2 ts4 H1 hW => ?_) (fun H1 hW => ?_)
    · skip
      obtain ⟨F2, x4, us3, hm, s2, G8, o11, fr4, o12⟩ := hW
      obtain ⟨next2, hnx2⟩ : ∃ nx, nx = fun s => forK (_law_rule_c3 cell t1 x2) ts4 s (_law_rule_k4 x1 next1) := ⟨_, rfl⟩
      have hm : (_law_rule_c3 cell t1 x2) x4 t2 next2 = some r := by rw [hnx2]; exact forK_c hm
      rw [_law_rule_c3] at hm
      with_reducible refine x_gnE (σ' := ([some (.int cell), some (.int ((2 : Int) + (cell % (15 : Int)))), some (.ref p2), some (.int t1), some (.int x2), some (.int ((1 : Int) + (r2 % (4 : Int)))), y3, some (.int t2)] : L2.St)) (by with_unfolding_all rfl) ?_
      refine ⟨rfl, ?_⟩
      with_reducible refine x_yes ?_
      refine iteT ?_
      with_reducible refine x_op ?_
      with_reducible refine x_call ?_
      with_reducible refine x_cons ?_
      refine ⟨_, rfl, ?_⟩
      with_reducible refine x_cons ?_
      with_reducible refine x_op ?_
      with_reducible refine x_op ?_
      with_reducible refine x_c ?_
      with_reducible refine x_op ?_
      with_reducible refine x_c ?_
      refine ⟨_, rfl, ?_⟩
      refine ⟨_, _, rfl, rfl, .inl ⟨by decide, by decide⟩, ?_⟩
      refine ⟨_, _, rfl, rfl, ?_⟩
      refine ⟨_, rfl, ?_⟩
      refine ⟨_, _, rfl, rfl, ?_⟩
      obtain ⟨r3, hr3, hm⟩ := bindp hm
      refine ⟨_, _, _, cell, (((20 : Int) + ((4 : Int) * t1)) + t2), r3, rfl, G8.sub, (.int _), (.int _), hr3, fun N3 H6 v6 g7 d4  => ?_⟩
      have G9 := G8.step g7
      have o13 := o11.step g7
      have o14 := o12.step g7
      obtain rfl := int_of d4
      refine ⟨_, rfl, ?_⟩
      obtain ⟨c3, hm⟩ := guardp hm
      refine ⟨_, _, rfl, rfl, c3.p, ?_⟩
      obtain ⟨c4, hm⟩ := guardp hm
      have G10 := o13.mutG (o := .lst (us3 ++ [(.int (r3 % x2))])) G9
      have o15 := o13.mut (ws := us3 ++ [(.int (r3 % x2))])
      have fr5 : Rs (α := Int) (N3) (us3 ++ [(.int (r3 % x2))]) (x4 ++ [(r3 % x2)]) := Rs_snoc (Rs_mono g7.ex fr4) (.int _)
      have o16 := o14.other (ws := us3 ++ [(.int (r3 % x2))]) (Ne.symm ne2)
      rw [hnx2] at hm
      exact ⟨_, o13.at_, szl (by rw [Rs_len (Rs_mono g7.ex fr4)]; exact c4), ⟨N3, (x4 ++ [(r3 % x2)]), _, hm, (s2.trans g7.ex), G10, o15, fr5, o16⟩⟩
    · skip
      obtain ⟨F2, x4, us3, hm, s3, G11, o17, fr6, o18⟩ := hW
      have hm : (_law_rule_k4 x1 next1) x4 = some r := forK_n hm
      rw [_law_rule_k4] at hm
      obtain ⟨F3, G12, ex1, fa1, nf1⟩ := o17.frzE G11
      have o19 := o18.frzN (Ne.symm (Ne.symm ne2)) nf1
      have fr7 := Rs_mono ex1 fr6
      with_reducible refine x_gnE (σ' := ([some (.int cell), some (.int ((2 : Int) + (cell % (15 : Int)))), some (.ref p2), some (.int t1), some (.int x2), some (.int ((1 : Int) + (r2 % (4 : Int)))), some (.ref p4), none] : L2.St)) (by with_unfolding_all rfl) ?_
      with_reducible refine x_if ?_
      with_reducible refine x_test ?_
      with_reducible refine x_op ?_
      refine ⟨_, rfl, ?_⟩
      refine ⟨_, rfl, ?_⟩
      refine ⟨_, x4, x1, Sub.refl _, (RD.mono G12.sub (mk_lst ((Sub.refl _) _ _ fa1) (Rs_mono (Sub.refl _) fr7))), (mk_lst o19.at_ (Rs_mono G12.sub (Rs_mono ex1 (Rs_mono s3 (Rs_mono g5.ex (Rs_mono g3.ex fr2)))))), ?_⟩
      refine ⟨_, rfl, ?_⟩
      refine ifD (fun hc => ?_) (fun hc => ?_)
      · replace hm := itep hm hc
        with_reducible refine x_drop ?_
        with_reducible refine x_bm ?_
        refine ⟨_, rfl, ?_⟩
        refine ⟨.inl ⟨rfl, _, .inl (.inl o19.at_)⟩, ?_⟩
        with_reducible refine x_cons ?_
        refine ⟨_, rfl, ?_⟩
        obtain ⟨c5, hm⟩ := guardp hm
        refine ⟨_, _, _, rfl, rfl, o19.at_, szl (by rw [Rs_len (Rs_mono ex1 (Rs_mono s3 (Rs_mono g5.ex (Rs_mono g3.ex fr2))))]; exact c5), ?_⟩
        have G13 := o19.mutG (o := .lst (us1 ++ [(.ref p4)])) G12
        have o20 := o19.mut (ws := us1 ++ [(.ref p4)])
        have fr8 : Rs (α := (List Int)) (F3) (us1 ++ [(.ref p4)]) (x1 ++ [x4]) := Rs_snoc (Rs_mono ex1 (Rs_mono s3 (Rs_mono g5.ex (Rs_mono g3.ex fr2)))) (mk_lst ((Sub.refl _) _ _ fa1) (Rs_mono (Sub.refl _) fr7))
        rw [hnx1] at hm
        exact ⟨F3, (x1 ++ [x4]), _, _, _, _, _, _, hm, ((((s1.trans g3.ex).trans g5.ex).trans s3).trans ex1), G13, o20, fr8, rfl⟩
      · replace hm := iten hm (bF hc)
        with_reducible refine x_next ?_
        rw [hnx1] at hm
        exact ⟨F3, x1, _, _, _, _, _, _, hm, ((((s1.trans g3.ex).trans g5.ex).trans s3).trans ex1), G12, o19, (Rs_mono ex1 (Rs_mono s3 (Rs_mono g5.ex (Rs_mono g3.ex fr2)))), rfl⟩
  · skip
    obtain ⟨F1, x1, p2, us1, y1, y2, y3, y4, hm, s4, G14, o21, fr9, rfl⟩ := hW
    have hm : (_law_rule_e2 cell) x1 = some r := forK_n hm
    rw [_law_rule_e2] at hm
    with_reducible refine x_ret ?_
    with_reducible refine x_tup ?_
    with_reducible refine x_cons ?_
    refine ⟨_, rfl, ?_⟩
    with_reducible refine x_cons ?_
    with_reducible refine x_cb ?_
    with_reducible refine x_cons ?_
    refine ⟨_, rfl, ?_⟩
    obtain ⟨c6, hm⟩ := guardp hm
    refine ⟨_, _, _, x1, rfl, o21.at_, G14.sub, fr9, c6, fun p5 us4 np4 fr10 => ?_⟩
    have g8 := Gr.newO (o := .lst us4) G14.sub np4
    have o22 := Ow.new (us := us4) G14 np4
    have ne3 := o21.ne_new np4
    have G15 := G14.step g8
    have o23 := o21.step g8
    obtain ⟨F4, G16, ex2, fa2, nf2⟩ := o22.frzE G15
    have o24 := o23.frzN (Ne.symm (Ne.symm ne3)) nf2
    have fr11 := Rs_mono ex2 fr10
    refine ⟨szle (show 2 ≤ 16777216 from by decide), fun p6 np5 => ?_⟩
    obtain ⟨F5, g9, fa3⟩ := Gr.newE (o := .tup [(.int ((2 : Int) + (cell % (15 : Int)))), (.ref p5)]) G16.sub np5
    have G17 := G16.step g9
    have o25 := o24.step g9
    obtain rfl : _ = r := Option.some.inj hm
    exact q _ _ _ G17 (mk_tup2 ((Sub.refl _) _ _ fa3) (.int _) (mk_lst (g9.ex _ _ fa2) (Rs_mono g9.ex fr11)))

abbrev N__law_text : List Str := ["figures", "one"]
theorem sc__law_text : FnScope N__law_text ["figures"] (defScope s__law_text) := ⟨rfl, rfl, rfl, by decide +kernel, rfl, by decide +kernel, by decide +kernel⟩
def sp__law_text : Sp := fun vs H Q _ => ∃ (F : Hp) (v_figures : V) (figures : (List Int)) (r : Str), vs = [v_figures] ∧ Sub F H ∧ R F v_figures figures ∧ _law_text figures = some r ∧ ∀ N H2 v, Gr NA F H N H2 → R N v r → Q v H2
theorem ok__law_text {P : Program} {w : World} {K : PySem.W.Frag} {mg : Str → Option Value} {base : Heap} (T : Txt K mg) : FnOk P w K mg base CX0 1 T.f__law_text.f T.f__law_text.fd ["figures"] sp__law_text := by
  have nd := (sc__law_text).nd
  refine T.f__law_text.F.ok sc__law_text (fun vs H Q E h => ?_) (fun cdv A0 outer s H vs Q E hr h => ?_)
  · obtain ⟨_, _, _, _, rfl, _⟩ := h
    rfl
  obtain ⟨F0, v_figures, figures, r, rfl, s0, f_figures, hm, q⟩ := h
  have G0 : Gr NA F0 H F0 H := Gr.refl s0
  obtain ⟨a1, us1, rfl, fa1, fr1⟩ := lst_of f_figures
  refine ⟨_, (pss_one (ps_ret (pe_join pe_str (pe_lc (own := [("one", 1)]) (g := (gName 1)) rfl nd (pi_list (pv 0)) (blkOk_by (own := [("one", 1)]) (N := N__law_text) (sc := defScope s__law_text) (by decide +kernel)) (fun _ _ _ _ _ => pg_name (i := 1) nd rfl (Or.inl rfl)) (fun _ _ _ _ _ => pts_nil) (fun _ _ _ _ _ => (pe_ix (r := rIxS) ix_str pe_str (pv 1) (fun _ _ => rfl))))))), ?_⟩
  refine x_start (σ' := ([some (.ref a1), none] : L2.St)) (by with_unfolding_all rfl) ?_
  rw [_law_text] at hm
  with_reducible refine x_ret ?_
  with_reducible refine x_m1 ?_
  with_reducible refine x_c ?_
  refine ⟨⟨_, rfl⟩, ?_⟩
  with_reducible refine x_lc ?_
  with_reducible refine x_iter ?_
  refine ⟨_, rfl, ?_⟩
  refine ⟨_, rfl, ⟨_, .inl (.inl (G0.sub _ _ fa1))⟩, fun p1 np1 => ?_⟩
  have g1 := Gr.newO (o := .lst []) G0.sub np1
  have o1 := Ow.new (us := []) G0 np1
  have G1 := G0.step g1
  refine lc_lst (α := Int) (fun (ts1 : List Int) H1 => ∃ (F1 : Hp) (x2 : List Str) (us3 : List V), forK (_law_text_c1) ts1 x2 (_law_text_k2) = some r ∧ Sub (F0) F1 ∧ Gr NA F0 H F1 H1 ∧ Ow H F1 H1 p1 us3 ∧ Rs F1 us3 x2) (Rs_mono (Sub.refl _) fr1) ⟨F0, ([] : List Str), _, hm, (Sub.refl _), G1, o1, Rs_nil⟩ (fun _ _ h => ?_) (fun t1 ts2 v1 H1 hv1 hW => ?_) (fun H1 hW => ?_)
  · obtain ⟨F9z, _, _, _, s9z, G9z, _⟩ := h
    exact G9z.sub _ _ (s9z _ _ ((Sub.refl _) _ _ fa1))
  · skip
    obtain ⟨F1, x2, us3, hm, s1, G2, o2, fr2⟩ := hW
    obtain ⟨next1, hnx1⟩ : ∃ nx, nx = fun s => forK (_law_text_c1) ts2 s (_law_text_k2) := ⟨_, rfl⟩
    have hm : (_law_text_c1) x2 t1 next1 = some r := by rw [hnx1]; exact forK_c hm
    rw [_law_text_c1] at hm
    obtain rfl := int_of hv1
    with_reducible refine x_gnE (σ' := ([some (.ref a1), some (.int t1)] : L2.St)) (by with_unfolding_all rfl) ?_
    refine ⟨rfl, ?_⟩
    with_reducible refine x_yes ?_
    refine iteT ?_
    with_reducible refine x_op ?_
    with_reducible refine x_c ?_
    refine ⟨_, rfl, ?_⟩
    obtain ⟨c1, hm⟩ := guardp hm
    obtain ⟨x3, hx1, hm⟩ := bindp hm
    refine ixS_of c1 hx1 ?_
    obtain ⟨c2, hm⟩ := guardp hm
    have G3 := o2.mutG (o := .lst (us3 ++ [(.str (⟨#[x3]⟩ : Str))])) G2
    have o3 := o2.mut (ws := us3 ++ [(.str (⟨#[x3]⟩ : Str))])
    have fr3 : Rs (α := Str) (F1) (us3 ++ [(.str (⟨#[x3]⟩ : Str))]) (x2 ++ [(⟨#[x3]⟩ : Str)]) := Rs_snoc fr2 (.str _)
    rw [hnx1] at hm
    exact ⟨_, o2.at_, szl (by rw [Rs_len fr2]; exact c2), ⟨F1, (x2 ++ [(⟨#[x3]⟩ : Str)]), _, hm, s1, G3, o3, fr3⟩⟩
  · skip
    obtain ⟨F1, x2, us3, hm, s2, G4, o4, fr4⟩ := hW
    have hm : (_law_text_k2) x2 = some r := forK_n hm
    rw [_law_text_k2] at hm
    obtain ⟨c3, hm⟩ := guardp hm
    refine ⟨_, _, _, rfl, rfl, .inl (.inl (.inl (join_at o4.at_ fr4))), c3, ?_⟩
    obtain rfl : _ = r := Option.some.inj hm
    exact q _ _ _ G4 (.str _)

abbrev N__law_given : List Str := ["cell", "kind", "rule", "text", "long", "signs", "at", "sign", "one", "j"]
theorem sc__law_given : FnScope N__law_given ["cell"] (defScope s__law_given) := ⟨rfl, rfl, rfl, by decide +kernel, rfl, by decide +kernel, by decide +kernel⟩
def sp__law_given : Sp := fun vs H Q _ => ∃ (F : Hp) (v_cell : V) (cell : Int) (r : Str), vs = [v_cell] ∧ Sub F H ∧ R F v_cell cell ∧ _law_given cell = some r ∧ ∀ N H2 v, Gr NA F H N H2 → R N v r → Q v H2
theorem ok__law_given {P : Program} {w : World} {K : PySem.W.Frag} {mg : Str → Option Value} {base : Heap} (T : Txt K mg) : FnOk P w K mg base CX0 3 T.f__law_given.f T.f__law_given.fd ["cell"] sp__law_given := by
  have nd := (sc__law_given).nd
  refine T.f__law_given.F.ok sc__law_given (fun vs H Q E h => ?_) (fun cdv A0 outer s H vs Q E hr h => ?_)
  · obtain ⟨_, _, _, _, rfl, _⟩ := h
    rfl
  obtain ⟨F0, v_cell, cell, r, rfl, s0, f_cell, hm, q⟩ := h
  have G0 : Gr NA F0 H F0 H := Gr.refl s0
  obtain rfl := int_of f_cell
  refine ⟨_, (pss_cons (ps_set (i := 1) nd rfl (by first | exact Or.inl rfl | exact Or.inr rfl) (pe_op op_mod (pv 0) pe_int)) (pss_cons (ps_if (pt_cmp (pc_eqI (pv 1) pe_int)) (pss_one (ps_ret (pe_call (ok__law_odd T) (hr.mono (by decide)) (by rfl) T.f__law_odd.g T.f__law_odd.F.kp T.f__law_odd.b .nil pass0 (pa_cons (pe_op op_fdivW (pv 0) pe_int) pa_nil)))) pss_nil) (pss_cons (ps_set (i := 2) nd rfl (by first | exact Or.inl rfl | exact Or.inr rfl) (pe_call (ok__law_rule T) (hr.mono (by decide)) (by rfl) T.f__law_rule.g T.f__law_rule.F.kp T.f__law_rule.b .nil pass0 (pa_cons (pe_call (ok__law_mixed T) (hr.mono (by decide)) (by rfl) T.f__law_mixed.g T.f__law_mixed.F.kp T.f__law_mixed.b .nil pass0 (pa_cons (pv 0) (pa_cons pe_int pa_nil))) pa_nil))) (pss_cons (ps_set (i := 3) nd rfl (by first | exact Or.inl rfl | exact Or.inr rfl) (pe_join pe_str (pe_op op_cat (pe_lst (pa_cons (pe_callTy call_str_int (by rfl) T.z_str (by decide +kernel) (pa_cons (pe_ix (r := rIxT K) ix_tup (pv 2) pe_int (fun _ _ => rfl)) pa_nil)) pa_nil)) (pe_lc (own := [("one", 8)]) (g := (gName 8)) rfl nd (pi_list (pe_ix (r := rIxT K) ix_tup (pv 2) pe_int (fun _ _ => rfl))) (blkOk_by (own := [("one", 8)]) (N := N__law_given) (sc := defScope s__law_given) (by decide +kernel)) (fun _ _ _ _ _ => pg_name (i := 8) nd rfl (Or.inl rfl)) (fun _ _ _ _ _ => pts_nil) (fun _ _ _ _ _ => (pe_call (ok__law_text T) (hr.mono (by decide)) (by rfl) T.f__law_text.g T.f__law_text.F.kp T.f__law_text.b .nil pass0 (pa_cons (pv 8) pa_nil))))))) (Evl.pss_cut (ps_if (pt_cmp (pc_eqI (pe_op op_mod (pe_op op_fdivW (pv 0) pe_int) pe_int) pe_int)) (pss_cons (ps_set (i := 3) nd rfl (by first | exact Or.inl rfl | exact Or.inr rfl) (pe_call (ok__law_text T) (hr.mono (by decide)) (by rfl) T.f__law_text.g T.f__law_text.F.kp T.f__law_text.b .nil pass0 (pa_cons (pe_call (ok__law_figures T) (hr.mono (by decide)) (by rfl) T.f__law_figures.g T.f__law_figures.F.kp T.f__law_figures.b .nil pass0 (pa_cons (pe_ix (r := rIxT K) ix_tup (pv 2) pe_int (fun _ _ => rfl)) (pa_cons (pe_call (ok__law_number T) (hr.mono (by decide)) (by rfl) T.f__law_number.g T.f__law_number.F.kp T.f__law_number.b .nil pass0 (pa_cons (pv 0) (pa_cons pe_int pa_nil))) pa_nil))) pa_nil))) (pss_one (ps_if (pt_cmp (pc_eqI (pe_op op_mod (pe_op op_fdivW (pv 0) pe_int) pe_int) pe_int)) (pss_cons (ps_set (i := 4) nd rfl (by first | exact Or.inl rfl | exact Or.inr rfl) (pe_op op_add pe_int (pe_op op_mod (pe_call (ok__law_mixed T) (hr.mono (by decide)) (by rfl) T.f__law_mixed.g T.f__law_mixed.F.kp T.f__law_mixed.b .nil pass0 (pa_cons (pv 0) (pa_cons pe_int pa_nil))) pe_int))) (pss_one (ps_set (i := 3) nd rfl (by first | exact Or.inl rfl | exact Or.inr rfl) (pe_op op_add_str pe_str (pe_call (ok__law_text T) (hr.mono (by decide)) (by rfl) T.f__law_text.g T.f__law_text.F.kp T.f__law_text.b .nil pass0 (pa_cons (pe_lc (own := [("j", 9)]) (g := (gName 9)) rfl nd (pi_range1 (by rfl) T.z_range (pa_cons (pv 4) pa_nil)) (blkOk_by (own := [("j", 9)]) (N := N__law_given) (sc := defScope s__law_given) (by decide +kernel)) (fun _ _ _ _ _ => pg_name (i := 9) nd rfl (Or.inl rfl)) (fun _ _ _ _ _ => pts_nil) (fun _ _ _ _ _ => (pe_op op_mod (pe_call (ok__law_mixed T) (hr.mono (by decide)) (by rfl) T.f__law_mixed.g T.f__law_mixed.F.kp T.f__law_mixed.b .nil pass0 (pa_cons (pv 0) (pa_cons (pe_op op_add pe_int (pv 9)) pa_nil))) (pe_ix (r := rIxT K) ix_tup (pv 2) pe_int (fun _ _ => rfl))))) pa_nil)))))) pss_nil))) pss_nil) (pss_cons (ps_set (i := 5) nd rfl (by first | exact Or.inl rfl | exact Or.inr rfl) pe_str) (Evl.pss_cut (ps_if (pt_cmp (pc_gt (pe_op op_mod (pe_op op_fdivW (pv 0) pe_int) pe_int) pe_int)) (pss_one (ps_set (i := 5) nd rfl (by first | exact Or.inl rfl | exact Or.inr rfl) pe_str)) pss_nil) (pss_cons (ps_set (i := 6) nd rfl (by first | exact Or.inl rfl | exact Or.inr rfl) (pe_op op_mod (pe_op op_fdivW (pv 0) pe_int) (pe_op op_add (pe_callB call_len_str (by rfl) T.z_len PySem.boot_len (pa_cons (pv 3) pa_nil)) pe_int))) (pss_cons (ps_set (i := 7) nd rfl (by first | exact Or.inl rfl | exact Or.inr rfl) (pe_ix (r := rIxS) ix_str (pv 5) (pe_op op_mod (pe_op op_fdivW (pv 0) pe_int) (pe_callB call_len_str (by rfl) T.z_len PySem.boot_len (pa_cons (pv 5) pa_nil))) (fun _ _ => rfl))) (pss_cons (ps_if (pt_cmp (pc_eqI (pv 1) pe_int)) (pss_one (ps_ret (pe_op op_add_str (pe_slice (r := rSlS) sl_str (pv 3) po_none (po_some (pv 6))) (pe_slice (r := rSlS) sl_str (pv 3) (po_some (pe_op op_add (pv 6) pe_int)) po_none)))) pss_nil) (pss_one (ps_ret (pe_op op_add_str (pe_op op_add_str (pe_slice (r := rSlS) sl_str (pv 3) po_none (po_some (pv 6))) (pv 7)) (pe_slice (r := rSlS) sl_str (pv 3) (po_some (pe_op op_add (pv 6) (pe_callTy call_int1 (by rfl) T.z_int (by decide +kernel) (pa_cons (pe_cmp (pc_eqI (pv 1) pe_int)) pa_nil)))) po_none)))))))))))))), ?_⟩
  refine x_start (σ' := ([some (.int cell), none, none, none, none, none, none, none, none, none] : L2.St)) (by with_unfolding_all rfl) ?_
  rw [_law_given] at hm
  with_reducible refine x_seq ?_
  with_reducible refine x_asg ?_
  with_reducible refine x_op ?_
  refine ⟨_, rfl, ?_⟩
  with_reducible refine x_c ?_
  refine ⟨_, _, rfl, rfl, (show (0 : Int) < (4 : Int) from by decide), ?_⟩
  with_reducible refine x_gnE (σ' := ([some (.int cell), some (.int (cell % (4 : Int))), none, none, none, none, none, none, none, none] : L2.St)) (by with_unfolding_all rfl) ?_
  with_reducible refine x_seq ?_
  with_reducible refine x_if ?_
  with_reducible refine x_B ?_
  refine useEv (.bl (decide ((cell % (4 : Int)) = (0 : Int)))) (by exact (ev_cmp (Evl.ev_var rfl) Evl.ev_c)) (fun H1 e1 => ?_)
  have g1 := gr_ex G0.sub e1
  have G1 := G0.step g1
  refine ⟨_, rfl, ?_⟩
  refine ifD (fun hc => ?_) (fun hc => ?_)
  · replace hm := itep hm hc
    with_reducible refine x_ret ?_
    with_reducible refine x_call ?_
    with_reducible refine x_cons ?_
    with_reducible refine x_op ?_
    refine ⟨_, rfl, ?_⟩
    with_reducible refine x_c ?_
    refine ⟨_, _, rfl, rfl, (show Dv ((4 : Int)) from by decide +kernel).w, ?_⟩
    obtain ⟨r1, hr1, hm⟩ := bindp hm
    refine ⟨_, _, (cell / (4 : Int)), r1, rfl, G1.sub, (.int _), hr1, fun N1 H2 v1 g2 d1  => ?_⟩
    have G2 := G1.step g2
    obtain rfl := str_of d1
    obtain rfl : _ = r := Option.some.inj hm
    exact q _ _ _ G2 (.str _)
  · replace hm := iten hm (bF hc)
    with_reducible refine x_next ?_
    with_reducible refine x_seq ?_
    with_reducible refine x_asg ?_
    with_reducible refine x_call ?_
    with_reducible refine x_cons ?_
    with_reducible refine x_call ?_
    with_reducible refine x_cons ?_
    refine ⟨_, rfl, ?_⟩
    with_reducible refine x_cons ?_
    with_reducible refine x_c ?_
    obtain ⟨r2, hr2, hm⟩ := bindp hm
    refine ⟨_, _, _, cell, (3 : Int), r2, rfl, G1.sub, (.int _), (.int _), hr2, fun N2 H3 v2 g3 d2  => ?_⟩
    have G3 := G1.step g3
    obtain rfl := int_of d2
    obtain ⟨r3, hr3, hm⟩ := bindp hm
    refine ⟨_, _, r2, r3, rfl, G3.sub, (.int _), hr3, fun N3 H4 v3 g4 d3  => ?_⟩
    have G4 := G3.step g4
    obtain ⟨a1, v4, v5, rfl, fa1, d4, d5⟩ := tup2_of d3
    obtain rfl := int_of d4
    obtain ⟨a2, us1, rfl, fa2, fr1⟩ := lst_of d5
    with_reducible refine x_gnE (σ' := ([some (.int cell), some (.int (cell % (4 : Int))), some (.ref a1), none, none, none, none, none, none, none] : L2.St)) (by with_unfolding_all rfl) ?_
    with_reducible refine x_seq ?_
    with_reducible refine x_asg ?_
    with_reducible refine x_m1 ?_
    with_reducible refine x_c ?_
    refine ⟨⟨_, rfl⟩, ?_⟩
    with_reducible refine x_op ?_
    with_reducible refine x_lst ?_
    with_reducible refine x_cons ?_
    with_reducible refine x_cb ?_
    with_reducible refine x_cons ?_
    with_reducible refine x_op ?_
    refine ⟨_, rfl, ?_⟩
    refine ⟨_, _, _, _, rfl, rfl, .inl (.inl (G4.sub _ _ fa1)), atI_nat (j := 0) rfl, ?_⟩
    obtain ⟨c1, hm⟩ := guardp hm
    refine ⟨_, rfl, c1, ?_⟩
    refine ⟨szle (show 1 ≤ 16777216 from by decide), fun p1 np1 => ?_⟩
    have fr2 : Rs (α := Str) (N3) [(.str (Str.ofString (toString (r3).1)))] ([(Str.ofString (toString (r3).1))] : (List Str)) := (Rs_cons (.str _) Rs_nil)
    have g5 := Gr.newO (o := .lst [(.str (Str.ofString (toString (r3).1)))]) G4.sub np1
    have o1 := Ow.new (us := [(.str (Str.ofString (toString (r3).1)))]) G4 np1
    have G5 := G4.step g5
    with_reducible refine x_lc ?_
    with_reducible refine x_iter ?_
    with_reducible refine x_op ?_
    refine ⟨_, rfl, ?_⟩
    refine ⟨_, _, _, _, rfl, rfl, .inl (.inl (G5.sub _ _ fa1)), atI_nat (j := 1) rfl, ?_⟩
    refine ⟨_, rfl, ⟨_, .inl (.inl (G5.sub _ _ fa2))⟩, fun p2 np2 => ?_⟩
    have g6 := Gr.newO (o := .lst []) G5.sub np2
    have o2 := Ow.new (us := []) G5 np2
    have ne1 := o1.ne_new np2
    have G6 := G5.step g6
    have o3 := o1.step g6
    refine lc_lst (α := (List Int)) (fun (ts1 : List (List Int)) H5 => ∃ (F1 : Hp) (x2 : List Str) (us3 : List V), forK (_law_given_c1) ts1 x2 (_law_given_k2 r3 cell) = some r ∧ Sub (N3) F1 ∧ Gr NA F0 H F1 H5 ∧ Ow H F1 H5 p2 us3 ∧ Rs F1 us3 x2 ∧ Ow H F1 H5 p1 [(.str (Str.ofString (toString (r3).1)))]) (Rs_mono (Sub.refl _) fr1) ⟨N3, ([] : List Str), _, hm, (Sub.refl _), G6, o2, Rs_nil, o3⟩ (fun _ _ h => ?_) (fun t1 ts2 v6 H1 hv1 hW => ?_) (fun H1 hW => ?_)
    · obtain ⟨F9z, _, _, _, s9z, G9z, _⟩ := h
      exact G9z.sub _ _ (s9z _ _ ((Sub.refl _) _ _ fa2))
    · skip
      obtain ⟨F1, x2, us3, hm, s1, G7, o4, fr3, o5⟩ := hW
      obtain ⟨next1, hnx1⟩ : ∃ nx, nx = fun s => forK (_law_given_c1) ts2 s (_law_given_k2 r3 cell) := ⟨_, rfl⟩
      have hm : (_law_given_c1) x2 t1 next1 = some r := by rw [hnx1]; exact forK_c hm
      rw [_law_given_c1] at hm
      obtain ⟨a3, us4, rfl, fa3, fr4⟩ := lst_of hv1
      with_reducible refine x_gnE (σ' := ([some (.int cell), some (.int (cell % (4 : Int))), some (.ref a1), none, none, none, none, none, some (.ref a3), none] : L2.St)) (by with_unfolding_all rfl) ?_
      refine ⟨rfl, ?_⟩
      with_reducible refine x_yes ?_
      refine iteT ?_
      with_reducible refine x_call ?_
      with_reducible refine x_cons ?_
      refine ⟨_, rfl, ?_⟩
      obtain ⟨r4, hr4, hm⟩ := bindp hm
      refine ⟨_, _, t1, r4, rfl, G7.sub, (mk_lst (s1 _ _ fa3) (Rs_mono s1 fr4)), hr4, fun N4 H6 v7 g7 d6  => ?_⟩
      have G8 := G7.step g7
      have o6 := o4.step g7
      have o7 := o5.step g7
      obtain rfl := str_of d6
      obtain ⟨c2, hm⟩ := guardp hm
      have G9 := o6.mutG (o := .lst (us3 ++ [(.str r4)])) G8
      have o8 := o6.mut (ws := us3 ++ [(.str r4)])
      have fr5 : Rs (α := Str) (N4) (us3 ++ [(.str r4)]) (x2 ++ [r4]) := Rs_snoc (Rs_mono g7.ex fr3) (.str _)
      have o9 := o7.other (ws := us3 ++ [(.str r4)]) (Ne.symm ne1)
      rw [hnx1] at hm
      exact ⟨_, o6.at_, szl (by rw [Rs_len (Rs_mono g7.ex fr3)]; exact c2), ⟨N4, (x2 ++ [r4]), _, hm, (s1.trans g7.ex), G9, o8, fr5, o9⟩⟩
    · skip
      obtain ⟨F1, x2, us3, hm, s2, G10, o10, fr6, o11⟩ := hW
      have hm : (_law_given_k2 r3 cell) x2 = some r := forK_n hm
      rw [_law_given_k2] at hm
      obtain ⟨c3, hm⟩ := guardp hm
      refine ⟨_, _, _, _, rfl, rfl, o11.at_, o10.at_, szle (by rw [Rs_len (Rs_mono s2 fr2), Rs_len fr6]; exact c3), fun p3 np3 => ?_⟩
      have fr7 : Rs (α := Str) (F1) ([(.str (Str.ofString (toString (r3).1)))] ++ us3) (([(Str.ofString (toString (r3).1))] : (List Str)) ++ x2) := Rs_app (Rs_mono s2 fr2) fr6
      have g8 := Gr.newO (o := .lst ([(.str (Str.ofString (toString (r3).1)))] ++ us3)) G10.sub np3
      have o12 := Ow.new (us := ([(.str (Str.ofString (toString (r3).1)))] ++ us3)) G10 np3
      have G11 := G10.step g8
      obtain ⟨c4, hm⟩ := guardp hm
      refine ⟨_, _, _, rfl, rfl, .inl (.inl (.inl (join_at o12.at_ fr7))), c4, ?_⟩
      with_reducible refine x_gnE (σ' := ([some (.int cell), some (.int (cell % (4 : Int))), some (.ref a1), some (.str (Txt.join (" " : Str) (([(Str.ofString (toString (r3).1))] : (List Str)) ++ x2))), none, none, none, none, none, none] : L2.St)) (by with_unfolding_all rfl) ?_
      refine ⟨(fun σ H7 => ∃ (F2 : Hp) (x3 : Str) (y1 : Option V), (_law_given_j3 cell) x3 = some r ∧ Sub (F1) F2 ∧ Gr NA F0 H F2 H7 ∧ σ = [some (.int cell), some (.int (cell % (4 : Int))), some (.ref a1), some (.str x3), y1, none, none, none, none, none]), ?_, fun σ H1 hW => ?_⟩
      · with_reducible refine x_if ?_
        with_reducible refine x_B ?_
        with_reducible refine x_cmp ?_
        with_reducible refine x_op ?_
        with_reducible refine x_op ?_
        refine ⟨_, rfl, ?_⟩
        with_reducible refine x_c ?_
        refine ⟨_, _, rfl, rfl, (show Dv ((4 : Int)) from by decide +kernel).w, ?_⟩
        with_reducible refine x_c ?_
        refine ⟨_, _, rfl, rfl, (show (0 : Int) < (2 : Int) from by decide), ?_⟩
        with_reducible refine x_c ?_
        refine ⟨_, _, rfl, rfl, ?_⟩
        refine ⟨_, rfl, ?_⟩
        refine ifD (fun hc => ?_) (fun hc => ?_)
        · replace hm := itep hm hc
          with_reducible refine x_seq ?_
          with_reducible refine x_asg ?_
          with_reducible refine x_call ?_
          with_reducible refine x_cons ?_
          with_reducible refine x_call ?_
          with_reducible refine x_cons ?_
          with_reducible refine x_op ?_
          refine ⟨_, rfl, ?_⟩
          refine ⟨_, _, _, _, rfl, rfl, .inl (.inl ((s2.trans G11.sub) _ _ fa1)), atI_nat (j := 0) rfl, ?_⟩
          with_reducible refine x_cons ?_
          with_reducible refine x_call ?_
          with_reducible refine x_cons ?_
          refine ⟨_, rfl, ?_⟩
          with_reducible refine x_cons ?_
          with_reducible refine x_c ?_
          obtain ⟨r5, hr5, hm⟩ := bindp hm
          refine ⟨_, _, _, cell, (40 : Int), r5, rfl, G11.sub, (.int _), (.int _), hr5, fun N5 H12 v8 g12 d7  => ?_⟩
          have G17 := G11.step g12
          obtain rfl := int_of d7
          obtain ⟨r6, hr6, hm⟩ := bindp hm
          refine ⟨_, _, _, (r3).1, r5, r6, rfl, G17.sub, (.int _), (.int _), hr6, fun N6 H13 v9 g13 d8  => ?_⟩
          have G18 := G17.step g13
          obtain ⟨a4, us5, rfl, fa4, fr8⟩ := lst_of d8
          obtain ⟨r7, hr7, hm⟩ := bindp hm
          refine ⟨_, _, r6, r7, rfl, G18.sub, (mk_lst ((Sub.refl _) _ _ fa4) (Rs_mono (Sub.refl _) fr8)), hr7, fun N7 H14 v10 g14 d9  => ?_⟩
          have G19 := G18.step g14
          obtain rfl := str_of d9
          with_reducible refine x_gnE (σ' := ([some (.int cell), some (.int (cell % (4 : Int))), some (.ref a1), some (.str r7), none, none, none, none, none, none] : L2.St)) (by with_unfolding_all rfl) ?_
          with_reducible refine x_if ?_
          with_reducible refine x_B ?_
          with_reducible refine x_cmp ?_
          with_reducible refine x_op ?_
          with_reducible refine x_op ?_
          refine ⟨_, rfl, ?_⟩
          with_reducible refine x_c ?_
          refine ⟨_, _, rfl, rfl, (show Dv ((8 : Int)) from by decide +kernel).w, ?_⟩
          with_reducible refine x_c ?_
          refine ⟨_, _, rfl, rfl, (show (0 : Int) < (5 : Int) from by decide), ?_⟩
          with_reducible refine x_c ?_
          refine ⟨_, _, rfl, rfl, ?_⟩
          refine ⟨_, rfl, ?_⟩
          refine ifD (fun hc => ?_) (fun hc => ?_)
          · replace hm := itep hm hc
            with_reducible refine x_seq ?_
            with_reducible refine x_asg ?_
            with_reducible refine x_op ?_
            with_reducible refine x_c ?_
            with_reducible refine x_op ?_
            with_reducible refine x_call ?_
            with_reducible refine x_cons ?_
            refine ⟨_, rfl, ?_⟩
            with_reducible refine x_cons ?_
            with_reducible refine x_c ?_
            obtain ⟨r8, hr8, hm⟩ := bindp hm
            refine ⟨_, _, _, cell, (50 : Int), r8, rfl, G19.sub, (.int _), (.int _), hr8, fun N8 H15 v11 g15 d10  => ?_⟩
            have G20 := G19.step g15
            obtain rfl := int_of d10
            with_reducible refine x_c ?_
            refine ⟨_, _, rfl, rfl, (show (0 : Int) < (198 : Int) from by decide), ?_⟩
            refine ⟨_, _, rfl, rfl, ?_⟩
            with_reducible refine x_gnE (σ' := ([some (.int cell), some (.int (cell % (4 : Int))), some (.ref a1), some (.str r7), some (.int ((1 : Int) + (r8 % (198 : Int)))), none, none, none, none, none] : L2.St)) (by with_unfolding_all rfl) ?_
            with_reducible refine x_asg ?_
            with_reducible refine x_op ?_
            with_reducible refine x_c ?_
            with_reducible refine x_call ?_
            with_reducible refine x_cons ?_
            with_reducible refine x_lc ?_
            with_reducible refine x_rng1 ?_
            with_reducible refine x_cons ?_
            refine ⟨_, rfl, ?_⟩
            obtain ⟨c17, hm⟩ := guardp hm
            refine ⟨_, rfl, c17.lo, c17.hi, fun p4 np4 => ?_⟩
            have g16 := Gr.newO (o := .lst []) G20.sub np4
            have o13 := Ow.new (us := []) G20 np4
            have G21 := G20.step g16
            refine lc_rng (lo := 0) (hi := ((1 : Int) + (r8 % (198 : Int)))) (by rw [Int.sub_zero]) (fun (ts3 : List Int) H16 => ∃ (F4 : Hp) (x7 : List Int) (us7 : List V), forK (_law_given_c5 cell r3) ts3 x7 (_law_given_k6 cell) = some r ∧ Sub (N8) F4 ∧ Gr NA F0 H F4 H16 ∧ Ow H F4 H16 p4 us7 ∧ Rs F4 us7 x7) ⟨N8, ([] : List Int), _, hm, (Sub.refl _), G21, o13, Rs_nil⟩ (fun t2 ts4 H1 hW => ?_) (fun H1 hW => ?_)
            · skip
              obtain ⟨F4, x7, us7, hm, s5, G22, o14, fr9⟩ := hW
              obtain ⟨next2, hnx2⟩ : ∃ nx, nx = fun s => forK (_law_given_c5 cell r3) ts4 s (_law_given_k6 cell) := ⟨_, rfl⟩
              have hm : (_law_given_c5 cell r3) x7 t2 next2 = some r := by rw [hnx2]; exact forK_c hm
              rw [_law_given_c5] at hm
              with_reducible refine x_gnE (σ' := ([some (.int cell), some (.int (cell % (4 : Int))), some (.ref a1), some (.str r7), some (.int ((1 : Int) + (r8 % (198 : Int)))), none, none, none, none, some (.int t2)] : L2.St)) (by with_unfolding_all rfl) ?_
              refine ⟨rfl, ?_⟩
              with_reducible refine x_yes ?_
              refine iteT ?_
              with_reducible refine x_op ?_
              with_reducible refine x_call ?_
              with_reducible refine x_cons ?_
              refine ⟨_, rfl, ?_⟩
              with_reducible refine x_cons ?_
              refine useEv (.int ((60 : Int) + t2)) (by exact (Evl.ev_op Evl.ev_c (Evl.ev_var rfl) Evl.rv_I0)) (fun H17 e5 => ?_)
              have g17 := gr_ex G22.sub e5
              have G23 := G22.step g17
              have o15 := o14.step g17
              obtain ⟨r9, hr9, hm⟩ := bindp hm
              refine ⟨_, _, _, cell, ((60 : Int) + t2), r9, rfl, G23.sub, (.int _), (.int _), hr9, fun N9 H18 v13 g18 d11  => ?_⟩
              have G24 := G23.step g18
              have o16 := o15.step g18
              obtain rfl := int_of d11
              with_reducible refine x_op ?_
              refine ⟨_, rfl, ?_⟩
              refine ⟨_, _, _, _, rfl, rfl, .inl (.inl ((((((((s2.trans g12.ex).trans g13.ex).trans g14.ex).trans g15.ex).trans s5).trans g18.ex).trans G24.sub) _ _ fa1)), atI_nat (j := 0) rfl, ?_⟩
              obtain ⟨c18, hm⟩ := guardp hm
              refine ⟨_, _, rfl, rfl, c18.p, ?_⟩
              obtain ⟨c19, hm⟩ := guardp hm
              have G25 := o16.mutG (o := .lst (us7 ++ [(.int (r9 % (r3).1))])) G24
              have o17 := o16.mut (ws := us7 ++ [(.int (r9 % (r3).1))])
              have fr10 : Rs (α := Int) (N9) (us7 ++ [(.int (r9 % (r3).1))]) (x7 ++ [(r9 % (r3).1)]) := Rs_snoc (Rs_mono g18.ex fr9) (.int _)
              rw [hnx2] at hm
              exact ⟨_, o16.at_, szl (by rw [Rs_len (Rs_mono g18.ex fr9)]; exact c19), ⟨N9, (x7 ++ [(r9 % (r3).1)]), _, hm, (s5.trans g18.ex), G25, o17, fr10⟩⟩
            · skip
              obtain ⟨F4, x7, us7, hm, s6, G26, o18, fr11⟩ := hW
              have hm : (_law_given_k6 cell) x7 = some r := forK_n hm
              rw [_law_given_k6] at hm
              obtain ⟨F5, G27, ex1, fa5, nf1⟩ := o18.frzE G26
              have fr12 := Rs_mono ex1 fr11
              obtain ⟨r10, hr10, hm⟩ := bindp hm
              refine ⟨_, _, x7, r10, rfl, G27.sub, (mk_lst ((Sub.refl _) _ _ fa5) (Rs_mono (Sub.refl _) fr12)), hr10, fun N10 H19 v14 g19 d12  => ?_⟩
              have G28 := G27.step g19
              obtain rfl := str_of d12
              obtain ⟨c20, hm⟩ := guardp hm
              refine ⟨_, _, rfl, rfl, szle c20, ?_⟩
              with_reducible refine x_gnE (σ' := ([some (.int cell), some (.int (cell % (4 : Int))), some (.ref a1), some (.str (("1" : Str) ++ r10)), some (.int ((1 : Int) + (r8 % (198 : Int)))), none, none, none, none, none] : L2.St)) (by with_unfolding_all rfl) ?_
              exact ⟨N10, (("1" : Str) ++ r10), _, hm, ((((((g12.ex.trans g13.ex).trans g14.ex).trans g15.ex).trans s6).trans ex1).trans g19.ex), G28, rfl⟩
          · replace hm := iten hm (bF hc)
            with_reducible refine x_next ?_
            exact ⟨N7, r7, _, hm, ((g12.ex.trans g13.ex).trans g14.ex), G19, rfl⟩
        · replace hm := iten hm (bF hc)
          with_reducible refine x_next ?_
          exact ⟨F1, (Txt.join (" " : Str) (([(Str.ofString (toString (r3).1))] : (List Str)) ++ x2)), _, hm, (Sub.refl _), G11, rfl⟩
      · skip
        obtain ⟨F2, x3, y1, hm, s3, G12, rfl⟩ := hW
        have hm : (_law_given_j3 cell) x3 = some r := hm
        rw [_law_given_j3] at hm
        with_reducible refine x_seq ?_
        with_reducible refine x_asg ?_
        with_reducible refine x_c ?_
        with_reducible refine x_gnE (σ' := ([some (.int cell), some (.int (cell % (4 : Int))), some (.ref a1), some (.str x3), y1, some (.str (" !\"\\#$&'()*+,-./0123456789:;<=>?@ABCDEFGHIJKLMNOPQRSTUVWXYZ[]^_`abcdefghijklmnopqrstuvwxyz{|}~\t\n" : Str)), none, none, none, none] : L2.St)) (by with_unfolding_all rfl) ?_
        refine ⟨(fun σ H8 => ∃ (F3 : Hp) (x4 : Str), (_law_given_j4 x3 cell) x4 = some r ∧ Sub (F2) F3 ∧ Gr NA F0 H F3 H8 ∧ σ = [some (.int cell), some (.int (cell % (4 : Int))), some (.ref a1), some (.str x3), y1, some (.str x4), none, none, none, none]), ?_, fun σ H1 hW => ?_⟩
        · with_reducible refine x_if ?_
          with_reducible refine x_B ?_
          with_reducible refine x_cmp ?_
          with_reducible refine x_op ?_
          with_reducible refine x_op ?_
          refine ⟨_, rfl, ?_⟩
          with_reducible refine x_c ?_
          refine ⟨_, _, rfl, rfl, (show Dv ((8 : Int)) from by decide +kernel).w, ?_⟩
          with_reducible refine x_c ?_
          refine ⟨_, _, rfl, rfl, (show (0 : Int) < (3 : Int) from by decide), ?_⟩
          with_reducible refine x_c ?_
          refine ⟨_, _, rfl, rfl, ?_⟩
          refine ⟨_, rfl, ?_⟩
          refine ifD (fun hc => ?_) (fun hc => ?_)
          · replace hm := itep hm hc
            with_reducible refine x_asg ?_
            with_reducible refine x_c ?_
            with_reducible refine x_gnE (σ' := ([some (.int cell), some (.int (cell % (4 : Int))), some (.ref a1), some (.str x3), y1, some (.str ("0123456789abcdefg " : Str)), none, none, none, none] : L2.St)) (by with_unfolding_all rfl) ?_
            exact ⟨F2, ("0123456789abcdefg " : Str), hm, (Sub.refl _), G12, rfl⟩
          · replace hm := iten hm (bF hc)
            with_reducible refine x_next ?_
            exact ⟨F2, (" !\"\\#$&'()*+,-./0123456789:;<=>?@ABCDEFGHIJKLMNOPQRSTUVWXYZ[]^_`abcdefghijklmnopqrstuvwxyz{|}~\t\n" : Str), hm, (Sub.refl _), G12, rfl⟩
        · skip
          obtain ⟨F3, x4, hm, s4, G13, rfl⟩ := hW
          have hm : (_law_given_j4 x3 cell) x4 = some r := hm
          rw [_law_given_j4] at hm
          with_reducible refine x_seq ?_
          with_reducible refine x_asg ?_
          with_reducible refine x_op ?_
          with_reducible refine x_op ?_
          refine ⟨_, rfl, ?_⟩
          with_reducible refine x_c ?_
          refine ⟨_, _, rfl, rfl, (show Dv ((24 : Int)) from by decide +kernel).w, ?_⟩
          with_reducible refine x_op ?_
          with_reducible refine x_cb ?_
          with_reducible refine x_cons ?_
          refine ⟨_, rfl, ?_⟩
          obtain ⟨c5, hm⟩ := guardp hm
          refine ⟨_, rfl, szle c5, ?_⟩
          with_reducible refine x_c ?_
          refine ⟨_, _, rfl, rfl, ?_⟩
          obtain ⟨c6, hm⟩ := guardp hm
          refine ⟨_, _, rfl, rfl, c6.p, ?_⟩
          with_reducible refine x_gnE (σ' := ([some (.int cell), some (.int (cell % (4 : Int))), some (.ref a1), some (.str x3), y1, some (.str x4), some (.int ((cell / (24 : Int)) % ((x3.length : Int) + (1 : Int)))), none, none, none] : L2.St)) (by with_unfolding_all rfl) ?_
          with_reducible refine x_seq ?_
          with_reducible refine x_asg ?_
          with_reducible refine x_op ?_
          refine ⟨_, rfl, ?_⟩
          with_reducible refine x_op ?_
          with_reducible refine x_op ?_
          refine ⟨_, rfl, ?_⟩
          with_reducible refine x_c ?_
          refine ⟨_, _, rfl, rfl, (show Dv ((24000 : Int)) from by decide +kernel).w, ?_⟩
          with_reducible refine x_cb ?_
          with_reducible refine x_cons ?_
          refine ⟨_, rfl, ?_⟩
          obtain ⟨c7, hm⟩ := guardp hm
          refine ⟨_, rfl, szle c7, ?_⟩
          obtain ⟨c8, hm⟩ := guardp hm
          refine ⟨_, _, rfl, rfl, c8.p, ?_⟩
          obtain ⟨c9, hm⟩ := guardp hm
          obtain ⟨x5, hx1, hm⟩ := bindp hm
          refine ixS_of c9 hx1 ?_
          with_reducible refine x_gnE (σ' := ([some (.int cell), some (.int (cell % (4 : Int))), some (.ref a1), some (.str x3), y1, some (.str x4), some (.int ((cell / (24 : Int)) % ((x3.length : Int) + (1 : Int)))), some (.str (⟨#[x5]⟩ : Str)), none, none] : L2.St)) (by with_unfolding_all rfl) ?_
          with_reducible refine x_seq ?_
          with_reducible refine x_if ?_
          with_reducible refine x_B ?_
          refine useEv (.bl (decide ((cell % (4 : Int)) = (1 : Int)))) (by exact (ev_cmp (Evl.ev_var rfl) Evl.ev_c)) (fun H9 e2 => ?_)
          have g9 := gr_ex G13.sub e2
          have G14 := G13.step g9
          refine ⟨_, rfl, ?_⟩
          refine ifD (fun hc => ?_) (fun hc => ?_)
          · replace hm := itep hm hc
            with_reducible refine x_ret ?_
            with_reducible refine x_op ?_
            with_reducible refine x_sl ?_
            refine ⟨_, rfl, ?_⟩
            with_reducible refine x_nopart ?_
            with_reducible refine x_part ?_
            refine ⟨_, rfl, ?_⟩
            refine ⟨_, rfl, ?_⟩
            obtain ⟨c10, hm⟩ := guardp hm
            refine ⟨_, rfl, szle c10, ?_⟩
            with_reducible refine x_sl ?_
            refine ⟨_, rfl, ?_⟩
            with_reducible refine x_part ?_
            refine useEv (.int (((cell / (24 : Int)) % ((x3.length : Int) + (1 : Int))) + (1 : Int))) (by exact (Evl.ev_op (Evl.ev_var rfl) Evl.ev_c Evl.rv_I0)) (fun H10 e3 => ?_)
            have g10 := gr_ex G14.sub e3
            have G15 := G14.step g10
            refine ⟨_, rfl, ?_⟩
            with_reducible refine x_nopart ?_
            obtain ⟨c11, hm⟩ := guardp hm
            refine ⟨_, rfl, szle c11, ?_⟩
            obtain ⟨c12, hm⟩ := guardp hm
            refine ⟨_, _, rfl, rfl, szle c12, ?_⟩
            obtain rfl : _ = r := Option.some.inj hm
            exact q _ _ _ G15 (.str _)
          · replace hm := iten hm (bF hc)
            with_reducible refine x_next ?_
            with_reducible refine x_ret ?_
            with_reducible refine x_op ?_
            with_reducible refine x_op ?_
            with_reducible refine x_sl ?_
            refine ⟨_, rfl, ?_⟩
            with_reducible refine x_nopart ?_
            with_reducible refine x_part ?_
            refine ⟨_, rfl, ?_⟩
            refine ⟨_, rfl, ?_⟩
            obtain ⟨c13, hm⟩ := guardp hm
            refine ⟨_, rfl, szle c13, ?_⟩
            refine ⟨_, rfl, ?_⟩
            obtain ⟨c14, hm⟩ := guardp hm
            refine ⟨_, _, rfl, rfl, szle c14, ?_⟩
            with_reducible refine x_sl ?_
            refine ⟨_, rfl, ?_⟩
            with_reducible refine x_part ?_
            with_reducible refine x_op ?_
            refine ⟨_, rfl, ?_⟩
            with_reducible refine x_cb ?_
            with_reducible refine x_cons ?_
            refine useEv (.bl (decide ((cell % (4 : Int)) = (2 : Int)))) (by exact (ev_cmp (Evl.ev_var rfl) Evl.ev_c)) (fun H11 e4 => ?_)
            have g11 := gr_ex G14.sub e4
            have G16 := G14.step g11
            refine .inr ⟨_, rfl, ?_⟩
            refine ⟨_, _, rfl, rfl, ?_⟩
            refine ⟨_, rfl, ?_⟩
            with_reducible refine x_nopart ?_
            obtain ⟨c15, hm⟩ := guardp hm
            refine ⟨_, rfl, szle c15, ?_⟩
            obtain ⟨c16, hm⟩ := guardp hm
            refine ⟨_, _, rfl, rfl, szle c16, ?_⟩
            obtain rfl : _ = r := Option.some.inj hm
            exact q _ _ _ G16 (.str _)

abbrev N__law_writes_number : List Str := ["base", "text", "signs", "sign"]
theorem sc__law_writes_number : FnScope N__law_writes_number ["base", "text"] (defScope s__law_writes_number) := ⟨rfl, rfl, rfl, by decide +kernel, rfl, by decide +kernel, by decide +kernel⟩
def sp__law_writes_number : Sp := fun vs H Q _ => ∃ (F : Hp) (v_base : V) (v_text : V) (base : Int) (text : Str) (r : Bool), vs = [v_base, v_text] ∧ Sub F H ∧ R F v_base base ∧ R F v_text text ∧ _law_writes_number base text = some r ∧ ∀ N H2 v, Gr NA F H N H2 → R N v r → Q v H2
theorem ok__law_writes_number {P : Program} {w : World} {K : PySem.W.Frag} {mg : Str → Option Value} {base : Heap} (T : Txt K mg) : FnOk P w K mg base CX0 1 T.f__law_writes_number.f T.f__law_writes_number.fd ["base", "text"] sp__law_writes_number := by
  have nd := (sc__law_writes_number).nd
  refine T.f__law_writes_number.F.ok sc__law_writes_number (fun vs H Q E h => ?_) (fun cdv A0 outer s H vs Q E hr h => ?_)
  · obtain ⟨_, _, _, _, _, _, rfl, _⟩ := h
    rfl
  obtain ⟨F0, v_base, v_text, base, text, r, rfl, s0, f_base, f_text, hm, q⟩ := h
  have G0 : Gr NA F0 H F0 H := Gr.refl s0
  obtain rfl := int_of f_base
  obtain rfl := str_of f_text
  refine ⟨_, (pss_cons (ps_set (i := 2) nd rfl (by first | exact Or.inl rfl | exact Or.inr rfl) (pe_slice (r := rSlS) sl_str pe_str po_none (po_some (pv 0)))) (pss_cons (ps_if (PW.pt (pw_or (pt_cmpR op_eqS (pv 1) pe_str (nomark _)) (pw_or1 (pt_cmpR (op_neNil (hu64 hr)) (pe_lc (own := [("sign", 3)]) (g := (gName 3)) rfl nd (pi_str (pv 1)) (blkOk_by (own := [("sign", 3)]) (N := N__law_writes_number) (sc := defScope s__law_writes_number) (by decide +kernel)) (fun _ _ _ _ _ => pg_name (i := 3) nd rfl (Or.inl rfl)) (fun _ _ _ _ _ => pts_one (pt_cmpR op_notIn_sign (pv 3) (pv 2) (by rfl))) (fun _ _ _ _ _ => (pv 3))) (pe_lst pa_nil) (nomark _))))) (pss_one (ps_ret pe_bl)) pss_nil) (pss_one (ps_ret (pe_or (pe_cmp (pc_eqI (pe_callB call_len_str (by rfl) T.z_len PySem.boot_len (pa_cons (pv 1) pa_nil)) pe_int)) (pe_one (pe_cmpR op_neS (pe_ix (r := rIxS) ix_str (pv 1) pe_int (fun _ _ => rfl)) pe_str (nomark _)))))))), ?_⟩
  refine x_start (σ' := ([some (.int base), some (.str text), none, none] : L2.St)) (by with_unfolding_all rfl) ?_
  rw [_law_writes_number] at hm
  with_reducible refine x_seq ?_
  with_reducible refine x_asg ?_
  with_reducible refine x_sl ?_
  with_reducible refine x_c ?_
  with_reducible refine x_nopart ?_
  with_reducible refine x_part ?_
  refine ⟨_, rfl, ?_⟩
  refine ⟨_, rfl, ?_⟩
  obtain ⟨c1, hm⟩ := guardp hm
  refine ⟨_, rfl, szle c1, ?_⟩
  with_reducible refine x_gnE (σ' := ([some (.int base), some (.str text), some (.str (cutS ("0123456789abcdef" : Str) none (some base))), none] : L2.St)) (by with_unfolding_all rfl) ?_
  with_reducible refine x_seq ?_
  with_reducible refine x_if ?_
  with_reducible refine x_or ?_
  with_reducible refine x_test ?_
  with_reducible refine x_op ?_
  refine ⟨_, rfl, ?_⟩
  with_reducible refine x_c ?_
  refine eqS_use ?_
  refine ⟨_, rfl, ?_⟩
  refine ifD (fun hc => ?_) (fun hc => ?_)
  · replace hm := itep hm hc
    refine iteT ?_
    with_reducible refine x_ret ?_
    with_reducible refine x_c ?_
    obtain rfl : _ = r := Option.some.inj hm
    exact q _ _ _ G0 (.bl _)
  · replace hm := iten hm (bF hc)
    with_reducible refine x_test ?_
    with_reducible refine x_op ?_
    with_reducible refine x_lc ?_
    with_reducible refine x_iterS ?_
    refine ⟨_, rfl, ?_⟩
    refine ⟨_, rfl, fun p1 np1 => ?_⟩
    have g1 := Gr.newO (o := .lst []) G0.sub np1
    have o1 := Ow.new (us := []) G0 np1
    have G1 := G0.step g1
    refine lc_str (z := text) (fun (ts1 : List Nat) H1 => ∃ (F1 : Hp) (x2 : List Str) (us2 : List V), forK (_law_writes_number_c1 base) ts1 x2 (_law_writes_number_k2 text) = some r ∧ Sub (F0) F1 ∧ Gr NA F0 H F1 H1 ∧ Ow H F1 H1 p1 us2 ∧ Rs F1 us2 x2) ⟨F0, ([] : List Str), _, hm, (Sub.refl _), G1, o1, Rs_nil⟩ (fun t1 ts2 H1 hW => ?_) (fun H1 hW => ?_)
    · skip
      obtain ⟨F1, x2, us2, hm, s1, G2, o2, fr1⟩ := hW
      obtain ⟨next1, hnx1⟩ : ∃ nx, nx = fun s => forK (_law_writes_number_c1 base) ts2 s (_law_writes_number_k2 text) := ⟨_, rfl⟩
      have hm : (_law_writes_number_c1 base) x2 t1 next1 = some r := by rw [hnx1]; exact forK_c hm
      rw [_law_writes_number_c1] at hm
      with_reducible refine x_gnE (σ' := ([some (.int base), some (.str text), some (.str (cutS ("0123456789abcdef" : Str) none (some base))), some (.str ⟨#[t1]⟩)] : L2.St)) (by with_unfolding_all rfl) ?_
      refine ⟨rfl, ?_⟩
      with_reducible refine x_test ?_
      with_reducible refine x_op ?_
      refine ⟨_, rfl, ?_⟩
      refine ⟨_, rfl, ?_⟩
      refine ⟨_, _, rfl, rfl, ?_⟩
      refine ⟨_, rfl, ?_⟩
      refine ifD (fun hc => ?_) (fun hc => ?_)
      · replace hm := itep hm hc
        refine ⟨_, rfl, ?_⟩
        obtain ⟨c2, hm⟩ := guardp hm
        have G3 := o2.mutG (o := .lst (us2 ++ [(.str ⟨#[t1]⟩)])) G2
        have o3 := o2.mut (ws := us2 ++ [(.str ⟨#[t1]⟩)])
        have fr2 : Rs (α := Str) (F1) (us2 ++ [(.str ⟨#[t1]⟩)]) (x2 ++ [(⟨#[t1]⟩ : Str)]) := Rs_snoc fr1 (.str _)
        rw [hnx1] at hm
        exact ⟨_, o2.at_, szl (by rw [Rs_len fr1]; exact c2), ⟨F1, (x2 ++ [(⟨#[t1]⟩ : Str)]), _, hm, s1, G3, o3, fr2⟩⟩
      · replace hm := iten hm (bF hc)
        rw [hnx1] at hm
        exact ⟨F1, x2, _, hm, s1, G2, o2, fr1⟩
    · skip
      obtain ⟨F1, x2, us2, hm, s2, G4, o4, fr3⟩ := hW
      have hm : (_law_writes_number_k2 text) x2 = some r := forK_n hm
      rw [_law_writes_number_k2] at hm
      with_reducible refine x_lst ?_
      refine ⟨szle (show 0 ≤ 16777216 from by decide), fun p2 np2 => ?_⟩
      have fr4 : Rs (α := Str) (F1) [] ([] : (List Str)) := Rs_nil
      have g2 := Gr.newO (o := .lst []) G4.sub np2
      have o5 := Ow.new (us := []) G4 np2
      have ne1 := o4.ne_new np2
      have G5 := G4.step g2
      have o6 := o4.step g2
      refine neNil_use (.inl (.inl o6.at_)) (.inl (.inl o5.at_)) (emp_len (Rs_len fr3)) ?_
      refine ⟨_, rfl, ?_⟩
      refine ifD (fun hc => ?_) (fun hc => ?_)
      · replace hm := itep hm hc
        with_reducible refine x_ret ?_
        with_reducible refine x_c ?_
        obtain rfl : _ = r := Option.some.inj hm
        exact q _ _ _ G5 (.bl _)
      · replace hm := iten hm (bF hc)
        with_reducible refine x_next ?_
        with_reducible refine x_ret ?_
        with_reducible refine x_orV ?_
        with_reducible refine x_cmp ?_
        with_reducible refine x_cb ?_
        with_reducible refine x_cons ?_
        refine ⟨_, rfl, ?_⟩
        obtain ⟨c3, hm⟩ := guardp hm
        refine ⟨_, rfl, szle c3, ?_⟩
        with_reducible refine x_c ?_
        refine ⟨_, _, rfl, rfl, ?_⟩
        refine ⟨_, rfl, ?_⟩
        refine ifD (fun hc => ?_) (fun hc => ?_)
        · replace hm := itep hm hc
          obtain rfl : _ = r := Option.some.inj hm
          exact q _ _ _ G5 (.bl _)
        · replace hm := iten hm (bF hc)
          with_reducible refine x_op ?_
          with_reducible refine x_op ?_
          refine ⟨_, rfl, ?_⟩
          with_reducible refine x_c ?_
          obtain ⟨c4, hm⟩ := guardp hm
          obtain ⟨x3, hx1, hm⟩ := bindp hm
          refine ixS_of c4 hx1 ?_
          with_reducible refine x_c ?_
          refine neS_use ?_
          obtain rfl : _ = r := Option.some.inj hm
          exact q _ _ _ G5 (.bl _)

abbrev N__law_writes_rule : List Str := ["text", "words", "signs", "found", "word", "twice", "one", "base", "sign"]
theorem sc__law_writes_rule : FnScope N__law_writes_rule ["text"] (defScope s__law_writes_rule) := ⟨rfl, rfl, rfl, by decide +kernel, rfl, by decide +kernel, by decide +kernel⟩
def sp__law_writes_rule : Sp := fun vs H Q _ => ∃ (F : Hp) (v_text : V) (text : Str) (r : Bool), vs = [v_text] ∧ Sub F H ∧ R F v_text text ∧ _law_writes_rule text = some r ∧ ∀ N H2 v, Gr NA F H N H2 → R N v r → Q v H2
theorem ok__law_writes_rule {P : Program} {w : World} {K : PySem.W.Frag} {mg : Str → Option Value} {base : Heap} (T : Txt K mg) : FnOk P w K mg base CX0 1 T.f__law_writes_rule.f T.f__law_writes_rule.fd ["text"] sp__law_writes_rule := by
  have nd := (sc__law_writes_rule).nd
  refine T.f__law_writes_rule.F.ok sc__law_writes_rule (fun vs H Q E h => ?_) (fun cdv A0 outer s H vs Q E hr h => ?_)
  · obtain ⟨_, _, _, _, rfl, _⟩ := h
    rfl
  obtain ⟨F0, v_text, text, r, rfl, s0, f_text, hm, q⟩ := h
  have G0 : Gr NA F0 H F0 H := Gr.refl s0
  obtain rfl := str_of f_text
  refine ⟨_, (pss_cons (ps_set (i := 1) nd rfl (by first | exact Or.inl rfl | exact Or.inr rfl) (pe_split (pv 0) pe_str)) (pss_cons (ps_if (PW.pt (pw_or (pt_cmpR (op_niP (α := Str) (by decide) (hu65 hr)) (pe_ix (r := rIxL K) ix_list (pv 1) pe_int (fun _ _ => rfl)) (pe_lc (own := [("base", 7)]) (g := (gName 7)) rfl nd (pi_range2 (by rfl) T.z_range (pa_cons pe_int (pa_cons pe_int pa_nil))) (blkOk_by (own := [("base", 7)]) (N := N__law_writes_rule) (sc := defScope s__law_writes_rule) (by decide +kernel)) (fun _ _ _ _ _ => pg_name (i := 7) nd rfl (Or.inl rfl)) (fun _ _ _ _ _ => pts_nil) (fun _ _ _ _ _ => (pe_callTy call_str_int (by rfl) T.z_str (by decide +kernel) (pa_cons (pv 7) pa_nil)))) (by rfl)) (pw_or1 (pt_cmp (pc_gt (pe_callB (r := rLenT K) call_lenT (by rfl) T.z_len PySem.boot_len (pa_cons (pv 1) pa_nil)) pe_int))))) (pss_one (ps_ret pe_bl)) pss_nil) (pss_cons (ps_set (i := 2) nd rfl (by first | exact Or.inl rfl | exact Or.inr rfl) (pe_slice (r := rSlS) sl_str pe_str po_none (po_some (pe_callTy call_int_str (by rfl) T.z_int (by decide +kernel) (pa_cons (pe_ix (r := rIxL K) ix_list (pv 1) pe_int (fun _ _ => rfl)) pa_nil))))) (pss_cons (ps_set (i := 3) nd rfl (by first | exact Or.inl rfl | exact Or.inr rfl) (pe_lst pa_nil)) (pss_cons (ps_for PassesOwn.never rfl (pi_list (pe_slice (r := rSlL K) sl_list (pv 1) (po_some pe_int) po_none)) (pg_name (i := 4) nd rfl (by first | exact Or.inl rfl | exact Or.inr rfl)) (pss_cons (ps_if (PW.pt (pw_or (pt_not (pt_chain op_le op_le pe_int (pe_callB call_len_str (by rfl) T.z_len PySem.boot_len (pa_cons (pv 4) pa_nil)) pe_int)) (pw_or1 (pt_cmpR (op_neNil (hu64 hr)) (pe_lc (own := [("sign", 8)]) (g := (gName 8)) rfl nd (pi_str (pv 4)) (blkOk_by (own := [("sign", 8)]) (N := N__law_writes_rule) (sc := defScope s__law_writes_rule) (by decide +kernel)) (fun _ _ _ _ _ => pg_name (i := 8) nd rfl (Or.inl rfl)) (fun _ _ _ _ _ => pts_one (pt_cmpR op_notIn_sign (pv 8) (pv 2) (by rfl))) (fun _ _ _ _ _ => (pv 8))) (pe_lst pa_nil) (nomark _))))) (pss_one (ps_ret pe_bl)) pss_nil) (pss_one (ps_expr (pe_bm PySem.F.plainAttrs_list PySem.F.slot_list_append PySem.F.type_list_append mt_append (pv 3) (pa_cons (pe_lc (own := [("sign", 8)]) (g := (gName 8)) rfl nd (pi_str (pv 4)) (blkOk_by (own := [("sign", 8)]) (N := N__law_writes_rule) (sc := defScope s__law_writes_rule) (by decide +kernel)) (fun _ _ _ _ _ => pg_name (i := 8) nd rfl (Or.inl rfl)) (fun _ _ _ _ _ => pts_nil) (fun _ _ _ _ _ => (pe_m1 PySem.F.slot_str_index PySem.F.type_str_index mt_sindex (pv 2) (pv 8)))) pa_nil)))))) (pss_cons (ps_setLc (i := 5) (own := [("one", 6)]) (g := (gName 6)) rfl nd rfl rfl (sw_true rfl rfl rfl (by decide +kernel)) (pi_list (pv 3)) (blkOk_by (own := [("one", 6)]) (N := N__law_writes_rule) (sc := defScope s__law_writes_rule) (by decide +kernel)) (fun _ _ _ _ _ => pg_name (i := 6) nd rfl (Or.inl rfl)) (fun _ _ _ _ _ => pts_one (pt_cmp (pc_gt (pe_bmK (K := K) rfl PySem.F.plainAttrs_list PySem.F.slot_list_count PySem.F.type_list_count (mt_countP (α := (List Int)) (by decide) (hu65 hr)) (pv 3) (pa_cons (pv 6) pa_nil)) pe_int))) (fun _ _ _ _ _ => (pv 6))) (pss_one (ps_ret (pe_and (pe_cmpR (op_eqT (α := (List (List Int))) (by decide) (hu64 hr)) (pv 3) (pe_callB (r := rSortedT (List Int)) (call_sortedT (by decide) (hu200' hr)) (by rfl) T.z_sorted (by decide +kernel) (pa_cons (pv 3) pa_nil)) (nomark _)) (pe_one (pe_cmpR (op_eqT (α := (List (List Int))) (by decide) (hu64 hr)) (pv 5) (pe_lst pa_nil) (nomark _)))))))))))), ?_⟩
  refine x_start (σ' := ([some (.str text), none, none, none, none, none, none, none, none] : L2.St)) (by with_unfolding_all rfl) ?_
  rw [_law_writes_rule] at hm
  with_reducible refine x_seq ?_
  with_reducible refine x_asg ?_
  with_reducible refine x_m1 ?_
  refine ⟨_, rfl, ?_⟩
  refine ⟨⟨_, rfl⟩, ?_⟩
  with_reducible refine x_c ?_
  obtain ⟨c1, hm⟩ := guardp hm
  refine split_of (by rfl) c1 (fun p1 np1 => ?_)
  have g1 := Gr.newO (o := .lst ((Txt.split text (" " : Str)).map V.str)) G0.sub np1
  have o1 := Ow.new (us := ((Txt.split text (" " : Str)).map V.str)) G0 np1
  have G1 := G0.step g1
  obtain ⟨F1, G2, ex1, fa1, nf1⟩ := o1.frzE G1
  have fr1 := Rs_mono ex1 (strs_Rs (Txt.split text (" " : Str)))
  with_reducible refine x_gnE (σ' := ([some (.str text), some (.ref p1), none, none, none, none, none, none, none] : L2.St)) (by with_unfolding_all rfl) ?_
  with_reducible refine x_seq ?_
  with_reducible refine x_if ?_
  with_reducible refine x_or ?_
  with_reducible refine x_test ?_
  with_reducible refine x_op ?_
  with_reducible refine x_op ?_
  refine ⟨_, rfl, ?_⟩
  with_reducible refine x_c ?_
  obtain ⟨x1, hx1, hm⟩ := bindp hm
  obtain ⟨v1, hu1, d1⟩ := Rs_at (Rs_mono (Sub.refl _) fr1) hx1
  refine ⟨_, _, _, _, rfl, rfl, .inl (.inl (G2.sub _ _ fa1)), hu1, ?_⟩
  obtain rfl := str_of d1
  with_reducible refine x_lc ?_
  with_reducible refine x_rng2 ?_
  with_reducible refine x_cons ?_
  with_reducible refine x_c ?_
  with_reducible refine x_cons ?_
  with_reducible refine x_c ?_
  refine ⟨_, _, rfl, (show Rg2 (2 : Int) (17 : Int) from by decide).ok, fun p2 np2 => ?_⟩
  have g2 := Gr.newO (o := .lst []) G2.sub np2
  have o2 := Ow.new (us := []) G2 np2
  have G3 := G2.step g2
  refine lc_rng (lo := (2 : Int)) (hi := (17 : Int)) rfl (fun (ts1 : List Int) H1 => ∃ (F2 : Hp) (x3 : List Str) (us2 : List V), forK (_law_writes_rule_c1) ts1 x3 (_law_writes_rule_k2 x1 text) = some r ∧ Sub (F1) F2 ∧ Gr NA F0 H F2 H1 ∧ Ow H F2 H1 p2 us2 ∧ Rs F2 us2 x3) ⟨F1, ([] : List Str), _, hm, (Sub.refl _), G3, o2, Rs_nil⟩ (fun t1 ts2 H1 hW => ?_) (fun H1 hW => ?_)
  · skip
    obtain ⟨F2, x3, us2, hm, s1, G4, o3, fr2⟩ := hW
    obtain ⟨next1, hnx1⟩ : ∃ nx, nx = fun s => forK (_law_writes_rule_c1) ts2 s (_law_writes_rule_k2 x1 text) := ⟨_, rfl⟩
    have hm : (_law_writes_rule_c1) x3 t1 next1 = some r := by rw [hnx1]; exact forK_c hm
    rw [_law_writes_rule_c1] at hm
    with_reducible refine x_gnE (σ' := ([some (.str text), some (.ref p1), none, none, none, none, none, some (.int t1), none] : L2.St)) (by with_unfolding_all rfl) ?_
    refine ⟨rfl, ?_⟩
    with_reducible refine x_yes ?_
    refine iteT ?_
    with_reducible refine x_cb ?_
    with_reducible refine x_cons ?_
    refine ⟨_, rfl, ?_⟩
    obtain ⟨c2, hm⟩ := guardp hm
    refine ⟨_, rfl, c2, ?_⟩
    obtain ⟨c3, hm⟩ := guardp hm
    have G5 := o3.mutG (o := .lst (us2 ++ [(.str (Str.ofString (toString t1)))])) G4
    have o4 := o3.mut (ws := us2 ++ [(.str (Str.ofString (toString t1)))])
    have fr3 : Rs (α := Str) (F2) (us2 ++ [(.str (Str.ofString (toString t1)))]) (x3 ++ [(Str.ofString (toString t1))]) := Rs_snoc fr2 (.str _)
    rw [hnx1] at hm
    exact ⟨_, o3.at_, szl (by rw [Rs_len fr2]; exact c3), ⟨F2, (x3 ++ [(Str.ofString (toString t1))]), _, hm, s1, G5, o4, fr3⟩⟩
  · skip
    obtain ⟨F2, x3, us2, hm, s2, G6, o5, fr4⟩ := hW
    have hm : (_law_writes_rule_k2 x1 text) x3 = some r := forK_n hm
    rw [_law_writes_rule_k2] at hm
    refine ⟨_, x1, x3, Sub.refl _, (RD.mono G6.sub (.str _)), (mk_lst o5.at_ (Rs_mono G6.sub fr4)), ?_⟩
    refine ⟨_, rfl, ?_⟩
    refine ifD (fun hc => ?_) (fun hc => ?_)
    · replace hm := itep hm hc
      refine iteT ?_
      with_reducible refine x_ret ?_
      with_reducible refine x_c ?_
      obtain rfl : _ = r := Option.some.inj hm
      exact q _ _ _ G6 (.bl _)
    · replace hm := iten hm (bF hc)
      with_reducible refine x_B ?_
      refine useEv (.bl (decide ((5 : Int) < ((Txt.split text (" " : Str)).length : Int)))) (by exact (ev_cmp (ev_lenT (Evl.ev_var rfl) ((s2.trans G6.sub) _ _ fa1) (Rs_mono s2 fr1)) Evl.ev_c)) (fun H2 e1 => ?_)
      have g3 := gr_ex G6.sub e1
      have G7 := G6.step g3
      have o6 := o5.step g3
      refine ⟨_, rfl, ?_⟩
      refine ifD (fun hc => ?_) (fun hc => ?_)
      · replace hm := itep hm hc
        with_reducible refine x_ret ?_
        with_reducible refine x_c ?_
        obtain rfl : _ = r := Option.some.inj hm
        exact q _ _ _ G7 (.bl _)
      · replace hm := iten hm (bF hc)
        with_reducible refine x_next ?_
        with_reducible refine x_seq ?_
        with_reducible refine x_asg ?_
        with_reducible refine x_sl ?_
        with_reducible refine x_c ?_
        with_reducible refine x_nopart ?_
        with_reducible refine x_part ?_
        with_reducible refine x_cb ?_
        with_reducible refine x_cons ?_
        with_reducible refine x_op ?_
        refine ⟨_, rfl, ?_⟩
        with_reducible refine x_c ?_
        obtain ⟨x4, hx2, hm⟩ := bindp hm
        obtain ⟨v3, hu2, d2⟩ := Rs_at (Rs_mono s2 fr1) hx2
        refine ⟨_, _, _, _, rfl, rfl, .inl (.inl ((s2.trans G7.sub) _ _ fa1)), hu2, ?_⟩
        obtain rfl := str_of d2
        obtain ⟨x5, hx3, hm⟩ := bindp hm
        obtain ⟨c4, hm⟩ := guardp hm
        refine ⟨_, _, rfl, hx3, c4, ?_⟩
        refine ⟨_, rfl, ?_⟩
        obtain ⟨c5, hm⟩ := guardp hm
        refine ⟨_, rfl, szle c5, ?_⟩
        with_reducible refine x_gnE (σ' := ([some (.str text), some (.ref p1), some (.str (cutS ("0123456789abcdef" : Str) none (some x5))), none, none, none, none, none, none] : L2.St)) (by with_unfolding_all rfl) ?_
        with_reducible refine x_seq ?_
        with_reducible refine x_asg ?_
        with_reducible refine x_lst ?_
        refine ⟨szle (show 0 ≤ 16777216 from by decide), fun p3 np3 => ?_⟩
        have fr5 : Rs (α := (List Int)) (F2) [] ([] : (List (List Int))) := Rs_nil
        have g4 := Gr.newO (o := .lst []) G7.sub np3
        have o7 := Ow.new (us := []) G7 np3
        have G8 := G7.step g4
        with_reducible refine x_gnE (σ' := ([some (.str text), some (.ref p1), some (.str (cutS ("0123456789abcdef" : Str) none (some x5))), some (.ref p3), none, none, none, none, none] : L2.St)) (by with_unfolding_all rfl) ?_
        with_reducible refine x_seq ?_
        with_reducible refine x_for ?_
        with_reducible refine x_iter ?_
        with_reducible refine x_sl ?_
        refine ⟨_, rfl, ?_⟩
        with_reducible refine x_part ?_
        with_reducible refine x_c ?_
        refine ⟨_, rfl, ?_⟩
        with_reducible refine x_nopart ?_
        refine ⟨_, _, rfl, .inl (.inl ((s2.trans G8.sub) _ _ fa1)), fun p4 np4 => ?_⟩
        have fr6 : Rs (α := Str) (F2) (cutV ((Txt.split text (" " : Str)).map V.str) (some (1 : Int)) none) (cutT (Txt.split text (" " : Str)) (some (1 : Int)) none) := Rs_cut (Rs_mono s2 fr1)
        have g5 := Gr.newO (o := .lst (cutV ((Txt.split text (" " : Str)).map V.str) (some (1 : Int)) none)) G8.sub np4
        have o8 := Ow.new (us := (cutV ((Txt.split text (" " : Str)).map V.str) (some (1 : Int)) none)) G8 np4
        have ne1 := o7.ne_new np4
        have G9 := G8.step g5
        have o9 := o7.step g5
        obtain ⟨F3, G10, ex2, fa2, nf2⟩ := o8.frzE G9
        have o10 := o9.frzN (Ne.symm (Ne.symm ne1)) nf2
        have fr7 := Rs_mono ex2 fr6
        refine ⟨_, rfl, ⟨_, .inl (.inl (G10.sub _ _ fa2))⟩, ?_⟩
        refine for_lst (α := Str) (fun (ts3 : List Str) σ H3 => ∃ (F4 : Hp) (x6 : (List (List Int))) (p5 : Addr) (us3 : List V) (y1 : Option V), forK (_law_writes_rule_b3 x5) ts3 x6 (_law_writes_rule_e4) = some r ∧ Sub (F3) F4 ∧ Gr NA F0 H F4 H3 ∧ Ow H F4 H3 p5 us3 ∧ Rs F4 us3 x6 ∧ σ = [some (.str text), some (.ref p1), some (.str (cutS ("0123456789abcdef" : Str) none (some x5))), some (.ref p5), y1, none, none, none, none]) (Rs_mono (Sub.refl _) fr7) ⟨F3, ([] : (List (List Int))), _, _, _, hm, (Sub.refl _), G10, o10, (Rs_mono ex2 fr5), rfl⟩ (fun _ _ _ h => ?_) (fun t2 ts4 v4 σ H1 hv2 hW => ?_) (fun σ H1 hW => ?_)
        · obtain ⟨F4, x6, p5, us3, y1, _, s9z, G9z, _⟩ := h
          exact G9z.sub _ _ (s9z _ _ ((Sub.refl _) _ _ fa2))
        · skip
          obtain ⟨F4, x6, p5, us3, y1, hm, s3, G11, o11, fr8, rfl⟩ := hW
          obtain ⟨next2, hnx2⟩ : ∃ nx, nx = fun s => forK (_law_writes_rule_b3 x5) ts4 s (_law_writes_rule_e4) := ⟨_, rfl⟩
          have hm : (_law_writes_rule_b3 x5) x6 t2 next2 = some r := by rw [hnx2]; exact forK_c hm
          rw [_law_writes_rule_b3] at hm
          obtain rfl := str_of hv2
          with_reducible refine x_gnE (σ' := ([some (.str text), some (.ref p1), some (.str (cutS ("0123456789abcdef" : Str) none (some x5))), some (.ref p5), some (.str t2), none, none, none, none] : L2.St)) (by with_unfolding_all rfl) ?_
          with_reducible refine x_seq ?_
          with_reducible refine x_if ?_
          with_reducible refine x_or ?_
          with_reducible refine x_not ?_
          with_reducible refine x_test ?_
          with_reducible refine x_chain ?_
          with_reducible refine x_c ?_
          with_reducible refine x_cb ?_
          with_reducible refine x_cons ?_
          refine ⟨_, rfl, ?_⟩
          obtain ⟨c6, hm⟩ := guardp hm
          refine ⟨_, rfl, szle c6, ?_⟩
          refine ⟨_, _, rfl, rfl, _, rfl, ?_⟩
          refine ifD (fun hc => ?_) (fun hc => ?_)
          · replace hm := itep hm hc
            with_reducible refine x_c ?_
            refine ⟨_, _, rfl, rfl, ?_⟩
            refine ⟨_, rfl, ?_⟩
            refine ifD (fun hc => ?_) (fun hc => ?_)
            · replace hm := itep hm hc
              refine iteT ?_
              with_reducible refine x_ret ?_
              with_reducible refine x_c ?_
              obtain rfl : _ = r := Option.some.inj hm
              exact q _ _ _ G11 (.bl _)
            · replace hm := iten hm (bF hc)
              with_reducible refine x_test ?_
              with_reducible refine x_op ?_
              with_reducible refine x_lc ?_
              with_reducible refine x_iterS ?_
              refine ⟨_, rfl, ?_⟩
              refine ⟨_, rfl, fun p6 np5 => ?_⟩
              have g6 := Gr.newO (o := .lst []) G11.sub np5
              have o12 := Ow.new (us := []) G11 np5
              have ne2 := o11.ne_new np5
              have G12 := G11.step g6
              have o13 := o11.step g6
              refine lc_str (z := t2) (fun (ts5 : List Nat) H4 => ∃ (F5 : Hp) (x8 : List Str) (us5 : List V), forK (_law_writes_rule_c5 x5) ts5 x8 (_law_writes_rule_k6 x5 t2 x6 next2) = some r ∧ Sub (F4) F5 ∧ Gr NA F0 H F5 H4 ∧ Ow H F5 H4 p6 us5 ∧ Rs F5 us5 x8 ∧ Ow H F5 H4 p5 us3) ⟨F4, ([] : List Str), _, hm, (Sub.refl _), G12, o12, Rs_nil, o13⟩ (fun t3 ts6 H1 hW => ?_) (fun H1 hW => ?_)
              · skip
                obtain ⟨F5, x8, us5, hm, s4, G13, o14, fr9, o15⟩ := hW
                obtain ⟨next3, hnx3⟩ : ∃ nx, nx = fun s => forK (_law_writes_rule_c5 x5) ts6 s (_law_writes_rule_k6 x5 t2 x6 next2) := ⟨_, rfl⟩
                have hm : (_law_writes_rule_c5 x5) x8 t3 next3 = some r := by rw [hnx3]; exact forK_c hm
                rw [_law_writes_rule_c5] at hm
                with_reducible refine x_gnE (σ' := ([some (.str text), some (.ref p1), some (.str (cutS ("0123456789abcdef" : Str) none (some x5))), some (.ref p5), some (.str t2), none, none, none, some (.str ⟨#[t3]⟩)] : L2.St)) (by with_unfolding_all rfl) ?_
                refine ⟨rfl, ?_⟩
                with_reducible refine x_test ?_
                with_reducible refine x_op ?_
                refine ⟨_, rfl, ?_⟩
                refine ⟨_, rfl, ?_⟩
                refine ⟨_, _, rfl, rfl, ?_⟩
                refine ⟨_, rfl, ?_⟩
                refine ifD (fun hc => ?_) (fun hc => ?_)
                · replace hm := itep hm hc
                  refine ⟨_, rfl, ?_⟩
                  obtain ⟨c7, hm⟩ := guardp hm
                  have G14 := o14.mutG (o := .lst (us5 ++ [(.str ⟨#[t3]⟩)])) G13
                  have o16 := o14.mut (ws := us5 ++ [(.str ⟨#[t3]⟩)])
                  have fr10 : Rs (α := Str) (F5) (us5 ++ [(.str ⟨#[t3]⟩)]) (x8 ++ [(⟨#[t3]⟩ : Str)]) := Rs_snoc fr9 (.str _)
                  have o17 := o15.other (ws := us5 ++ [(.str ⟨#[t3]⟩)]) (Ne.symm ne2)
                  rw [hnx3] at hm
                  exact ⟨_, o14.at_, szl (by rw [Rs_len fr9]; exact c7), ⟨F5, (x8 ++ [(⟨#[t3]⟩ : Str)]), _, hm, s4, G14, o16, fr10, o17⟩⟩
                · replace hm := iten hm (bF hc)
                  rw [hnx3] at hm
                  exact ⟨F5, x8, _, hm, s4, G13, o14, fr9, o15⟩
              · skip
                obtain ⟨F5, x8, us5, hm, s5, G15, o18, fr11, o19⟩ := hW
                have hm : (_law_writes_rule_k6 x5 t2 x6 next2) x8 = some r := forK_n hm
                rw [_law_writes_rule_k6] at hm
                with_reducible refine x_lst ?_
                refine ⟨szle (show 0 ≤ 16777216 from by decide), fun p7 np6 => ?_⟩
                have fr12 : Rs (α := Str) (F5) [] ([] : (List Str)) := Rs_nil
                have g7 := Gr.newO (o := .lst []) G15.sub np6
                have o20 := Ow.new (us := []) G15 np6
                have ne3 := o18.ne_new np6
                have ne4 := o19.ne_new np6
                have G16 := G15.step g7
                have o21 := o18.step g7
                have o22 := o19.step g7
                refine neNil_use (.inl (.inl o21.at_)) (.inl (.inl o20.at_)) (emp_len (Rs_len fr11)) ?_
                refine ⟨_, rfl, ?_⟩
                refine ifD (fun hc => ?_) (fun hc => ?_)
                · replace hm := itep hm hc
                  with_reducible refine x_ret ?_
                  with_reducible refine x_c ?_
                  obtain rfl : _ = r := Option.some.inj hm
                  exact q _ _ _ G16 (.bl _)
                · replace hm := iten hm (bF hc)
                  with_reducible refine x_next ?_
                  with_reducible refine x_drop ?_
                  with_reducible refine x_bm ?_
                  refine ⟨_, rfl, ?_⟩
                  refine ⟨.inl ⟨rfl, _, .inl (.inl o22.at_)⟩, ?_⟩
                  with_reducible refine x_cons ?_
                  with_reducible refine x_lc ?_
                  with_reducible refine x_iterS ?_
                  refine ⟨_, rfl, ?_⟩
                  refine ⟨_, rfl, fun p8 np7 => ?_⟩
                  have g8 := Gr.newO (o := .lst []) G16.sub np7
                  have o23 := Ow.new (us := []) G16 np7
                  have ne5 := o22.ne_new np7
                  have G17 := G16.step g8
                  have o24 := o22.step g8
                  refine lc_str (z := t2) (fun (ts7 : List Nat) H5 => ∃ (F6 : Hp) (x10 : List Int) (us7 : List V), forK (_law_writes_rule_c7 x5) ts7 x10 (_law_writes_rule_k8 x6 next2) = some r ∧ Sub (F5) F6 ∧ Gr NA F0 H F6 H5 ∧ Ow H F6 H5 p8 us7 ∧ Rs F6 us7 x10 ∧ Ow H F6 H5 p5 us3) ⟨F5, ([] : List Int), _, hm, (Sub.refl _), G17, o23, Rs_nil, o24⟩ (fun t4 ts8 H1 hW => ?_) (fun H1 hW => ?_)
                  · skip
                    obtain ⟨F6, x10, us7, hm, s6, G18, o25, fr13, o26⟩ := hW
                    obtain ⟨next4, hnx4⟩ : ∃ nx, nx = fun s => forK (_law_writes_rule_c7 x5) ts8 s (_law_writes_rule_k8 x6 next2) := ⟨_, rfl⟩
                    have hm : (_law_writes_rule_c7 x5) x10 t4 next4 = some r := by rw [hnx4]; exact forK_c hm
                    rw [_law_writes_rule_c7] at hm
                    with_reducible refine x_gnE (σ' := ([some (.str text), some (.ref p1), some (.str (cutS ("0123456789abcdef" : Str) none (some x5))), some (.ref p5), some (.str t2), none, none, none, some (.str ⟨#[t4]⟩)] : L2.St)) (by with_unfolding_all rfl) ?_
                    refine ⟨rfl, ?_⟩
                    with_reducible refine x_yes ?_
                    refine iteT ?_
                    with_reducible refine x_m1 ?_
                    refine ⟨_, rfl, ?_⟩
                    refine ⟨⟨_, rfl⟩, ?_⟩
                    refine ⟨_, rfl, ?_⟩
                    obtain ⟨x11, hx4, hm⟩ := bindp hm
                    obtain ⟨rs1, ho1⟩ := sidx_ex hx4
                    refine ⟨_, _, _, rs1, rfl, rfl, ho1, ?_⟩
                    obtain ⟨c8, hm⟩ := guardp hm
                    have G19 := o25.mutG (o := .lst (us7 ++ [(.int (x11 : Int))])) G18
                    have o27 := o25.mut (ws := us7 ++ [(.int (x11 : Int))])
                    have fr14 : Rs (α := Int) (F6) (us7 ++ [(.int (x11 : Int))]) (x10 ++ [(x11 : Int)]) := Rs_snoc fr13 (.int _)
                    have o28 := o26.other (ws := us7 ++ [(.int (x11 : Int))]) (Ne.symm ne5)
                    rw [hnx4] at hm
                    exact ⟨_, o25.at_, szl (by rw [Rs_len fr13]; exact c8), ⟨F6, (x10 ++ [(x11 : Int)]), _, hm, s6, G19, o27, fr14, o28⟩⟩
                  · skip
                    obtain ⟨F6, x10, us7, hm, s7, G20, o29, fr15, o30⟩ := hW
                    have hm : (_law_writes_rule_k8 x6 next2) x10 = some r := forK_n hm
                    rw [_law_writes_rule_k8] at hm
                    obtain ⟨F7, G21, ex3, fa3, nf3⟩ := o29.frzE G20
                    have o31 := o30.frzN (Ne.symm (Ne.symm ne5)) nf3
                    have fr16 := Rs_mono ex3 fr15
                    obtain ⟨c9, hm⟩ := guardp hm
                    refine ⟨_, _, _, rfl, rfl, o31.at_, szl (by rw [Rs_len (Rs_mono ex3 (Rs_mono s7 (Rs_mono s5 fr8)))]; exact c9), ?_⟩
                    have G22 := o31.mutG (o := .lst (us3 ++ [(.ref p8)])) G21
                    have o32 := o31.mut (ws := us3 ++ [(.ref p8)])
                    have fr17 : Rs (α := (List Int)) (F7) (us3 ++ [(.ref p8)]) (x6 ++ [x10]) := Rs_snoc (Rs_mono ex3 (Rs_mono s7 (Rs_mono s5 fr8))) (mk_lst ((Sub.refl _) _ _ fa3) (Rs_mono (Sub.refl _) fr16))
                    rw [hnx2] at hm
                    exact ⟨F7, (x6 ++ [x10]), _, _, _, hm, (((s3.trans s5).trans s7).trans ex3), G22, o32, fr17, rfl⟩
          · replace hm := iten hm (bF hc)
            refine ⟨_, rfl, ?_⟩
            refine iteT ?_
            refine iteT ?_
            with_reducible refine x_ret ?_
            with_reducible refine x_c ?_
            obtain rfl : _ = r := Option.some.inj hm
            exact q _ _ _ G11 (.bl _)
        · skip
          obtain ⟨F4, x6, p5, us3, y1, hm, s8, G23, o33, fr18, rfl⟩ := hW
          have hm : (_law_writes_rule_e4) x6 = some r := forK_n hm
          rw [_law_writes_rule_e4] at hm
          with_reducible refine x_seq ?_
          with_reducible refine x_asg ?_
          with_reducible refine x_lc ?_
          with_reducible refine x_iter ?_
          refine ⟨_, rfl, ?_⟩
          refine ⟨_, rfl, ⟨_, .inl (.inl o33.at_)⟩, fun p9 np8 => ?_⟩
          have g9 := Gr.newO (o := .lst []) G23.sub np8
          have o34 := Ow.new (us := []) G23 np8
          have ne6 := o33.ne_new np8
          have G24 := G23.step g9
          have o35 := o33.step g9
          refine lc_lst (α := (List Int)) (fun (ts9 : List (List Int)) H6 => ∃ (F8 : Hp) (x13 : List (List Int)) (us9 : List V), forK (_law_writes_rule_c9 x6) ts9 x13 (_law_writes_rule_k10 x6) = some r ∧ Sub (F4) F8 ∧ Gr NA F0 H F8 H6 ∧ Ow H F8 H6 p9 us9 ∧ Rs F8 us9 x13 ∧ Ow H F8 H6 p5 us3) fr18 ⟨F4, ([] : List (List Int)), _, hm, (Sub.refl _), G24, o34, Rs_nil, o35⟩ (fun _ _ h => ?_) (fun t5 ts10 v7 H1 hv5 hW => ?_) (fun H1 hW => ?_)
          · obtain ⟨F9z, _, _, _, s9z, G9z, _, _, q9⟩ := h
            exact q9.at_
          · skip
            obtain ⟨F8, x13, us9, hm, s9, G25, o36, fr19, o37⟩ := hW
            obtain ⟨next5, hnx5⟩ : ∃ nx, nx = fun s => forK (_law_writes_rule_c9 x6) ts10 s (_law_writes_rule_k10 x6) := ⟨_, rfl⟩
            have hm : (_law_writes_rule_c9 x6) x13 t5 next5 = some r := by rw [hnx5]; exact forK_c hm
            rw [_law_writes_rule_c9] at hm
            obtain ⟨a1, us10, rfl, fa4, fr20⟩ := lst_of hv5
            with_reducible refine x_gnE (σ' := ([some (.str text), some (.ref p1), some (.str (cutS ("0123456789abcdef" : Str) none (some x5))), some (.ref p5), y1, none, some (.ref a1), none, none] : L2.St)) (by with_unfolding_all rfl) ?_
            refine ⟨rfl, ?_⟩
            with_reducible refine x_B ?_
            with_reducible refine x_cmp ?_
            with_reducible refine x_bm ?_
            refine ⟨_, rfl, ?_⟩
            refine ⟨.inl ⟨rfl, _, .inl (.inl o37.at_)⟩, ?_⟩
            with_reducible refine x_cons ?_
            refine ⟨_, rfl, ?_⟩
            refine ⟨_, _, _, t5, x6, rfl, rfl, Sub.refl _, (mk_lst o37.at_ (Rs_mono G25.sub (Rs_mono s9 fr18))), (RD.mono G25.sub (mk_lst (s9 _ _ fa4) (Rs_mono s9 fr20))), ?_⟩
            with_reducible refine x_c ?_
            refine ⟨_, _, rfl, rfl, ?_⟩
            refine ⟨_, rfl, ?_⟩
            refine ifD (fun hc => ?_) (fun hc => ?_)
            · replace hm := itep hm hc
              refine ⟨_, rfl, ?_⟩
              obtain ⟨c10, hm⟩ := guardp hm
              have G26 := o36.mutG (o := .lst (us9 ++ [(.ref a1)])) G25
              have o38 := o36.mut (ws := us9 ++ [(.ref a1)])
              have fr21 : Rs (α := (List Int)) (F8) (us9 ++ [(.ref a1)]) (x13 ++ [t5]) := Rs_snoc fr19 (mk_lst (s9 _ _ fa4) (Rs_mono s9 fr20))
              have o39 := o37.other (ws := us9 ++ [(.ref a1)]) (Ne.symm ne6)
              rw [hnx5] at hm
              exact ⟨_, o36.at_, szl (by rw [Rs_len fr19]; exact c10), ⟨F8, (x13 ++ [t5]), _, hm, s9, G26, o38, fr21, o39⟩⟩
            · replace hm := iten hm (bF hc)
              rw [hnx5] at hm
              exact ⟨F8, x13, _, hm, s9, G25, o36, fr19, o37⟩
          · skip
            obtain ⟨F8, x13, us9, hm, s10, G27, o40, fr22, o41⟩ := hW
            have hm : (_law_writes_rule_k10 x6) x13 = some r := forK_n hm
            rw [_law_writes_rule_k10] at hm
            obtain ⟨F9, G28, ex4, fa5, nf4⟩ := o40.frzE G27
            have o42 := o41.frzN (Ne.symm (Ne.symm ne6)) nf4
            have fr23 := Rs_mono ex4 fr22
            with_reducible refine x_gnE (σ' := ([some (.str text), some (.ref p1), some (.str (cutS ("0123456789abcdef" : Str) none (some x5))), some (.ref p5), y1, some (.ref p9), none, none, none] : L2.St)) (by with_unfolding_all rfl) ?_
            with_reducible refine x_ret ?_
            with_reducible refine x_andV ?_
            with_reducible refine x_op ?_
            refine ⟨_, rfl, ?_⟩
            with_reducible refine x_cb ?_
            with_reducible refine x_cons ?_
            refine ⟨_, rfl, ?_⟩
            obtain ⟨c11, hm⟩ := guardp hm
            refine ⟨_, _, _, x6, rfl, o42.at_, G28.sub, (Rs_mono ex4 (Rs_mono s10 fr18)), c11, fun p10 us11 np9 fr24 => ?_⟩
            have g10 := Gr.newO (o := .lst us11) G28.sub np9
            have o43 := Ow.new (us := us11) G28 np9
            have ne7 := o42.ne_new np9
            have G29 := G28.step g10
            have o44 := o42.step g10
            refine ⟨_, x6, (sortT x6), Sub.refl _, (mk_lst o44.at_ (Rs_mono G29.sub (Rs_mono ex4 (Rs_mono s10 fr18)))), (mk_lst o43.at_ (Rs_mono G29.sub fr24)), ?_⟩
            refine ⟨_, rfl, ?_⟩
            refine ifD (fun hc => ?_) (fun hc => ?_)
            · replace hm := itep hm hc
              refine useEv (.bl (eqT x13 [])) (by exact (ev_eqNil (α := (List Int)) (Evl.ev_var rfl) (RD.mono G29.sub (mk_lst ((Sub.refl _) _ _ fa5) (Rs_mono (Sub.refl _) fr23))))) (fun H7 e2 => ?_)
              have g11 := gr_ex G29.sub e2
              have G30 := G29.step g11
              have o45 := o44.step g11
              have o46 := o43.step g11
              obtain rfl : _ = r := Option.some.inj hm
              exact q _ _ _ G30 (.bl _)
            · replace hm := iten hm (bF hc)
              obtain rfl : _ = r := Option.some.inj hm
              exact q _ _ _ G29 (.bl _)

abbrev N_law : List Str := ["script", "k", "cell", "text", "base", "ask", "found", "bad", "kept", "odd", "worse"]
theorem sc_law : FnScope N_law ["script"] (defScope s_law) := ⟨rfl, rfl, rfl, by decide +kernel, rfl, by decide +kernel, by decide +kernel⟩
omit [ErT] in
def sp_law (K : PySem.W.Frag) : Sp := fun vs H Q _ => ∃ (a : Addr) (ns : List Int), vs = [.ref a] ∧ SqL K H a (ns.map V.int) ∧ law ns = some true ∧ ∀ H2, Q (.bl true) H2
theorem ok_law {P : Program} {w : World} {K : PySem.W.Frag} {mg : Str → Option Value} {base : Heap} (T : Txt K mg) (hbs : (base.get? sysModules).isSome = true) : FnOkG P w K mg base CX0 8 T.f_law.f T.f_law.fd ["script"] (sp_law K) := by
  have nd := sc_law.nd
  refine okG0_of T.f_law.F sc_law (fun vs H Q E h => ?_) (fun cdv A0 outer s H vs Q E hgd hr h => ?_)
  · obtain ⟨_, _, rfl, _⟩ := h
    rfl
  obtain ⟨a0, ns, rfl, hS, hm, q⟩ := h
  refine ⟨_, (pss_cons (ps_for PassesOwn.never rfl (pi_range1 (by rfl) T.z_range (pa_cons (pe_callB (call_max2 rfl) (by rfl) T.z_max (by decide +kernel) (pa_cons pe_int (pa_cons (pe_callB (call_min2 rfl) (by rfl) T.z_min (by decide +kernel) (pa_cons (pe_callB (r := rLenT K) call_lenT (by rfl) T.z_len PySem.boot_len (pa_cons (pv 0) pa_nil)) (pa_cons pe_int pa_nil))) pa_nil))) pa_nil)) (pg_name (i := 1) nd rfl (by first | exact Or.inl rfl | exact Or.inr rfl)) (pss_cons (ps_set (i := 2) nd rfl (by first | exact Or.inl rfl | exact Or.inr rfl) (pe_callB call_abs (by rfl) T.z_abs (by decide +kernel) (pa_cons (pe_call (ok__law_cell T) (hr.mono (by decide)) (by rfl) T.f__law_cell.g T.f__law_cell.F.kp T.f__law_cell.b .nil pass0 (pa_cons (pv 0) (pa_cons (pv 1) pa_nil))) pa_nil))) (pss_cons (ps_set (i := 3) nd rfl (by first | exact Or.inl rfl | exact Or.inr rfl) (pe_call (ok__law_given T) (hr.mono (by decide)) (by rfl) T.f__law_given.g T.f__law_given.F.kp T.f__law_given.b .nil pass0 (pa_cons (pv 2) pa_nil))) (pss_cons (ps_set (i := 4) nd rfl (by first | exact Or.inl rfl | exact Or.inr rfl) (pe_op op_add pe_int (pe_op op_mod (pe_call (ok__law_mixed T) (hr.mono (by decide)) (by rfl) T.f__law_mixed.g T.f__law_mixed.F.kp T.f__law_mixed.b .nil pass0 (pa_cons (pv 2) (pa_cons pe_int pa_nil))) pe_int))) (pss_cons (ps_for PassesOwn.never rfl (pi_range1 (by rfl) T.z_range (pa_cons pe_int pa_nil)) (pg_name (i := 5) nd rfl (by first | exact Or.inl rfl | exact Or.inr rfl)) (pss_cons (ps_set (i := 6) nd rfl (by first | exact Or.inl rfl | exact Or.inr rfl) (pe_call (ok__law_asked T) (hr.mono (by decide)) (by rfl) T.f__law_asked.g T.f__law_asked.F.kp T.f__law_asked.b .nil pass0 (pa_cons (pv 5) (pa_cons (pv 4) (pa_cons (pv 3) pa_nil))))) (pss_one (ps_if (pt_val (pe_ix (r := rIxL K) ix_list (pe_lst (pa_cons (pe_call (ok__law_writes_rule T) (hr.mono (by decide)) (by rfl) T.f__law_writes_rule.g T.f__law_writes_rule.F.kp T.f__law_writes_rule.b .nil pass0 (pa_cons (pv 3) pa_nil)) (pa_cons (pe_call (ok__law_writes_number T) (hr.mono (by decide)) (by rfl) T.f__law_writes_number.g T.f__law_writes_number.F.kp T.f__law_writes_number.b .nil pass0 (pa_cons (pv 4) (pa_cons (pv 3) pa_nil))) pa_nil))) (pv 5) (fun _ _ => rfl))) (pss_one (ps_if (PW.pt (pw_or (pt_val (pe_ix (r := rIxL K) ix_list (pv 6) pe_int (fun _ _ => rfl))) (pw_or1 (pt_cmpR (op_neA (hu64 hr)) (pe_call (ok__law_asked T) (hr.mono (by decide)) (by rfl) T.f__law_asked.g T.f__law_asked.F.kp T.f__law_asked.b .nil pass0 (pa_cons (pe_op op_add pe_int (pv 5)) (pa_cons (pv 4) (pa_cons (pe_ix (r := rIxL K) ix_list (pv 6) pe_int (fun _ _ => rfl)) pa_nil)))) (pe_lst (pa_cons pe_bl (pa_cons (pv 3) pa_nil))) (nomark _))))) (pss_one (ps_ret pe_bl)) pss_nil)) (pss_one (ps_if (pt_cmpR (op_neA (hu64 hr)) (pv 6) (pe_lst (pa_cons pe_bl (pa_cons pe_str pa_nil))) (nomark _)) (pss_one (ps_ret pe_bl)) pss_nil)))))) (pss_cons (ps_set (i := 7) nd rfl (by first | exact Or.inl rfl | exact Or.inr rfl) (pe_call (ok__law_bad T) (hr.mono (by decide)) (by rfl) T.f__law_bad.g T.f__law_bad.F.kp T.f__law_bad.b .nil pass0 (pa_cons (pe_call (ok__law_rule T) (hr.mono (by decide)) (by rfl) T.f__law_rule.g T.f__law_rule.F.kp T.f__law_rule.b .nil pass0 (pa_cons (pe_call (ok__law_mixed T) (hr.mono (by decide)) (by rfl) T.f__law_mixed.g T.f__law_mixed.F.kp T.f__law_mixed.b .nil pass0 (pa_cons (pv 2) (pa_cons pe_int pa_nil))) pa_nil)) (pa_cons (pe_call (ok__law_mixed T) (hr.mono (by decide)) (by rfl) T.f__law_mixed.g T.f__law_mixed.F.kp T.f__law_mixed.b .nil pass0 (pa_cons (pv 2) (pa_cons pe_int pa_nil))) pa_nil)))) (pss_cons (ps_set (i := 8) nd rfl (by first | exact Or.inl rfl | exact Or.inr rfl) (pe_callB (r := rReprD) (call_reprD hgd hbs (hu200' hr)) (by rfl) T.z_repr (by decide +kernel) (pa_cons (pv 7) pa_nil))) (pss_cons (ps_if (PW.pt (pw_or (pt_cmpR (op_neA (hu64 hr)) (pe_call (ok__law_asked T) (hr.mono (by decide)) (by rfl) T.f__law_asked.g T.f__law_asked.F.kp T.f__law_asked.b .nil pass0 (pa_cons pe_int (pa_cons (pv 4) (pa_cons (pv 7) pa_nil)))) (pe_lst (pa_cons pe_bl (pa_cons pe_str pa_nil))) (nomark _)) (pw_or1 (pt_cmpR op_neS (pe_callB (r := rReprD) (call_reprD hgd hbs (hu200' hr)) (by rfl) T.z_repr (by decide +kernel) (pa_cons (pv 7) pa_nil)) (pv 8) (nomark _))))) (pss_one (ps_ret pe_bl)) pss_nil) (pss_cons (ps_set (i := 9) nd rfl (by first | exact Or.inl rfl | exact Or.inr rfl) (pe_ix (r := rIxL K) ix_list (pe_lst (pa_cons pe_non (pa_cons pe_int (pa_cons pe_int (pa_cons pe_int (pa_cons pe_bl (pa_cons pe_str (pa_cons (pe_lst (pa_cons pe_int pa_nil)) (pa_cons (pe_un un_neg pe_int) (pa_cons (pe_op op_pow pe_int pe_int) (pa_cons (pe_tup (pa_cons pe_int pa_nil)) (pa_cons pe_dnewK pa_nil)))))))))))) (pe_op op_mod (pe_call (ok__law_mixed T) (hr.mono (by decide)) (by rfl) T.f__law_mixed.g T.f__law_mixed.F.kp T.f__law_mixed.b .nil pass0 (pa_cons (pv 2) (pa_cons pe_int pa_nil))) pe_int) (fun _ _ => rfl))) (pss_cons (ps_if (PW.pt (pw_or (pt_cmpR (op_neA (hu64 hr)) (pe_call (ok__law_asked T) (hr.mono (by decide)) (by rfl) T.f__law_asked.g T.f__law_asked.F.kp T.f__law_asked.b .nil pass0 (pa_cons pe_int (pa_cons (pv 9) (pa_cons (pv 3) pa_nil)))) (pe_lst (pa_cons pe_bl (pa_cons pe_str pa_nil))) (nomark _)) (pw_or1 (pt_cmpR (op_neA (hu64 hr)) (pe_call (ok__law_asked T) (hr.mono (by decide)) (by rfl) T.f__law_asked.g T.f__law_asked.F.kp T.f__law_asked.b .nil pass0 (pa_cons pe_int (pa_cons (pv 9) (pa_cons pe_int pa_nil)))) (pe_lst (pa_cons pe_bl (pa_cons pe_str pa_nil))) (nomark _))))) (pss_one (ps_ret pe_bl)) pss_nil) (pss_cons (ps_set (i := 10) nd rfl (by first | exact Or.inl rfl | exact Or.inr rfl) (pe_ix (r := rIxL K) ix_list (pe_lst (pa_cons pe_non (pa_cons (pe_un un_neg pe_int) (pa_cons pe_bl (pa_cons pe_str (pa_cons (pe_lst (pa_cons pe_int pa_nil)) (pa_cons (pe_tup (pa_cons pe_int pa_nil)) (pa_cons pe_dnewK (pa_cons (pe_un un_neg (pe_op op_pow pe_int pe_int)) (pa_cons pe_bl pa_nil)))))))))) (pe_op op_mod (pe_call (ok__law_mixed T) (hr.mono (by decide)) (by rfl) T.f__law_mixed.g T.f__law_mixed.F.kp T.f__law_mixed.b .nil pass0 (pa_cons (pv 2) (pa_cons pe_int pa_nil))) pe_int) (fun _ _ => rfl))) (pss_cons (ps_if (pt_cmpR (op_neA (hu64 hr)) (pe_call (ok__law_asked T) (hr.mono (by decide)) (by rfl) T.f__law_asked.g T.f__law_asked.F.kp T.f__law_asked.b .nil pass0 (pa_cons pe_int (pa_cons (pv 4) (pa_cons (pv 10) pa_nil)))) (pe_lst (pa_cons pe_bl (pa_cons pe_str pa_nil))) (nomark _)) (pss_one (ps_ret pe_bl)) pss_nil) (pss_one (ps_if (pt_cmpR (op_neA (hu64 hr)) (pe_call (ok__law_asked T) (hr.mono (by decide)) (by rfl) T.f__law_asked.g T.f__law_asked.F.kp T.f__law_asked.b .nil pass0 (pa_cons pe_int (pa_cons (pv 9) (pa_cons (pv 10) pa_nil)))) (pe_lst (pa_cons pe_bl (pa_cons pe_str pa_nil))) (nomark _)) (pss_one (ps_ret pe_bl)) pss_nil)))))))))))))) (pss_cons (ps_for PassesOwn.never rfl (pi_list (pe_lst (pa_cons pe_non (pa_cons pe_int (pa_cons (pe_lst (pa_cons pe_str pa_nil)) (pa_cons (pe_tup (pa_cons pe_int (pa_cons (pe_lst pa_nil) pa_nil))) (pa_cons pe_bl (pa_cons pe_dnewK (pa_cons (pe_lst (pa_cons pe_int pa_nil)) pa_nil))))))))) (pg_name (i := 9) nd rfl (by first | exact Or.inl rfl | exact Or.inr rfl)) (pss_one (ps_if (PW.pt (pw_or (pt_cmpR (op_neA (hu64 hr)) (pe_call (ok__law_asked T) (hr.mono (by decide)) (by rfl) T.f__law_asked.g T.f__law_asked.F.kp T.f__law_asked.b .nil pass0 (pa_cons pe_int (pa_cons pe_int (pa_cons (pv 9) pa_nil)))) (pe_lst (pa_cons pe_bl (pa_cons pe_str pa_nil))) (nomark _)) (pw_or1 (pt_cmpR (op_neA (hu64 hr)) (pe_call (ok__law_asked T) (hr.mono (by decide)) (by rfl) T.f__law_asked.g T.f__law_asked.F.kp T.f__law_asked.b .nil pass0 (pa_cons pe_int (pa_cons pe_int (pa_cons (pv 9) pa_nil)))) (pe_lst (pa_cons pe_bl (pa_cons pe_str pa_nil))) (nomark _))))) (pss_one (ps_ret pe_bl)) pss_nil))) (pss_one (ps_ret pe_bl)))), ?_⟩
  rw [law] at hm
  refine x_start (σ' := ([some (.ref a0), none, none, none, none, none, none, none, none, none, none] : L2.St)) (by with_unfolding_all rfl) ?_
  obtain ⟨F0, hF0⟩ : ∃ F : Hp, F = fun _ => none := ⟨_, rfl⟩
  have s0 : Sub F0 H := fun a o e => by rw [hF0] at e; cases e
  have G0 : Gr NA F0 H F0 H := Gr.refl s0
  with_reducible refine x_seq ?_
  with_reducible refine x_for ?_
  with_reducible refine x_rng1 ?_
  with_reducible refine x_cons ?_
  with_reducible refine x_cb ?_
  with_reducible refine x_cons ?_
  with_reducible refine x_c ?_
  with_reducible refine x_cons ?_
  with_reducible refine x_cb ?_
  with_reducible refine x_cons ?_
  with_reducible refine x_cb ?_
  with_reducible refine x_cons ?_
  refine ⟨_, rfl, ?_⟩
  refine ⟨_, _, rfl, .inl (SqL_gr hS G0), ?_⟩
  rw [List.length_map]
  with_reducible refine x_cons ?_
  with_reducible refine x_c ?_
  refine ⟨_, _, rfl, ?_⟩
  refine ⟨_, _, rfl, ?_⟩
  obtain ⟨c1, hm⟩ := guardp hm
  refine ⟨_, rfl, c1.lo, c1.hi, ?_⟩
  refine for_rng (lo := 0) (hi := (if (if (63 : Int) < (ns.length : Int) then (63 : Int) else (ns.length : Int)) > (16 : Int) then (if (63 : Int) < (ns.length : Int) then (63 : Int) else (ns.length : Int)) else (16 : Int))) (by rw [Int.sub_zero]) (fun (ts1 : List Int) σ H1 => ∃ (F1 : Hp) (y1 : Option V) (y2 : Option V) (y3 : Option V) (y4 : Option V) (y5 : Option V) (y6 : Option V) (y7 : Option V) (y8 : Option V) (y9 : Option V) (y10 : Option V), forK (law_b1 ns) ts1 () (law_e2) = some true ∧ Sub (F0) F1 ∧ Gr NA F0 H F1 H1 ∧ σ = [some (.ref a0), y6, y4, y9, y3, y1, y5, y2, y7, y8, y10]) ⟨F0, _, _, _, _, _, _, _, _, _, _, hm, (Sub.refl _), G0, rfl⟩ (fun t1 ts2 σ H1 hW => ?_) (fun σ H1 hW => ?_)
  · skip
    obtain ⟨F1, y1, y2, y3, y4, y5, y6, y7, y8, y9, y10, hm, s1, G1, rfl⟩ := hW
    obtain ⟨next1, hnx1⟩ : ∃ nx, nx = fun s => forK (law_b1 ns) ts2 s (law_e2) := ⟨_, rfl⟩
    have hm : (law_b1 ns) () t1 next1 = some true := by rw [hnx1]; exact forK_c hm
    rw [law_b1] at hm
    with_reducible refine x_gnE (σ' := ([some (.ref a0), some (.int t1), y4, y9, y3, y1, y5, y2, y7, y8, y10] : L2.St)) (by with_unfolding_all rfl) ?_
    with_reducible refine x_seq ?_
    with_reducible refine x_asg ?_
    with_reducible refine x_cb ?_
    with_reducible refine x_cons ?_
    with_reducible refine x_call ?_
    with_reducible refine x_cons ?_
    refine ⟨_, rfl, ?_⟩
    with_reducible refine x_cons ?_
    refine ⟨_, rfl, ?_⟩
    obtain ⟨r1, hr1, hm⟩ := bindp hm
    refine ⟨_, _, _, ns, t1, r1, rfl, G1.sub, ⟨_, rfl, SqL_gr hS G1⟩, (.int _), hr1, fun N1 H2 v2 g1 d1  => ?_⟩
    have G2 := G1.step g1
    obtain rfl := int_of d1
    refine ⟨_, rfl, ?_⟩
    with_reducible refine x_gnE (σ' := ([some (.ref a0), some (.int t1), some (.int (if r1 < 0 then -r1 else r1)), y9, y3, y1, y5, y2, y7, y8, y10] : L2.St)) (by with_unfolding_all rfl) ?_
    with_reducible refine x_seq ?_
    with_reducible refine x_asg ?_
    with_reducible refine x_call ?_
    with_reducible refine x_cons ?_
    refine ⟨_, rfl, ?_⟩
    obtain ⟨r2, hr2, hm⟩ := bindp hm
    refine ⟨_, _, (if r1 < 0 then -r1 else r1), r2, rfl, G2.sub, (.int _), hr2, fun N2 H3 v3 g2 d2  => ?_⟩
    have G3 := G2.step g2
    obtain rfl := str_of d2
    with_reducible refine x_gnE (σ' := ([some (.ref a0), some (.int t1), some (.int (if r1 < 0 then -r1 else r1)), some (.str r2), y3, y1, y5, y2, y7, y8, y10] : L2.St)) (by with_unfolding_all rfl) ?_
    with_reducible refine x_seq ?_
    with_reducible refine x_asg ?_
    with_reducible refine x_op ?_
    with_reducible refine x_c ?_
    with_reducible refine x_op ?_
    with_reducible refine x_call ?_
    with_reducible refine x_cons ?_
    refine ⟨_, rfl, ?_⟩
    with_reducible refine x_cons ?_
    with_reducible refine x_c ?_
    obtain ⟨r3, hr3, hm⟩ := bindp hm
    refine ⟨_, _, _, (if r1 < 0 then -r1 else r1), (9 : Int), r3, rfl, G3.sub, (.int _), (.int _), hr3, fun N3 H4 v4 g3 d3  => ?_⟩
    have G4 := G3.step g3
    obtain rfl := int_of d3
    with_reducible refine x_c ?_
    refine ⟨_, _, rfl, rfl, (show (0 : Int) < (15 : Int) from by decide), ?_⟩
    refine ⟨_, _, rfl, rfl, ?_⟩
    with_reducible refine x_gnE (σ' := ([some (.ref a0), some (.int t1), some (.int (if r1 < 0 then -r1 else r1)), some (.str r2), some (.int ((2 : Int) + (r3 % (15 : Int)))), y1, y5, y2, y7, y8, y10] : L2.St)) (by with_unfolding_all rfl) ?_
    with_reducible refine x_seq ?_
    with_reducible refine x_for ?_
    with_reducible refine x_rng1 ?_
    with_reducible refine x_cons ?_
    with_reducible refine x_c ?_
    refine ⟨_, rfl, (show Rg1 (2 : Int) from by decide).lo, (show Rg1 (2 : Int) from by decide).hi, ?_⟩
    refine for_rng (lo := 0) (hi := (2 : Int)) (by rw [Int.sub_zero]) (fun (ts3 : List Int) σ H5 => ∃ (F2 : Hp) (y11 : Option V) (y12 : Option V), forK (law_b3 r3 r2) ts3 () (law_e4 r1 r3 r2 next1) = some true ∧ Sub (N3) F2 ∧ Gr NA F0 H F2 H5 ∧ σ = [some (.ref a0), some (.int t1), some (.int (if r1 < 0 then -r1 else r1)), some (.str r2), some (.int ((2 : Int) + (r3 % (15 : Int)))), y11, y12, y2, y7, y8, y10]) ⟨N3, _, _, hm, (Sub.refl _), G4, rfl⟩ (fun t2 ts4 σ H1 hW => ?_) (fun σ H1 hW => ?_)
    · skip
      obtain ⟨F2, y11, y12, hm, s2, G5, rfl⟩ := hW
      obtain ⟨next2, hnx2⟩ : ∃ nx, nx = fun s => forK (law_b3 r3 r2) ts4 s (law_e4 r1 r3 r2 next1) := ⟨_, rfl⟩
      have hm : (law_b3 r3 r2) () t2 next2 = some true := by rw [hnx2]; exact forK_c hm
      rw [law_b3] at hm
      with_reducible refine x_gnE (σ' := ([some (.ref a0), some (.int t1), some (.int (if r1 < 0 then -r1 else r1)), some (.str r2), some (.int ((2 : Int) + (r3 % (15 : Int)))), some (.int t2), y12, y2, y7, y8, y10] : L2.St)) (by with_unfolding_all rfl) ?_
      with_reducible refine x_seq ?_
      with_reducible refine x_asg ?_
      with_reducible refine x_call ?_
      with_reducible refine x_cons ?_
      refine ⟨_, rfl, ?_⟩
      with_reducible refine x_cons ?_
      refine ⟨_, rfl, ?_⟩
      with_reducible refine x_cons ?_
      refine ⟨_, rfl, ?_⟩
      have d4 : R (α := PyData) (F2) (.int ((2 : Int) + (r3 % (15 : Int)))) (PyData.int ((2 : Int) + (r3 % (15 : Int)))) := (.int _)
      have d5 : R (α := PyData) (F2) (.str r2) (PyData.str r2) := (.str _)
      obtain ⟨r4, hr4, hm⟩ := bindp hm
      refine ⟨_, _, _, _, t2, (PyData.int ((2 : Int) + (r3 % (15 : Int)))), (PyData.str r2), r4, rfl, G5.sub, (.int _), (RD.mono (Sub.refl _) d4), (RD.mono (Sub.refl _) d5), hr4, fun N4 H6 v6 g4 d6  => ?_⟩
      have G6 := G5.step g4
      obtain ⟨a1, us1, rfl, fa1, fr1⟩ := lst_of d6
      with_reducible refine x_gnE (σ' := ([some (.ref a0), some (.int t1), some (.int (if r1 < 0 then -r1 else r1)), some (.str r2), some (.int ((2 : Int) + (r3 % (15 : Int)))), some (.int t2), some (.ref a1), y2, y7, y8, y10] : L2.St)) (by with_unfolding_all rfl) ?_
      with_reducible refine x_if ?_
      with_reducible refine x_B ?_
      with_reducible refine x_op ?_
      with_reducible refine x_lst ?_
      with_reducible refine x_cons ?_
      with_reducible refine x_call ?_
      with_reducible refine x_cons ?_
      refine ⟨_, rfl, ?_⟩
      obtain ⟨r5, hr5, hm⟩ := bindp hm
      refine ⟨_, _, r2, r5, rfl, G6.sub, (.str _), hr5, fun N5 H7 v7 g5 d7  => ?_⟩
      have G7 := G6.step g5
      obtain rfl := bl_of d7
      with_reducible refine x_cons ?_
      with_reducible refine x_call ?_
      with_reducible refine x_cons ?_
      refine ⟨_, rfl, ?_⟩
      with_reducible refine x_cons ?_
      refine ⟨_, rfl, ?_⟩
      obtain ⟨r6, hr6, hm⟩ := bindp hm
      refine ⟨_, _, _, ((2 : Int) + (r3 % (15 : Int))), r2, r6, rfl, G7.sub, (.int _), (.str _), hr6, fun N6 H8 v8 g6 d8  => ?_⟩
      have G8 := G7.step g6
      obtain rfl := bl_of d8
      refine ⟨szle (show 2 ≤ 16777216 from by decide), fun p1 np1 => ?_⟩
      have fr2 : Rs (α := Bool) (N6) [(.bl r5), (.bl r6)] ([r5, r6] : (List Bool)) := (Rs_cons (.bl _) (Rs_cons (.bl _) Rs_nil))
      have g7 := Gr.newO (o := .lst [(.bl r5), (.bl r6)]) G8.sub np1
      have o1 := Ow.new (us := [(.bl r5), (.bl r6)]) G8 np1
      have G9 := G8.step g7
      refine ⟨_, rfl, ?_⟩
      obtain ⟨x1, hx1, hm⟩ := bindp hm
      obtain ⟨v9, hu1, d9⟩ := Rs_at fr2 hx1
      refine ⟨_, _, _, _, rfl, rfl, .inl (.inl o1.at_), hu1, ?_⟩
      obtain rfl := bl_of d9
      refine ⟨_, rfl, ?_⟩
      refine ifD (fun hc => ?_) (fun hc => ?_)
      · replace hm := itep hm hc
        with_reducible refine x_if ?_
        with_reducible refine x_or ?_
        with_reducible refine x_B ?_
        with_reducible refine x_op ?_
        refine ⟨_, rfl, ?_⟩
        with_reducible refine x_c ?_
        obtain ⟨x2, hx2, hm⟩ := bindp hm
        obtain ⟨v10, hu2, d10⟩ := Rs_at (Rs_mono (g5.ex.trans g6.ex) fr1) hx2
        refine ⟨_, _, _, _, rfl, rfl, .inl (.inl (((g5.ex.trans g6.ex).trans G9.sub) _ _ fa1)), hu2, ?_⟩
        obtain ⟨x3, hx3, hm⟩ := bindp hm
        obtain rfl := asBl_of (RD.mono (Sub.refl _) d10) hx3
        refine ⟨_, rfl, ?_⟩
        refine ifD (fun hc => ?_) (fun hc => ?_)
        · replace hm := itep hm hc
          refine iteT ?_
          with_reducible refine x_ret ?_
          with_reducible refine x_c ?_
          exact ret_true hm q
        · replace hm := iten hm (bF hc)
          with_reducible refine x_test ?_
          with_reducible refine x_op ?_
          with_reducible refine x_call ?_
          with_reducible refine x_cons ?_
          refine useEv (.int ((2 : Int) + t2)) (by exact (Evl.ev_op Evl.ev_c (Evl.ev_var rfl) Evl.rv_I0)) (fun H9 e1 => ?_)
          have g8 := gr_ex G9.sub e1
          have G10 := G9.step g8
          with_reducible refine x_cons ?_
          refine ⟨_, rfl, ?_⟩
          with_reducible refine x_cons ?_
          with_reducible refine x_op ?_
          refine ⟨_, rfl, ?_⟩
          with_reducible refine x_c ?_
          obtain ⟨x4, hx4, hm⟩ := bindp hm
          obtain ⟨v11, hu3, d11⟩ := Rs_at (Rs_mono (g5.ex.trans g6.ex) fr1) hx4
          refine ⟨_, _, _, _, rfl, rfl, .inl (.inl (((g5.ex.trans g6.ex).trans G10.sub) _ _ fa1)), hu3, ?_⟩
          have d12 : R (α := PyData) (N6) (.int ((2 : Int) + (r3 % (15 : Int)))) (PyData.int ((2 : Int) + (r3 % (15 : Int)))) := (.int _)
          obtain ⟨r7, hr7, hm⟩ := bindp hm
          refine ⟨_, _, _, _, ((2 : Int) + t2), (PyData.int ((2 : Int) + (r3 % (15 : Int)))), x4, r7, rfl, G10.sub, (.int _), (RD.mono (Sub.refl _) d12), (RD.mono (Sub.refl _) d11), hr7, fun N7 H10 v12 g9 d13  => ?_⟩
          have G11 := G10.step g9
          obtain ⟨a2, us2, rfl, fa2, fr3⟩ := lst_of d13
          with_reducible refine x_lst ?_
          with_reducible refine x_cons ?_
          with_reducible refine x_c ?_
          have d14 : R (α := PyData) (N7) (.bl false) (PyData.bool false) := (.bl _)
          with_reducible refine x_cons ?_
          refine ⟨_, rfl, ?_⟩
          have d15 : R (α := PyData) (N7) (.str r2) (PyData.str r2) := (.str _)
          refine ⟨szle (show 2 ≤ 16777216 from by decide), fun p2 np2 => ?_⟩
          have fr4 : Rs (α := PyData) (N7) [(.bl false), (.str r2)] ([(PyData.bool false), (PyData.str r2)] : (List PyData)) := (Rs_cons (RD.mono (Sub.refl _) d14) (Rs_cons (RD.mono (Sub.refl _) d15) Rs_nil))
          have g10 := Gr.newO (o := .lst [(.bl false), (.str r2)]) G11.sub np2
          have o2 := Ow.new (us := [(.bl false), (.str r2)]) G11 np2
          have G12 := G11.step g10
          have d16 : R (α := PyData) (N7) (.ref a2) (PyData.list r7) := (R_anyL (mk_lst ((Sub.refl _) _ _ fa2) (Rs_mono (Sub.refl _) fr3)))
          obtain ⟨F3, G13, ex1, fa3, nf1⟩ := o2.frzE G12
          have fr5 := Rs_mono ex1 fr4
          have d17 : R (α := PyData) (F3) (.ref p2) (PyData.list ([(PyData.bool false), (PyData.str r2)] : (List PyData))) := (R_anyL (mk_lst ((Sub.refl _) _ _ fa3) (Rs_mono (Sub.refl _) fr5)))
          obtain ⟨c2, hm⟩ := guardp hm
          refine neA_use (a := (PyData.list r7)) (b := (PyData.list ([(PyData.bool false), (PyData.str r2)] : (List PyData)))) G13.sub (RD.mono ex1 d16) (RD.mono (Sub.refl _) d17) c2 ?_
          refine ⟨_, rfl, ?_⟩
          refine ifD (fun hc => ?_) (fun hc => ?_)
          · replace hm := itep hm hc
            with_reducible refine x_ret ?_
            with_reducible refine x_c ?_
            exact ret_true hm q
          · replace hm := iten hm (bF hc)
            with_reducible refine x_next ?_
            rw [hnx2] at hm
            exact ⟨F3, _, _, hm, (((((s2.trans g4.ex).trans g5.ex).trans g6.ex).trans g9.ex).trans ex1), G13, rfl⟩
      · replace hm := iten hm (bF hc)
        with_reducible refine x_if ?_
        with_reducible refine x_test ?_
        with_reducible refine x_op ?_
        refine ⟨_, rfl, ?_⟩
        with_reducible refine x_lst ?_
        with_reducible refine x_cons ?_
        with_reducible refine x_c ?_
        have d18 : R (α := PyData) (N6) (.bl true) (PyData.bool true) := (.bl _)
        with_reducible refine x_cons ?_
        with_reducible refine x_c ?_
        have d19 : R (α := PyData) (N6) (.str ("text" : Str)) (PyData.str ("text" : Str)) := (.str _)
        refine ⟨szle (show 2 ≤ 16777216 from by decide), fun p3 np3 => ?_⟩
        have fr6 : Rs (α := PyData) (N6) [(.bl true), (.str ("text" : Str))] ([(PyData.bool true), (PyData.str ("text" : Str))] : (List PyData)) := (Rs_cons (RD.mono (Sub.refl _) d18) (Rs_cons (RD.mono (Sub.refl _) d19) Rs_nil))
        have g11 := Gr.newO (o := .lst [(.bl true), (.str ("text" : Str))]) G9.sub np3
        have o3 := Ow.new (us := [(.bl true), (.str ("text" : Str))]) G9 np3
        have G14 := G9.step g11
        have d20 : R (α := PyData) (N6) (.ref a1) (PyData.list r4) := (R_anyL (mk_lst ((g5.ex.trans g6.ex) _ _ fa1) (Rs_mono (g5.ex.trans g6.ex) fr1)))
        obtain ⟨F4, G15, ex2, fa4, nf2⟩ := o3.frzE G14
        have fr7 := Rs_mono ex2 fr6
        have d21 : R (α := PyData) (F4) (.ref p3) (PyData.list ([(PyData.bool true), (PyData.str ("text" : Str))] : (List PyData))) := (R_anyL (mk_lst ((Sub.refl _) _ _ fa4) (Rs_mono (Sub.refl _) fr7)))
        obtain ⟨c3, hm⟩ := guardp hm
        refine neA_use (a := (PyData.list r4)) (b := (PyData.list ([(PyData.bool true), (PyData.str ("text" : Str))] : (List PyData)))) G15.sub (RD.mono ex2 d20) (RD.mono (Sub.refl _) d21) c3 ?_
        refine ⟨_, rfl, ?_⟩
        refine ifD (fun hc => ?_) (fun hc => ?_)
        · replace hm := itep hm hc
          with_reducible refine x_ret ?_
          with_reducible refine x_c ?_
          exact ret_true hm q
        · replace hm := iten hm (bF hc)
          with_reducible refine x_next ?_
          rw [hnx2] at hm
          exact ⟨F4, _, _, hm, ((((s2.trans g4.ex).trans g5.ex).trans g6.ex).trans ex2), G15, rfl⟩
    · skip
      obtain ⟨F2, y11, y12, hm, s3, G16, rfl⟩ := hW
      have hm : (law_e4 r1 r3 r2 next1) () = some true := forK_n hm
      rw [law_e4] at hm
      with_reducible refine x_seq ?_
      with_reducible refine x_asg ?_
      with_reducible refine x_call ?_
      with_reducible refine x_cons ?_
      with_reducible refine x_call ?_
      with_reducible refine x_cons ?_
      with_reducible refine x_call ?_
      with_reducible refine x_cons ?_
      refine ⟨_, rfl, ?_⟩
      with_reducible refine x_cons ?_
      with_reducible refine x_c ?_
      obtain ⟨r8, hr8, hm⟩ := bindp hm
      refine ⟨_, _, _, (if r1 < 0 then -r1 else r1), (5 : Int), r8, rfl, G16.sub, (.int _), (.int _), hr8, fun N8 H11 v13 g12 d22  => ?_⟩
      have G17 := G16.step g12
      obtain rfl := int_of d22
      obtain ⟨r9, hr9, hm⟩ := bindp hm
      refine ⟨_, _, r8, r9, rfl, G17.sub, (.int _), hr9, fun N9 H12 v14 g13 d23  => ?_⟩
      have G18 := G17.step g13
      obtain ⟨a3, v15, v16, rfl, fa5, d24, d25⟩ := tup2_of d23
      obtain rfl := int_of d24
      obtain ⟨a4, us3, rfl, fa6, fr8⟩ := lst_of d25
      with_reducible refine x_cons ?_
      with_reducible refine x_call ?_
      with_reducible refine x_cons ?_
      refine ⟨_, rfl, ?_⟩
      with_reducible refine x_cons ?_
      with_reducible refine x_c ?_
      obtain ⟨r10, hr10, hm⟩ := bindp hm
      refine ⟨_, _, _, (if r1 < 0 then -r1 else r1), (6 : Int), r10, rfl, G18.sub, (.int _), (.int _), hr10, fun N10 H13 v17 g14 d26  => ?_⟩
      have G19 := G18.step g14
      obtain rfl := int_of d26
      obtain ⟨r11, hr11, hm⟩ := bindp hm
      refine ⟨_, _, _, r9, r10, r11, rfl, G19.sub, (mk_tup2 (g14.ex _ _ fa5) (.int _) (mk_lst (g14.ex _ _ fa6) (Rs_mono g14.ex fr8))), (.int _), hr11, fun N11 H14 v18 g15 d27  => ?_⟩
      have G20 := G19.step g15
      with_reducible refine x_gnE (σ' := ([some (.ref a0), some (.int t1), some (.int (if r1 < 0 then -r1 else r1)), some (.str r2), some (.int ((2 : Int) + (r3 % (15 : Int)))), y11, y12, some v18, y7, y8, y10] : L2.St)) (by with_unfolding_all rfl) ?_
      with_reducible refine x_seq ?_
      with_reducible refine x_asg ?_
      with_reducible refine x_cb ?_
      with_reducible refine x_cons ?_
      refine ⟨_, rfl, ?_⟩
      obtain ⟨c4, hm⟩ := guardp hm
      refine ⟨_, r11, _, rfl, G20.sub, (RD.mono (Sub.refl _) d27), c4, ?_⟩
      with_reducible refine x_gnE (σ' := ([some (.ref a0), some (.int t1), some (.int (if r1 < 0 then -r1 else r1)), some (.str r2), some (.int ((2 : Int) + (r3 % (15 : Int)))), y11, y12, some v18, some (.str (PyData.shown r11)), y8, y10] : L2.St)) (by with_unfolding_all rfl) ?_
      with_reducible refine x_seq ?_
      with_reducible refine x_if ?_
      with_reducible refine x_or ?_
      with_reducible refine x_test ?_
      with_reducible refine x_op ?_
      with_reducible refine x_call ?_
      with_reducible refine x_cons ?_
      with_reducible refine x_c ?_
      with_reducible refine x_cons ?_
      refine ⟨_, rfl, ?_⟩
      with_reducible refine x_cons ?_
      refine ⟨_, rfl, ?_⟩
      have d28 : R (α := PyData) (N11) (.int ((2 : Int) + (r3 % (15 : Int)))) (PyData.int ((2 : Int) + (r3 % (15 : Int)))) := (.int _)
      obtain ⟨r12, hr12, hm⟩ := bindp hm
      refine ⟨_, _, _, _, (2 : Int), (PyData.int ((2 : Int) + (r3 % (15 : Int)))), r11, r12, rfl, G20.sub, (.int _), (RD.mono (Sub.refl _) d28), (RD.mono (Sub.refl _) d27), hr12, fun N12 H15 v19 g16 d29  => ?_⟩
      have G21 := G20.step g16
      obtain ⟨a5, us4, rfl, fa7, fr9⟩ := lst_of d29
      with_reducible refine x_lst ?_
      with_reducible refine x_cons ?_
      with_reducible refine x_c ?_
      have d30 : R (α := PyData) (N12) (.bl true) (PyData.bool true) := (.bl _)
      with_reducible refine x_cons ?_
      with_reducible refine x_c ?_
      have d31 : R (α := PyData) (N12) (.str ("rule" : Str)) (PyData.str ("rule" : Str)) := (.str _)
      refine ⟨szle (show 2 ≤ 16777216 from by decide), fun p4 np4 => ?_⟩
      have fr10 : Rs (α := PyData) (N12) [(.bl true), (.str ("rule" : Str))] ([(PyData.bool true), (PyData.str ("rule" : Str))] : (List PyData)) := (Rs_cons (RD.mono (Sub.refl _) d30) (Rs_cons (RD.mono (Sub.refl _) d31) Rs_nil))
      have g17 := Gr.newO (o := .lst [(.bl true), (.str ("rule" : Str))]) G21.sub np4
      have o4 := Ow.new (us := [(.bl true), (.str ("rule" : Str))]) G21 np4
      have G22 := G21.step g17
      have d32 : R (α := PyData) (N12) (.ref a5) (PyData.list r12) := (R_anyL (mk_lst ((Sub.refl _) _ _ fa7) (Rs_mono (Sub.refl _) fr9)))
      obtain ⟨F5, G23, ex3, fa8, nf3⟩ := o4.frzE G22
      have fr11 := Rs_mono ex3 fr10
      have d33 : R (α := PyData) (F5) (.ref p4) (PyData.list ([(PyData.bool true), (PyData.str ("rule" : Str))] : (List PyData))) := (R_anyL (mk_lst ((Sub.refl _) _ _ fa8) (Rs_mono (Sub.refl _) fr11)))
      obtain ⟨c5, hm⟩ := guardp hm
      refine neA_use (a := (PyData.list r12)) (b := (PyData.list ([(PyData.bool true), (PyData.str ("rule" : Str))] : (List PyData)))) G23.sub (RD.mono ex3 d32) (RD.mono (Sub.refl _) d33) c5 ?_
      refine ⟨_, rfl, ?_⟩
      refine ifD (fun hc => ?_) (fun hc => ?_)
      · replace hm := itep hm hc
        refine iteT ?_
        with_reducible refine x_ret ?_
        with_reducible refine x_c ?_
        exact ret_true hm q
      · replace hm := iten hm (bF hc)
        with_reducible refine x_test ?_
        with_reducible refine x_op ?_
        with_reducible refine x_cb ?_
        with_reducible refine x_cons ?_
        refine ⟨_, rfl, ?_⟩
        obtain ⟨c6, hm⟩ := guardp hm
        refine ⟨_, r11, _, rfl, G23.sub, (RD.mono (g16.ex.trans ex3) d27), c6, ?_⟩
        refine ⟨_, rfl, ?_⟩
        refine neS_use ?_
        refine ⟨_, rfl, ?_⟩
        refine ifD (fun hc => ?_) (fun hc => ?_)
        · replace hm := itep hm hc
          with_reducible refine x_ret ?_
          with_reducible refine x_c ?_
          exact ret_true hm q
        · replace hm := iten hm (bF hc)
          with_reducible refine x_next ?_
          with_reducible refine x_seq ?_
          with_reducible refine x_asg ?_
          with_reducible refine x_op ?_
          with_reducible refine x_lst ?_
          with_reducible refine x_cons ?_
          with_reducible refine x_c ?_
          have d34 : R (α := PyData) (F5) .non PyData.none := .non
          with_reducible refine x_cons ?_
          with_reducible refine x_c ?_
          have d35 : R (α := PyData) (F5) (.int 0) (PyData.int (0 : Int)) := (.int _)
          with_reducible refine x_cons ?_
          with_reducible refine x_c ?_
          have d36 : R (α := PyData) (F5) (.int 1) (PyData.int (1 : Int)) := (.int _)
          with_reducible refine x_cons ?_
          with_reducible refine x_c ?_
          have d37 : R (α := PyData) (F5) (.int 17) (PyData.int (17 : Int)) := (.int _)
          with_reducible refine x_cons ?_
          with_reducible refine x_c ?_
          have d38 : R (α := PyData) (F5) (.bl true) (PyData.bool true) := (.bl _)
          with_reducible refine x_cons ?_
          with_reducible refine x_c ?_
          have d39 : R (α := PyData) (F5) (.str ("10" : Str)) (PyData.str ("10" : Str)) := (.str _)
          with_reducible refine x_cons ?_
          with_reducible refine x_lst ?_
          with_reducible refine x_cons ?_
          with_reducible refine x_c ?_
          refine ⟨szle (show 1 ≤ 16777216 from by decide), fun p5 np5 => ?_⟩
          have fr12 : Rs (α := Int) (F5) [(.int 10)] ([(10 : Int)] : (List Int)) := (Rs_cons (.int _) Rs_nil)
          have g18 := Gr.newO (o := .lst [(.int 10)]) G23.sub np5
          have o5 := Ow.new (us := [(.int 10)]) G23 np5
          have G24 := G23.step g18
          obtain ⟨F6, G25, ex4, fa9, nf4⟩ := o5.frzE G24
          have fr13 := Rs_mono ex4 fr12
          have d40 : R (α := PyData) (F6) (.ref p5) (PyData.list (([(10 : Int)] : (List Int)).map fun z => (PyData.int z))) := (mk_lst ((Sub.refl _) _ _ fa9) (Rs_mono (Sub.refl _) fr13))
          with_reducible refine x_cons ?_
          refine useEv (.int (-(2 : Int))) (by exact (Evl.ev_un Evl.ev_c Evl.ru_neg)) (fun H16 e2 => ?_)
          have g19 := gr_ex G25.sub e2
          have G26 := G25.step g19
          have d41 : R (α := PyData) (F6) (.int (-(2 : Int))) (PyData.int (-(2 : Int))) := (.int _)
          with_reducible refine x_cons ?_
          with_reducible refine x_op ?_
          refine ⟨_, _, rfl, rfl, ⟨by decide, by decide, by decide⟩, ?_⟩
          have d42 : R (α := PyData) (F6) (.int ((10 : Int) ^ (25 : Int).toNat)) (PyData.int ((10 : Int) ^ (25 : Int).toNat)) := (.int _)
          with_reducible refine x_cons ?_
          with_reducible refine x_tup ?_
          with_reducible refine x_cons ?_
          with_reducible refine x_c ?_
          have d43 : R (α := PyData) (F6) (.int 10) (PyData.int (10 : Int)) := (.int _)
          refine ⟨szle (show 1 ≤ 16777216 from by decide), fun p6 np6 => ?_⟩
          obtain ⟨F7, g20, fa10⟩ := Gr.newE (o := .tup [(.int 10)]) G26.sub np6
          have G27 := G26.step g20
          have d44 : R (α := PyData) (F7) (.ref p6) (PyData.tuple [(PyData.int (10 : Int))]) := .tup fa10 (.cons (RD.mono g20.ex d43) .nil)
          with_reducible refine x_cons ?_
          refine fun p7 np7 => ?_
          obtain ⟨F8, g21, fa11⟩ := Gr.newE (o := .dK []) G27.sub np7
          have G28 := G27.step g21
          have d45 : R (α := PyData) (F8) (.ref p7) (PyData.dict []) := .dic fa11 .nil
          refine ⟨szle (show 11 ≤ 16777216 from by decide), fun p8 np8 => ?_⟩
          have fr14 : Rs (α := PyData) (F8) [.non, (.int 0), (.int 1), (.int 17), (.bl true), (.str ("10" : Str)), (.ref p5), (.int (-(2 : Int))), (.int ((10 : Int) ^ (25 : Int).toNat)), (.ref p6), (.ref p7)] ([PyData.none, (PyData.int (0 : Int)), (PyData.int (1 : Int)), (PyData.int (17 : Int)), (PyData.bool true), (PyData.str ("10" : Str)), (PyData.list (([(10 : Int)] : (List Int)).map fun z => (PyData.int z))), (PyData.int (-(2 : Int))), (PyData.int ((10 : Int) ^ (25 : Int).toNat)), (PyData.tuple [(PyData.int (10 : Int))]), (PyData.dict [])] : (List PyData)) := (Rs_cons (RD.mono ((ex4.trans g20.ex).trans g21.ex) d34) (Rs_cons (RD.mono ((ex4.trans g20.ex).trans g21.ex) d35) (Rs_cons (RD.mono ((ex4.trans g20.ex).trans g21.ex) d36) (Rs_cons (RD.mono ((ex4.trans g20.ex).trans g21.ex) d37) (Rs_cons (RD.mono ((ex4.trans g20.ex).trans g21.ex) d38) (Rs_cons (RD.mono ((ex4.trans g20.ex).trans g21.ex) d39) (Rs_cons (RD.mono (g20.ex.trans g21.ex) d40) (Rs_cons (RD.mono (g20.ex.trans g21.ex) d41) (Rs_cons (RD.mono (g20.ex.trans g21.ex) d42) (Rs_cons (RD.mono g21.ex d44) (Rs_cons (RD.mono (Sub.refl _) d45) Rs_nil)))))))))))
          have g22 := Gr.newO (o := .lst [.non, (.int 0), (.int 1), (.int 17), (.bl true), (.str ("10" : Str)), (.ref p5), (.int (-(2 : Int))), (.int ((10 : Int) ^ (25 : Int).toNat)), (.ref p6), (.ref p7)]) G28.sub np8
          have o6 := Ow.new (us := [.non, (.int 0), (.int 1), (.int 17), (.bl true), (.str ("10" : Str)), (.ref p5), (.int (-(2 : Int))), (.int ((10 : Int) ^ (25 : Int).toNat)), (.ref p6), (.ref p7)]) G28 np8
          have G29 := G28.step g22
          with_reducible refine x_op ?_
          with_reducible refine x_call ?_
          with_reducible refine x_cons ?_
          refine ⟨_, rfl, ?_⟩
          with_reducible refine x_cons ?_
          with_reducible refine x_c ?_
          obtain ⟨r13, hr13, hm⟩ := bindp hm
          refine ⟨_, _, _, (if r1 < 0 then -r1 else r1), (7 : Int), r13, rfl, G29.sub, (.int _), (.int _), hr13, fun N13 H17 v20 g23 d46  => ?_⟩
          have G30 := G29.step g23
          have o7 := o6.step g23
          obtain rfl := int_of d46
          with_reducible refine x_c ?_
          refine ⟨_, _, rfl, rfl, (show (0 : Int) < (11 : Int) from by decide), ?_⟩
          obtain ⟨x5, hx5, hm⟩ := bindp hm
          obtain ⟨v21, hu4, d47⟩ := Rs_at (Rs_mono g23.ex fr14) hx5
          refine ⟨_, _, _, _, rfl, rfl, .inl (.inl o7.at_), hu4, ?_⟩
          with_reducible refine x_gnE (σ' := ([some (.ref a0), some (.int t1), some (.int (if r1 < 0 then -r1 else r1)), some (.str r2), some (.int ((2 : Int) + (r3 % (15 : Int)))), y11, y12, some v18, some (.str (PyData.shown r11)), some v21, y10] : L2.St)) (by with_unfolding_all rfl) ?_
          with_reducible refine x_seq ?_
          with_reducible refine x_if ?_
          with_reducible refine x_or ?_
          with_reducible refine x_test ?_
          with_reducible refine x_op ?_
          with_reducible refine x_call ?_
          with_reducible refine x_cons ?_
          with_reducible refine x_c ?_
          with_reducible refine x_cons ?_
          refine ⟨_, rfl, ?_⟩
          with_reducible refine x_cons ?_
          refine ⟨_, rfl, ?_⟩
          have d48 : R (α := PyData) (N13) (.str r2) (PyData.str r2) := (.str _)
          obtain ⟨r14, hr14, hm⟩ := bindp hm
          refine ⟨_, _, _, _, (1 : Int), x5, (PyData.str r2), r14, rfl, G30.sub, (.int _), (RD.mono (Sub.refl _) d47), (RD.mono (Sub.refl _) d48), hr14, fun N14 H18 v22 g24 d49  => ?_⟩
          have G31 := G30.step g24
          obtain ⟨a6, us5, rfl, fa12, fr15⟩ := lst_of d49
          with_reducible refine x_lst ?_
          with_reducible refine x_cons ?_
          with_reducible refine x_c ?_
          have d50 : R (α := PyData) (N14) (.bl true) (PyData.bool true) := (.bl _)
          with_reducible refine x_cons ?_
          with_reducible refine x_c ?_
          have d51 : R (α := PyData) (N14) (.str ("base" : Str)) (PyData.str ("base" : Str)) := (.str _)
          refine ⟨szle (show 2 ≤ 16777216 from by decide), fun p9 np9 => ?_⟩
          have fr16 : Rs (α := PyData) (N14) [(.bl true), (.str ("base" : Str))] ([(PyData.bool true), (PyData.str ("base" : Str))] : (List PyData)) := (Rs_cons (RD.mono (Sub.refl _) d50) (Rs_cons (RD.mono (Sub.refl _) d51) Rs_nil))
          have g25 := Gr.newO (o := .lst [(.bl true), (.str ("base" : Str))]) G31.sub np9
          have o8 := Ow.new (us := [(.bl true), (.str ("base" : Str))]) G31 np9
          have G32 := G31.step g25
          have d52 : R (α := PyData) (N14) (.ref a6) (PyData.list r14) := (R_anyL (mk_lst ((Sub.refl _) _ _ fa12) (Rs_mono (Sub.refl _) fr15)))
          obtain ⟨F9, G33, ex5, fa13, nf5⟩ := o8.frzE G32
          have fr17 := Rs_mono ex5 fr16
          have d53 : R (α := PyData) (F9) (.ref p9) (PyData.list ([(PyData.bool true), (PyData.str ("base" : Str))] : (List PyData))) := (R_anyL (mk_lst ((Sub.refl _) _ _ fa13) (Rs_mono (Sub.refl _) fr17)))
          obtain ⟨c7, hm⟩ := guardp hm
          refine neA_use (a := (PyData.list r14)) (b := (PyData.list ([(PyData.bool true), (PyData.str ("base" : Str))] : (List PyData)))) G33.sub (RD.mono ex5 d52) (RD.mono (Sub.refl _) d53) c7 ?_
          refine ⟨_, rfl, ?_⟩
          refine ifD (fun hc => ?_) (fun hc => ?_)
          · replace hm := itep hm hc
            refine iteT ?_
            with_reducible refine x_ret ?_
            with_reducible refine x_c ?_
            exact ret_true hm q
          · replace hm := iten hm (bF hc)
            with_reducible refine x_test ?_
            with_reducible refine x_op ?_
            with_reducible refine x_call ?_
            with_reducible refine x_cons ?_
            with_reducible refine x_c ?_
            with_reducible refine x_cons ?_
            refine ⟨_, rfl, ?_⟩
            with_reducible refine x_cons ?_
            with_reducible refine x_c ?_
            have d54 : R (α := PyData) (F9) (.int 5) (PyData.int (5 : Int)) := (.int _)
            obtain ⟨r15, hr15, hm⟩ := bindp hm
            refine ⟨_, _, _, _, (3 : Int), x5, (PyData.int (5 : Int)), r15, rfl, G33.sub, (.int _), (RD.mono (g24.ex.trans ex5) d47), (RD.mono (Sub.refl _) d54), hr15, fun N15 H19 v23 g26 d55  => ?_⟩
            have G34 := G33.step g26
            obtain ⟨a7, us6, rfl, fa14, fr18⟩ := lst_of d55
            with_reducible refine x_lst ?_
            with_reducible refine x_cons ?_
            with_reducible refine x_c ?_
            have d56 : R (α := PyData) (N15) (.bl true) (PyData.bool true) := (.bl _)
            with_reducible refine x_cons ?_
            with_reducible refine x_c ?_
            have d57 : R (α := PyData) (N15) (.str ("base" : Str)) (PyData.str ("base" : Str)) := (.str _)
            refine ⟨szle (show 2 ≤ 16777216 from by decide), fun p10 np10 => ?_⟩
            have fr19 : Rs (α := PyData) (N15) [(.bl true), (.str ("base" : Str))] ([(PyData.bool true), (PyData.str ("base" : Str))] : (List PyData)) := (Rs_cons (RD.mono (Sub.refl _) d56) (Rs_cons (RD.mono (Sub.refl _) d57) Rs_nil))
            have g27 := Gr.newO (o := .lst [(.bl true), (.str ("base" : Str))]) G34.sub np10
            have o9 := Ow.new (us := [(.bl true), (.str ("base" : Str))]) G34 np10
            have G35 := G34.step g27
            have d58 : R (α := PyData) (N15) (.ref a7) (PyData.list r15) := (R_anyL (mk_lst ((Sub.refl _) _ _ fa14) (Rs_mono (Sub.refl _) fr18)))
            obtain ⟨F10, G36, ex6, fa15, nf6⟩ := o9.frzE G35
            have fr20 := Rs_mono ex6 fr19
            have d59 : R (α := PyData) (F10) (.ref p10) (PyData.list ([(PyData.bool true), (PyData.str ("base" : Str))] : (List PyData))) := (R_anyL (mk_lst ((Sub.refl _) _ _ fa15) (Rs_mono (Sub.refl _) fr20)))
            obtain ⟨c8, hm⟩ := guardp hm
            refine neA_use (a := (PyData.list r15)) (b := (PyData.list ([(PyData.bool true), (PyData.str ("base" : Str))] : (List PyData)))) G36.sub (RD.mono ex6 d58) (RD.mono (Sub.refl _) d59) c8 ?_
            refine ⟨_, rfl, ?_⟩
            refine ifD (fun hc => ?_) (fun hc => ?_)
            · replace hm := itep hm hc
              with_reducible refine x_ret ?_
              with_reducible refine x_c ?_
              exact ret_true hm q
            · replace hm := iten hm (bF hc)
              with_reducible refine x_next ?_
              with_reducible refine x_seq ?_
              with_reducible refine x_asg ?_
              with_reducible refine x_op ?_
              with_reducible refine x_lst ?_
              with_reducible refine x_cons ?_
              with_reducible refine x_c ?_
              have d60 : R (α := PyData) (F10) .non PyData.none := .non
              with_reducible refine x_cons ?_
              refine useEv (.int (-(1 : Int))) (by exact (Evl.ev_un Evl.ev_c Evl.ru_neg)) (fun H20 e3 => ?_)
              have g28 := gr_ex G36.sub e3
              have G37 := G36.step g28
              have d61 : R (α := PyData) (F10) (.int (-(1 : Int))) (PyData.int (-(1 : Int))) := (.int _)
              with_reducible refine x_cons ?_
              with_reducible refine x_c ?_
              have d62 : R (α := PyData) (F10) (.bl true) (PyData.bool true) := (.bl _)
              with_reducible refine x_cons ?_
              with_reducible refine x_c ?_
              have d63 : R (α := PyData) (F10) (.str ("5" : Str)) (PyData.str ("5" : Str)) := (.str _)
              with_reducible refine x_cons ?_
              with_reducible refine x_lst ?_
              with_reducible refine x_cons ?_
              with_reducible refine x_c ?_
              refine ⟨szle (show 1 ≤ 16777216 from by decide), fun p11 np11 => ?_⟩
              have fr21 : Rs (α := Int) (F10) [(.int 5)] ([(5 : Int)] : (List Int)) := (Rs_cons (.int _) Rs_nil)
              have g29 := Gr.newO (o := .lst [(.int 5)]) G37.sub np11
              have o10 := Ow.new (us := [(.int 5)]) G37 np11
              have G38 := G37.step g29
              obtain ⟨F11, G39, ex7, fa16, nf7⟩ := o10.frzE G38
              have fr22 := Rs_mono ex7 fr21
              have d64 : R (α := PyData) (F11) (.ref p11) (PyData.list (([(5 : Int)] : (List Int)).map fun z => (PyData.int z))) := (mk_lst ((Sub.refl _) _ _ fa16) (Rs_mono (Sub.refl _) fr22))
              with_reducible refine x_cons ?_
              with_reducible refine x_tup ?_
              with_reducible refine x_cons ?_
              with_reducible refine x_c ?_
              have d65 : R (α := PyData) (F11) (.int 5) (PyData.int (5 : Int)) := (.int _)
              refine ⟨szle (show 1 ≤ 16777216 from by decide), fun p12 np12 => ?_⟩
              obtain ⟨F12, g30, fa17⟩ := Gr.newE (o := .tup [(.int 5)]) G39.sub np12
              have G40 := G39.step g30
              have d66 : R (α := PyData) (F12) (.ref p12) (PyData.tuple [(PyData.int (5 : Int))]) := .tup fa17 (.cons (RD.mono g30.ex d65) .nil)
              with_reducible refine x_cons ?_
              refine fun p13 np13 => ?_
              obtain ⟨F13, g31, fa18⟩ := Gr.newE (o := .dK []) G40.sub np13
              have G41 := G40.step g31
              have d67 : R (α := PyData) (F13) (.ref p13) (PyData.dict []) := .dic fa18 .nil
              with_reducible refine x_cons ?_
              with_reducible refine x_un ?_
              with_reducible refine x_op ?_
              refine ⟨_, _, rfl, rfl, ⟨by decide, by decide, by decide⟩, ?_⟩
              refine ⟨_, rfl, ?_⟩
              have d68 : R (α := PyData) (F13) (.int (-((10 : Int) ^ (25 : Int).toNat))) (PyData.int (-((10 : Int) ^ (25 : Int).toNat))) := (.int _)
              with_reducible refine x_cons ?_
              with_reducible refine x_c ?_
              have d69 : R (α := PyData) (F13) (.bl false) (PyData.bool false) := (.bl _)
              refine ⟨szle (show 9 ≤ 16777216 from by decide), fun p14 np14 => ?_⟩
              have fr23 : Rs (α := PyData) (F13) [.non, (.int (-(1 : Int))), (.bl true), (.str ("5" : Str)), (.ref p11), (.ref p12), (.ref p13), (.int (-((10 : Int) ^ (25 : Int).toNat))), (.bl false)] ([PyData.none, (PyData.int (-(1 : Int))), (PyData.bool true), (PyData.str ("5" : Str)), (PyData.list (([(5 : Int)] : (List Int)).map fun z => (PyData.int z))), (PyData.tuple [(PyData.int (5 : Int))]), (PyData.dict []), (PyData.int (-((10 : Int) ^ (25 : Int).toNat))), (PyData.bool false)] : (List PyData)) := (Rs_cons (RD.mono ((ex7.trans g30.ex).trans g31.ex) d60) (Rs_cons (RD.mono ((ex7.trans g30.ex).trans g31.ex) d61) (Rs_cons (RD.mono ((ex7.trans g30.ex).trans g31.ex) d62) (Rs_cons (RD.mono ((ex7.trans g30.ex).trans g31.ex) d63) (Rs_cons (RD.mono (g30.ex.trans g31.ex) d64) (Rs_cons (RD.mono g31.ex d66) (Rs_cons (RD.mono (Sub.refl _) d67) (Rs_cons (RD.mono (Sub.refl _) d68) (Rs_cons (RD.mono (Sub.refl _) d69) Rs_nil)))))))))
              have g32 := Gr.newO (o := .lst [.non, (.int (-(1 : Int))), (.bl true), (.str ("5" : Str)), (.ref p11), (.ref p12), (.ref p13), (.int (-((10 : Int) ^ (25 : Int).toNat))), (.bl false)]) G41.sub np14
              have o11 := Ow.new (us := [.non, (.int (-(1 : Int))), (.bl true), (.str ("5" : Str)), (.ref p11), (.ref p12), (.ref p13), (.int (-((10 : Int) ^ (25 : Int).toNat))), (.bl false)]) G41 np14
              have G42 := G41.step g32
              with_reducible refine x_op ?_
              with_reducible refine x_call ?_
              with_reducible refine x_cons ?_
              refine ⟨_, rfl, ?_⟩
              with_reducible refine x_cons ?_
              with_reducible refine x_c ?_
              obtain ⟨r16, hr16, hm⟩ := bindp hm
              refine ⟨_, _, _, (if r1 < 0 then -r1 else r1), (8 : Int), r16, rfl, G42.sub, (.int _), (.int _), hr16, fun N16 H21 v24 g33 d70  => ?_⟩
              have G43 := G42.step g33
              have o12 := o11.step g33
              obtain rfl := int_of d70
              with_reducible refine x_c ?_
              refine ⟨_, _, rfl, rfl, (show (0 : Int) < (9 : Int) from by decide), ?_⟩
              obtain ⟨x6, hx6, hm⟩ := bindp hm
              obtain ⟨v25, hu5, d71⟩ := Rs_at (Rs_mono g33.ex fr23) hx6
              refine ⟨_, _, _, _, rfl, rfl, .inl (.inl o12.at_), hu5, ?_⟩
              with_reducible refine x_gnE (σ' := ([some (.ref a0), some (.int t1), some (.int (if r1 < 0 then -r1 else r1)), some (.str r2), some (.int ((2 : Int) + (r3 % (15 : Int)))), y11, y12, some v18, some (.str (PyData.shown r11)), some v21, some v25] : L2.St)) (by with_unfolding_all rfl) ?_
              with_reducible refine x_seq ?_
              with_reducible refine x_if ?_
              with_reducible refine x_test ?_
              with_reducible refine x_op ?_
              with_reducible refine x_call ?_
              with_reducible refine x_cons ?_
              with_reducible refine x_c ?_
              with_reducible refine x_cons ?_
              refine ⟨_, rfl, ?_⟩
              with_reducible refine x_cons ?_
              refine ⟨_, rfl, ?_⟩
              have d72 : R (α := PyData) (N16) (.int ((2 : Int) + (r3 % (15 : Int)))) (PyData.int ((2 : Int) + (r3 % (15 : Int)))) := (.int _)
              obtain ⟨r17, hr17, hm⟩ := bindp hm
              refine ⟨_, _, _, _, (3 : Int), (PyData.int ((2 : Int) + (r3 % (15 : Int)))), x6, r17, rfl, G43.sub, (.int _), (RD.mono (Sub.refl _) d72), (RD.mono (Sub.refl _) d71), hr17, fun N17 H22 v26 g34 d73  => ?_⟩
              have G44 := G43.step g34
              obtain ⟨a8, us7, rfl, fa19, fr24⟩ := lst_of d73
              with_reducible refine x_lst ?_
              with_reducible refine x_cons ?_
              with_reducible refine x_c ?_
              have d74 : R (α := PyData) (N17) (.bl true) (PyData.bool true) := (.bl _)
              with_reducible refine x_cons ?_
              with_reducible refine x_c ?_
              have d75 : R (α := PyData) (N17) (.str ("number" : Str)) (PyData.str ("number" : Str)) := (.str _)
              refine ⟨szle (show 2 ≤ 16777216 from by decide), fun p15 np15 => ?_⟩
              have fr25 : Rs (α := PyData) (N17) [(.bl true), (.str ("number" : Str))] ([(PyData.bool true), (PyData.str ("number" : Str))] : (List PyData)) := (Rs_cons (RD.mono (Sub.refl _) d74) (Rs_cons (RD.mono (Sub.refl _) d75) Rs_nil))
              have g35 := Gr.newO (o := .lst [(.bl true), (.str ("number" : Str))]) G44.sub np15
              have o13 := Ow.new (us := [(.bl true), (.str ("number" : Str))]) G44 np15
              have G45 := G44.step g35
              have d76 : R (α := PyData) (N17) (.ref a8) (PyData.list r17) := (R_anyL (mk_lst ((Sub.refl _) _ _ fa19) (Rs_mono (Sub.refl _) fr24)))
              obtain ⟨F14, G46, ex8, fa20, nf8⟩ := o13.frzE G45
              have fr26 := Rs_mono ex8 fr25
              have d77 : R (α := PyData) (F14) (.ref p15) (PyData.list ([(PyData.bool true), (PyData.str ("number" : Str))] : (List PyData))) := (R_anyL (mk_lst ((Sub.refl _) _ _ fa20) (Rs_mono (Sub.refl _) fr26)))
              obtain ⟨c9, hm⟩ := guardp hm
              refine neA_use (a := (PyData.list r17)) (b := (PyData.list ([(PyData.bool true), (PyData.str ("number" : Str))] : (List PyData)))) G46.sub (RD.mono ex8 d76) (RD.mono (Sub.refl _) d77) c9 ?_
              refine ⟨_, rfl, ?_⟩
              refine ifD (fun hc => ?_) (fun hc => ?_)
              · replace hm := itep hm hc
                with_reducible refine x_ret ?_
                with_reducible refine x_c ?_
                exact ret_true hm q
              · replace hm := iten hm (bF hc)
                with_reducible refine x_next ?_
                with_reducible refine x_if ?_
                with_reducible refine x_test ?_
                with_reducible refine x_op ?_
                with_reducible refine x_call ?_
                with_reducible refine x_cons ?_
                with_reducible refine x_c ?_
                with_reducible refine x_cons ?_
                refine ⟨_, rfl, ?_⟩
                with_reducible refine x_cons ?_
                refine ⟨_, rfl, ?_⟩
                obtain ⟨r18, hr18, hm⟩ := bindp hm
                refine ⟨_, _, _, _, (3 : Int), x5, x6, r18, rfl, G46.sub, (.int _), (RD.mono (((((((((g24.ex.trans ex5).trans g26.ex).trans ex6).trans ex7).trans g30.ex).trans g31.ex).trans g33.ex).trans g34.ex).trans ex8) d47), (RD.mono (g34.ex.trans ex8) d71), hr18, fun N18 H23 v27 g36 d78  => ?_⟩
                have G47 := G46.step g36
                obtain ⟨a9, us8, rfl, fa21, fr27⟩ := lst_of d78
                with_reducible refine x_lst ?_
                with_reducible refine x_cons ?_
                with_reducible refine x_c ?_
                have d79 : R (α := PyData) (N18) (.bl true) (PyData.bool true) := (.bl _)
                with_reducible refine x_cons ?_
                with_reducible refine x_c ?_
                have d80 : R (α := PyData) (N18) (.str ("base" : Str)) (PyData.str ("base" : Str)) := (.str _)
                refine ⟨szle (show 2 ≤ 16777216 from by decide), fun p16 np16 => ?_⟩
                have fr28 : Rs (α := PyData) (N18) [(.bl true), (.str ("base" : Str))] ([(PyData.bool true), (PyData.str ("base" : Str))] : (List PyData)) := (Rs_cons (RD.mono (Sub.refl _) d79) (Rs_cons (RD.mono (Sub.refl _) d80) Rs_nil))
                have g37 := Gr.newO (o := .lst [(.bl true), (.str ("base" : Str))]) G47.sub np16
                have o14 := Ow.new (us := [(.bl true), (.str ("base" : Str))]) G47 np16
                have G48 := G47.step g37
                have d81 : R (α := PyData) (N18) (.ref a9) (PyData.list r18) := (R_anyL (mk_lst ((Sub.refl _) _ _ fa21) (Rs_mono (Sub.refl _) fr27)))
                obtain ⟨F15, G49, ex9, fa22, nf9⟩ := o14.frzE G48
                have fr29 := Rs_mono ex9 fr28
                have d82 : R (α := PyData) (F15) (.ref p16) (PyData.list ([(PyData.bool true), (PyData.str ("base" : Str))] : (List PyData))) := (R_anyL (mk_lst ((Sub.refl _) _ _ fa22) (Rs_mono (Sub.refl _) fr29)))
                obtain ⟨c10, hm⟩ := guardp hm
                refine neA_use (a := (PyData.list r18)) (b := (PyData.list ([(PyData.bool true), (PyData.str ("base" : Str))] : (List PyData)))) G49.sub (RD.mono ex9 d81) (RD.mono (Sub.refl _) d82) c10 ?_
                refine ⟨_, rfl, ?_⟩
                refine ifD (fun hc => ?_) (fun hc => ?_)
                · replace hm := itep hm hc
                  with_reducible refine x_ret ?_
                  with_reducible refine x_c ?_
                  exact ret_true hm q
                · replace hm := iten hm (bF hc)
                  with_reducible refine x_next ?_
                  rw [hnx1] at hm
                  exact ⟨F15, _, _, _, _, _, _, _, _, _, _, hm, ((((((((((((((((((((((((((s1.trans g1.ex).trans g2.ex).trans g3.ex).trans s3).trans g12.ex).trans g13.ex).trans g14.ex).trans g15.ex).trans g16.ex).trans ex3).trans ex4).trans g20.ex).trans g21.ex).trans g23.ex).trans g24.ex).trans ex5).trans g26.ex).trans ex6).trans ex7).trans g30.ex).trans g31.ex).trans g33.ex).trans g34.ex).trans ex8).trans g36.ex).trans ex9), G49, rfl⟩
  · skip
    obtain ⟨F1, y1, y2, y3, y4, y5, y6, y7, y8, y9, y10, hm, s4, G50, rfl⟩ := hW
    have hm : (law_e2) () = some true := forK_n hm
    rw [law_e2] at hm
    with_reducible refine x_seq ?_
    with_reducible refine x_for ?_
    with_reducible refine x_iter ?_
    with_reducible refine x_lst ?_
    with_reducible refine x_cons ?_
    with_reducible refine x_c ?_
    have d83 : R (α := PyData) (F1) .non PyData.none := .non
    with_reducible refine x_cons ?_
    with_reducible refine x_c ?_
    have d84 : R (α := PyData) (F1) (.int 0) (PyData.int (0 : Int)) := (.int _)
    with_reducible refine x_cons ?_
    with_reducible refine x_lst ?_
    with_reducible refine x_cons ?_
    with_reducible refine x_c ?_
    refine ⟨szle (show 1 ≤ 16777216 from by decide), fun p17 np17 => ?_⟩
    have fr30 : Rs (α := Str) (F1) [(.str ("10" : Str))] ([("10" : Str)] : (List Str)) := (Rs_cons (.str _) Rs_nil)
    have g38 := Gr.newO (o := .lst [(.str ("10" : Str))]) G50.sub np17
    have o15 := Ow.new (us := [(.str ("10" : Str))]) G50 np17
    have G51 := G50.step g38
    obtain ⟨F16, G52, ex10, fa23, nf10⟩ := o15.frzE G51
    have fr31 := Rs_mono ex10 fr30
    have d85 : R (α := PyData) (F16) (.ref p17) (PyData.list (([("10" : Str)] : (List Str)).map fun z => (PyData.str z))) := (mk_lst ((Sub.refl _) _ _ fa23) (Rs_mono (Sub.refl _) fr31))
    with_reducible refine x_cons ?_
    with_reducible refine x_tup ?_
    with_reducible refine x_cons ?_
    with_reducible refine x_c ?_
    with_reducible refine x_cons ?_
    with_reducible refine x_lst ?_
    refine ⟨szle (show 0 ≤ 16777216 from by decide), fun p18 np18 => ?_⟩
    have fr32 : Rs (α := PyData) (F16) [] ([] : (List PyData)) := Rs_nil
    have g39 := Gr.newO (o := .lst []) G52.sub np18
    have o16 := Ow.new (us := []) G52 np18
    have G53 := G52.step g39
    obtain ⟨F17, G54, ex11, fa24, nf11⟩ := o16.frzE G53
    have fr33 := Rs_mono ex11 fr32
    refine ⟨szle (show 2 ≤ 16777216 from by decide), fun p19 np19 => ?_⟩
    obtain ⟨F18, g40, fa25⟩ := Gr.newE (o := .tup [(.int 10), (.ref p18)]) G54.sub np19
    have G55 := G54.step g40
    have d86 : R (α := PyData) (F18) (.ref p19) (PyData.tuple [(PyData.int (10 : Int)), (PyData.list ([] : (List PyData)))]) := (.tup ((Sub.refl _) _ _ fa25) (.cons (.int _) (.cons (R_anyL (mk_lst (g40.ex _ _ fa24) (Rs_mono g40.ex fr33))) .nil)))
    with_reducible refine x_cons ?_
    with_reducible refine x_c ?_
    have d87 : R (α := PyData) (F18) (.bl true) (PyData.bool true) := (.bl _)
    with_reducible refine x_cons ?_
    refine fun p20 np20 => ?_
    obtain ⟨F19, g41, fa26⟩ := Gr.newE (o := .dK []) G55.sub np20
    have G56 := G55.step g41
    have d88 : R (α := PyData) (F19) (.ref p20) (PyData.dict []) := .dic fa26 .nil
    with_reducible refine x_cons ?_
    with_reducible refine x_lst ?_
    with_reducible refine x_cons ?_
    with_reducible refine x_c ?_
    refine ⟨szle (show 1 ≤ 16777216 from by decide), fun p21 np21 => ?_⟩
    have fr34 : Rs (α := Int) (F19) [(.int 1)] ([(1 : Int)] : (List Int)) := (Rs_cons (.int _) Rs_nil)
    have g42 := Gr.newO (o := .lst [(.int 1)]) G56.sub np21
    have o17 := Ow.new (us := [(.int 1)]) G56 np21
    have G57 := G56.step g42
    obtain ⟨F20, G58, ex12, fa27, nf12⟩ := o17.frzE G57
    have fr35 := Rs_mono ex12 fr34
    have d89 : R (α := PyData) (F20) (.ref p21) (PyData.list (([(1 : Int)] : (List Int)).map fun z => (PyData.int z))) := (mk_lst ((Sub.refl _) _ _ fa27) (Rs_mono (Sub.refl _) fr35))
    refine ⟨szle (show 7 ≤ 16777216 from by decide), fun p22 np22 => ?_⟩
    have fr36 : Rs (α := PyData) (F20) [.non, (.int 0), (.ref p17), (.ref p19), (.bl true), (.ref p20), (.ref p21)] ([PyData.none, (PyData.int (0 : Int)), (PyData.list (([("10" : Str)] : (List Str)).map fun z => (PyData.str z))), (PyData.tuple [(PyData.int (10 : Int)), (PyData.list ([] : (List PyData)))]), (PyData.bool true), (PyData.dict []), (PyData.list (([(1 : Int)] : (List Int)).map fun z => (PyData.int z)))] : (List PyData)) := (Rs_cons (RD.mono ((((ex10.trans ex11).trans g40.ex).trans g41.ex).trans ex12) d83) (Rs_cons (RD.mono ((((ex10.trans ex11).trans g40.ex).trans g41.ex).trans ex12) d84) (Rs_cons (RD.mono (((ex11.trans g40.ex).trans g41.ex).trans ex12) d85) (Rs_cons (RD.mono (g41.ex.trans ex12) d86) (Rs_cons (RD.mono (g41.ex.trans ex12) d87) (Rs_cons (RD.mono ex12 d88) (Rs_cons (RD.mono (Sub.refl _) d89) Rs_nil)))))))
    have g43 := Gr.newO (o := .lst [.non, (.int 0), (.ref p17), (.ref p19), (.bl true), (.ref p20), (.ref p21)]) G58.sub np22
    have o18 := Ow.new (us := [.non, (.int 0), (.ref p17), (.ref p19), (.bl true), (.ref p20), (.ref p21)]) G58 np22
    have G59 := G58.step g43
    obtain ⟨F21, G60, ex13, fa28, nf13⟩ := o18.frzE G59
    have fr37 := Rs_mono ex13 fr36
    refine ⟨_, rfl, ⟨_, .inl (.inl (G60.sub _ _ fa28))⟩, ?_⟩
    refine for_lst (α := PyData) (fun (ts5 : List PyData) σ H24 => ∃ (F22 : Hp) (y13 : Option V), forK (law_b5) ts5 () (law_e6) = some true ∧ Sub (F21) F22 ∧ Gr NA F0 H F22 H24 ∧ σ = [some (.ref a0), y6, y4, y9, y3, y1, y5, y2, y7, y13, y10]) (Rs_mono (Sub.refl _) fr37) ⟨F21, _, hm, (Sub.refl _), G60, rfl⟩ (fun _ _ _ h => ?_) (fun t3 ts6 v28 σ H1 hv3 hW => ?_) (fun σ H1 hW => ?_)
    · obtain ⟨F22, y13, _, s9z, G9z, _⟩ := h
      exact G9z.sub _ _ (s9z _ _ ((Sub.refl _) _ _ fa28))
    · skip
      obtain ⟨F22, y13, hm, s5, G61, rfl⟩ := hW
      obtain ⟨next3, hnx3⟩ : ∃ nx, nx = fun s => forK (law_b5) ts6 s (law_e6) := ⟨_, rfl⟩
      have hm : (law_b5) () t3 next3 = some true := by rw [hnx3]; exact forK_c hm
      rw [law_b5] at hm
      with_reducible refine x_gnE (σ' := ([some (.ref a0), y6, y4, y9, y3, y1, y5, y2, y7, some v28, y10] : L2.St)) (by with_unfolding_all rfl) ?_
      with_reducible refine x_if ?_
      with_reducible refine x_or ?_
      with_reducible refine x_test ?_
      with_reducible refine x_op ?_
      with_reducible refine x_call ?_
      with_reducible refine x_cons ?_
      with_reducible refine x_c ?_
      with_reducible refine x_cons ?_
      with_reducible refine x_c ?_
      with_reducible refine x_cons ?_
      refine ⟨_, rfl, ?_⟩
      have d90 : R (α := PyData) (F22) (.int 10) (PyData.int (10 : Int)) := (.int _)
      obtain ⟨r19, hr19, hm⟩ := bindp hm
      refine ⟨_, _, _, _, (0 : Int), (PyData.int (10 : Int)), t3, r19, rfl, G61.sub, (.int _), (RD.mono (Sub.refl _) d90), (RD.mono s5 hv3), hr19, fun N19 H25 v29 g44 d91  => ?_⟩
      have G62 := G61.step g44
      obtain ⟨a10, us9, rfl, fa29, fr38⟩ := lst_of d91
      with_reducible refine x_lst ?_
      with_reducible refine x_cons ?_
      with_reducible refine x_c ?_
      have d92 : R (α := PyData) (N19) (.bl true) (PyData.bool true) := (.bl _)
      with_reducible refine x_cons ?_
      with_reducible refine x_c ?_
      have d93 : R (α := PyData) (N19) (.str ("text" : Str)) (PyData.str ("text" : Str)) := (.str _)
      refine ⟨szle (show 2 ≤ 16777216 from by decide), fun p23 np23 => ?_⟩
      have fr39 : Rs (α := PyData) (N19) [(.bl true), (.str ("text" : Str))] ([(PyData.bool true), (PyData.str ("text" : Str))] : (List PyData)) := (Rs_cons (RD.mono (Sub.refl _) d92) (Rs_cons (RD.mono (Sub.refl _) d93) Rs_nil))
      have g45 := Gr.newO (o := .lst [(.bl true), (.str ("text" : Str))]) G62.sub np23
      have o19 := Ow.new (us := [(.bl true), (.str ("text" : Str))]) G62 np23
      have G63 := G62.step g45
      have d94 : R (α := PyData) (N19) (.ref a10) (PyData.list r19) := (R_anyL (mk_lst ((Sub.refl _) _ _ fa29) (Rs_mono (Sub.refl _) fr38)))
      obtain ⟨F23, G64, ex14, fa30, nf14⟩ := o19.frzE G63
      have fr40 := Rs_mono ex14 fr39
      have d95 : R (α := PyData) (F23) (.ref p23) (PyData.list ([(PyData.bool true), (PyData.str ("text" : Str))] : (List PyData))) := (R_anyL (mk_lst ((Sub.refl _) _ _ fa30) (Rs_mono (Sub.refl _) fr40)))
      obtain ⟨c11, hm⟩ := guardp hm
      refine neA_use (a := (PyData.list r19)) (b := (PyData.list ([(PyData.bool true), (PyData.str ("text" : Str))] : (List PyData)))) G64.sub (RD.mono ex14 d94) (RD.mono (Sub.refl _) d95) c11 ?_
      refine ⟨_, rfl, ?_⟩
      refine ifD (fun hc => ?_) (fun hc => ?_)
      · replace hm := itep hm hc
        refine iteT ?_
        with_reducible refine x_ret ?_
        with_reducible refine x_c ?_
        exact ret_true hm q
      · replace hm := iten hm (bF hc)
        with_reducible refine x_test ?_
        with_reducible refine x_op ?_
        with_reducible refine x_call ?_
        with_reducible refine x_cons ?_
        with_reducible refine x_c ?_
        with_reducible refine x_cons ?_
        with_reducible refine x_c ?_
        with_reducible refine x_cons ?_
        refine ⟨_, rfl, ?_⟩
        have d96 : R (α := PyData) (F23) (.int 10) (PyData.int (10 : Int)) := (.int _)
        obtain ⟨r20, hr20, hm⟩ := bindp hm
        refine ⟨_, _, _, _, (1 : Int), (PyData.int (10 : Int)), t3, r20, rfl, G64.sub, (.int _), (RD.mono (Sub.refl _) d96), (RD.mono ((s5.trans g44.ex).trans ex14) hv3), hr20, fun N20 H26 v30 g46 d97  => ?_⟩
        have G65 := G64.step g46
        obtain ⟨a11, us10, rfl, fa31, fr41⟩ := lst_of d97
        with_reducible refine x_lst ?_
        with_reducible refine x_cons ?_
        with_reducible refine x_c ?_
        have d98 : R (α := PyData) (N20) (.bl true) (PyData.bool true) := (.bl _)
        with_reducible refine x_cons ?_
        with_reducible refine x_c ?_
        have d99 : R (α := PyData) (N20) (.str ("text" : Str)) (PyData.str ("text" : Str)) := (.str _)
        refine ⟨szle (show 2 ≤ 16777216 from by decide), fun p24 np24 => ?_⟩
        have fr42 : Rs (α := PyData) (N20) [(.bl true), (.str ("text" : Str))] ([(PyData.bool true), (PyData.str ("text" : Str))] : (List PyData)) := (Rs_cons (RD.mono (Sub.refl _) d98) (Rs_cons (RD.mono (Sub.refl _) d99) Rs_nil))
        have g47 := Gr.newO (o := .lst [(.bl true), (.str ("text" : Str))]) G65.sub np24
        have o20 := Ow.new (us := [(.bl true), (.str ("text" : Str))]) G65 np24
        have G66 := G65.step g47
        have d100 : R (α := PyData) (N20) (.ref a11) (PyData.list r20) := (R_anyL (mk_lst ((Sub.refl _) _ _ fa31) (Rs_mono (Sub.refl _) fr41)))
        obtain ⟨F24, G67, ex15, fa32, nf15⟩ := o20.frzE G66
        have fr43 := Rs_mono ex15 fr42
        have d101 : R (α := PyData) (F24) (.ref p24) (PyData.list ([(PyData.bool true), (PyData.str ("text" : Str))] : (List PyData))) := (R_anyL (mk_lst ((Sub.refl _) _ _ fa32) (Rs_mono (Sub.refl _) fr43)))
        obtain ⟨c12, hm⟩ := guardp hm
        refine neA_use (a := (PyData.list r20)) (b := (PyData.list ([(PyData.bool true), (PyData.str ("text" : Str))] : (List PyData)))) G67.sub (RD.mono ex15 d100) (RD.mono (Sub.refl _) d101) c12 ?_
        refine ⟨_, rfl, ?_⟩
        refine ifD (fun hc => ?_) (fun hc => ?_)
        · replace hm := itep hm hc
          with_reducible refine x_ret ?_
          with_reducible refine x_c ?_
          exact ret_true hm q
        · replace hm := iten hm (bF hc)
          with_reducible refine x_next ?_
          rw [hnx3] at hm
          exact ⟨F24, _, hm, ((((s5.trans g44.ex).trans ex14).trans g46.ex).trans ex15), G67, rfl⟩
    · skip
      obtain ⟨F22, y13, hm, s6, G68, rfl⟩ := hW
      have hm : (law_e6) () = some true := forK_n hm
      rw [law_e6] at hm
      with_reducible refine x_ret ?_
      with_reducible refine x_c ?_
      exact ret_true hm q

end

/-! ### mathematics, with no program in sight -/
section
/-- an answer is there, and it is so -/
def Ok {α : Type} (o : Option α) (Q : α → Prop) : Prop := ∃ x, o = some x ∧ Q x
variable {α β S ρ : Type} {Q : ρ → Prop}
theorem Ok.mk {x : α} {Q : α → Prop} (h : Q x) : Ok (some x) Q := ⟨x, rfl, h⟩
theorem Ok.bind {o : Option α} {f : α → Option ρ} {P : α → Prop} (h : Ok o P) (k : ∀ x, P x → Ok (f x) Q) : Ok (o.bind f) Q := by
  obtain ⟨x, rfl, p⟩ := h
  exact k x p
theorem Ok.mono {o : Option ρ} {P : ρ → Prop} (h : Ok o P) (k : ∀ x, P x → Q x) : Ok o Q := by
  obtain ⟨x, e, p⟩ := h
  exact ⟨x, e, k x p⟩
theorem Ok.guard {c : Prop} [Decidable c] {a : Option ρ} (hc : c) (h : Ok a Q) : Ok (if c then a else none) Q := by rw [if_pos hc]; exact h
theorem Ok.ite {c : Prop} [Decidable c] {a b : Option ρ} (h1 : c → Ok a Q) (h2 : ¬ c → Ok b Q) : Ok (if c then a else b) Q := by
  by_cases h : c
  · rw [if_pos h]; exact h1 h
  · rw [if_neg h]; exact h2 h
theorem Ok.eq {o : Option ρ} {x : ρ} (h : Ok o (· = x)) : o = some x := by
  obtain ⟨y, e, rfl⟩ := h
  exact e
theorem Ok.of {o : Option ρ} {x : ρ} (h : o = some x) (q : Q x) : Ok o Q := ⟨x, h, q⟩
theorem forK_ok {f : S → α → (S → Option ρ) → Option ρ} {K : S → Option ρ} {P : S → Prop} : ∀ {xs : List α} {s : S}, P s →
    (∀ s x next, x ∈ xs → P s → (∀ s', P s' → Ok (next s') Q) → Ok (f s x next) Q) → (∀ s, P s → Ok (K s) Q) → Ok (forK f xs s K) Q
  | [], s, h0, _, hK => hK s h0
  | x :: xs, s, h0, hs, hK => hs s x _ List.mem_cons_self h0 fun s' h' => forK_ok h' (fun s y next hy => hs s y next (List.mem_cons_of_mem _ hy)) hK
/-- with what has been gone through -/
theorem forK_okI {f : S → α → (S → Option ρ) → Option ρ} {K : S → Option ρ} {P : List α → S → Prop} {xs : List α} {s : S} (h0 : P [] s)
    (hs : ∀ pre x post s next, xs = pre ++ x :: post → P pre s → (∀ s', P (pre ++ [x]) s' → Ok (next s') Q) → Ok (f s x next) Q) (hK : ∀ s, P xs s → Ok (K s) Q) : Ok (forK f xs s K) Q := by
  have all : ∀ (post pre : List α) (s : S), xs = pre ++ post → P pre s → Ok (forK f post s K) Q := by
    intro post
    induction post with
    | nil => intro pre s e h; rw [List.append_nil] at e; subst e; exact hK s h
    | cons x post ih =>
      intro pre s e h
      exact hs pre x post s _ e h fun s' h' => ih (pre ++ [x]) s' (by rw [e, List.append_assoc]; rfl) h'
  exact all xs [] s rfl h0
theorem whileK_ok {f : S → (S → Option ρ) → Option ρ} {P : S → Prop} (μ : S → Nat) (h : ∀ s next, P s → (∀ s', P s' → μ s' < μ s → Ok (next s') Q) → Ok (f s next) Q) :
    ∀ (m : Nat) (s : S), P s → μ s < m → Ok (whileK f m s) Q
  | 0, _, _, hm => absurd hm (Nat.not_lt_zero _)
  | m + 1, s, hp, hm => h s _ hp fun s' hp' hl => whileK_ok μ h m s' hp' (Nat.lt_of_lt_of_le hl (Nat.le_of_lt_succ hm))
/-- a loop that leaves early or goes on -/
theorem forK_stop {f : S → α → (S → Option ρ) → Option ρ} {K : S → Option ρ} {p : α → Bool} {c : Option ρ} {s : S} (h : ∀ x next, f s x next = if p x = true then c else next s) : ∀ xs : List α, forK f xs s K = if xs.any p = true then c else K s
  | [] => rfl
  | x :: xs => by
    show f s x _ = _
    rw [h, forK_stop h xs, List.any_cons]
    cases p x <;> simp
theorem forK_fold {f : S → α → (S → Option ρ) → Option ρ} {K : S → Option ρ} {g : S → α → S} (h : ∀ s x next, f s x next = next (g s x)) : ∀ (xs : List α) (s : S), forK f xs s K = K (xs.foldl g s)
  | [], _ => rfl
  | x :: xs, s => by
    show f s x _ = _
    rw [h]; exact forK_fold h xs _
/-- a comprehension whose element and test are total -/
theorem forK_fm {f : List β → α → (List β → Option ρ) → Option ρ} {K : List β → Option ρ} {p : α → Bool} {g : α → β} {B : Nat} (h : ∀ acc x next, acc.length < B → f acc x next = if p x = true then next (acc ++ [g x]) else next acc) :
    ∀ (xs : List α) (acc : List β), acc.length + xs.length ≤ B → forK f xs acc K = K (acc ++ (xs.filter p).map g)
  | [], acc, _ => by rw [List.filter_nil, List.map_nil, List.append_nil]; rfl
  | x :: xs, acc, hB => by
    rw [List.length_cons] at hB
    show f acc x _ = _
    rw [h acc x _ (by omega), List.filter_cons]
    cases hp : p x with
    | true =>
      rw [if_pos rfl, if_pos rfl, List.map_cons]
      have := forK_fm (K := K) h xs (acc ++ [g x]) (by rw [List.length_append, List.length_singleton]; omega)
      rw [List.append_assoc] at this
      exact this
    | false =>
      rw [if_neg Bool.false_ne_true, if_neg Bool.false_ne_true]
      exact forK_fm h xs acc (by omega)
end
theorem irange_mem {lo hi x : Int} : x ∈ irange lo hi ↔ lo ≤ x ∧ x < hi := by
  unfold irange
  rw [List.mem_map]
  constructor
  · rintro ⟨i, hi', rfl⟩
    rw [List.mem_range] at hi'
    omega
  · intro h
    exact ⟨(x - lo).toNat, by rw [List.mem_range]; omega, by omega⟩
theorem sz_ok {n : Nat} (h : n < 100000) : n < 16777216 := by omega
theorem Mv_of {i j : Int} {a b : Nat} (ha : i.natAbs < 2 ^ a) (hb : j.natAbs < 2 ^ b) (h0 : 0 < a) (h1 : 0 < b) (h : a + b ≤ 1000000) : Mv i j := wide_mul ha hb h0 h1 h
theorem Dv_small {j : Int} (h : 0 < j) (h2 : j < 2 ^ 64) : Dv j := (wide_div (i := 0) (b := 64) h (by omega) (by decide) (by decide) : CDivW 0 j)
theorem Dv_of {j : Int} {b : Nat} (h : 0 < j) (h2 : j.natAbs < 2 ^ b) (h0 : 0 < b) (h9 : b ≤ 9000) : Dv j := (wide_div (i := 0) h h2 h0 h9 : CDivW 0 j)

/-! #### draws -/
def DkOk (st : DkS) : Prop := st.1 ≠ []
theorem mkDeck_ok (ns : List Int) : DkOk (mkDeck ns) := by
  unfold DkOk mkDeck
  have h : 1 ≤ deckLen ns := by unfold deckLen; omega
  intro e
  have := congrArg List.length e
  simp at this
  omega
theorem draw_ok {st : DkS} {many : Int} (h : DkOk st) (h0 : 0 < many) (h1 : many < 2 ^ 64) : Ok (_law_draw st many) fun p => (0 ≤ p.1 ∧ p.1 < many) ∧ DkOk p.2 := by
  unfold _law_draw
  refine Ok.guard (Dv_small h0 h1) ?_
  have hl : 0 < st.1.length := List.length_pos_iff.mpr h
  have e1 := Int.emod_nonneg st.2 (show (st.1.length : Int) ≠ 0 by omega)
  have e2 := Int.emod_lt_of_pos st.2 (show (0 : Int) < (st.1.length : Int) by omega)
  have hi : (st.2 % (st.1.length : Int)).toNat < st.1.length := by omega
  rw [List.getElem?_eq_getElem hi]
  show Ok (if _ then _ else _) _
  have ok2 : ∀ p : Int × Int × Int, DkOk (st.1.set (st.2 % (st.1.length : Int)).toNat p, st.2 + 1) := fun p e => by
    have := congrArg List.length e
    simp only [List.length_set, List.length_nil] at this
    omega
  refine Ok.ite (fun _ => ?_) (fun _ => ?_)
  · exact Ok.mk ⟨⟨Int.emod_nonneg _ (by omega), Int.emod_lt_of_pos _ h0⟩, ok2 _⟩
  · exact Ok.mk ⟨⟨Int.emod_nonneg _ (by omega), Int.emod_lt_of_pos _ h0⟩, ok2 _⟩

/-! #### figures of numbers -/
/-- how many binary places -/
def lg (n : Int) : Nat := if n ≤ 0 then 0 else Nat.log2 n.toNat + 1
theorem lg_le {n : Int} {k : Nat} (h : n < 2 ^ k) : lg n ≤ k := by
  unfold lg
  by_cases h0 : n ≤ 0
  · rw [if_pos h0]; exact Nat.zero_le _
  · rw [if_neg h0]
    have h1 : n.toNat < 2 ^ k := by
      have : ((2 ^ k : Nat) : Int) = 2 ^ k := by push_cast; rfl
      omega
    have := (Nat.log2_lt (n := n.toNat) (k := k) (by omega)).mpr h1
    omega
theorem lt_lg (n : Int) : n < 2 ^ lg n := by
  unfold lg
  by_cases h0 : n ≤ 0
  · rw [if_pos h0]; show n < 1; omega
  · rw [if_neg h0]
    have h1 := Nat.lt_log2_self (n := n.toNat)
    have : ((2 ^ (Nat.log2 n.toNat + 1) : Nat) : Int) = 2 ^ (Nat.log2 n.toNat + 1) := by push_cast; rfl
    omega
theorem lg_div {n b : Int} (hn : 0 < n) (hb : 2 ≤ b) : lg (n / b) < lg n := by
  have h1 := lt_lg n
  have hk : 0 < lg n := by unfold lg; rw [if_neg (by omega)]; omega
  obtain ⟨k, e⟩ : ∃ k, lg n = k + 1 := ⟨lg n - 1, by omega⟩
  rw [e] at h1 ⊢
  have h2 : n / b < 2 ^ k := by
    refine Int.ediv_lt_of_lt_mul (by omega) ?_
    have p : (0 : Int) ≤ 2 ^ k := Int.le_of_lt (Int.pow_pos (by decide))
    have := Int.mul_le_mul_of_nonneg_left hb p
    rw [Int.pow_succ] at h1
    omega
  have := lg_le h2
  omega

theorem ediv_lt_self {b n : Int} (hb : 2 ≤ b) (hn : 0 < n) : n / b < n := by
  refine Int.ediv_lt_of_lt_mul (by omega) ?_
  have := Int.mul_le_mul_of_nonneg_left hb (show 0 ≤ n by omega)
  omega
def digs (b n : Int) : List Int := if h : b < 2 ∨ n < b then [n] else digs b (n / b) ++ [n % b]
termination_by n.toNat
decreasing_by
  have h1 := ediv_lt_self (b := b) (n := n) (by omega) (by omega)
  have h2 : 0 ≤ n / b := Int.ediv_nonneg (by omega) (by omega)
  omega
theorem digs_lt {b n : Int} (h : n < b) : digs b n = [n] := by rw [digs, dif_pos (.inr h)]
theorem digs_ge {b n : Int} (hb : 2 ≤ b) (h : b ≤ n) : digs b n = digs b (n / b) ++ [n % b] := by rw [digs, dif_neg (by omega)]
theorem digs_step {b n : Int} (hb : 2 ≤ b) (hn : 0 ≤ n) : digs b n = (if 0 < n / b then digs b (n / b) else []) ++ [n % b] := by
  by_cases h : n < b
  · rw [digs_lt h, Int.ediv_eq_zero_of_lt hn h, Int.emod_eq_of_lt hn h]; rfl
  · have : 1 ≤ n / b := Int.le_ediv_of_mul_le (by omega) (by omega)
    rw [digs_ge hb (by omega), if_pos (show 0 < n / b by omega)]
/-- so many figures of n -/
def dp (b : Int) : Nat → Int → List Int
  | 0, _ => []
  | j + 1, n => (n / b ^ j) :: dp b j (n % b ^ j)
theorem emod_mul_ediv {n b c : Int} (hb : 0 < b) (hc : 0 < c) : (n % (b * c)) / b = (n / b) % c := by
  have h1 := Int.emod_add_mul_ediv n b
  have h2 := Int.emod_add_mul_ediv (n / b) c
  have r1 := Int.emod_nonneg n (show b ≠ 0 by omega)
  have r2 := Int.emod_lt_of_pos n hb
  have r3 := Int.emod_nonneg (n / b) (show c ≠ 0 by omega)
  have r4 := Int.emod_lt_of_pos (n / b) hc
  have e : n % (b * c) = n % b + b * ((n / b) % c) := by
    have := (Int.ediv_emod_unique (a := n) (b := b * c) (r := n % b + b * ((n / b) % c)) (q := n / b / c) (Int.mul_pos hb hc)).mpr ⟨by
      rw [Int.mul_assoc, Int.add_assoc, ← Int.mul_add, h2, h1], by
      have := Int.mul_nonneg (show (0 : Int) ≤ b by omega) r3
      omega, by
      have q1 : b * ((n / b) % c) ≤ b * (c - 1) := Int.mul_le_mul_of_nonneg_left (by omega) (by omega)
      rw [Int.mul_sub, Int.mul_one] at q1
      omega⟩
    exact this.2
  rw [e, Int.add_mul_ediv_left _ _ (by omega), Int.ediv_eq_zero_of_lt r1 r2, Int.zero_add]
theorem dp_snoc {b : Int} (hb : 0 < b) : ∀ (j : Nat) (n : Int), 0 ≤ n → n < b ^ (j + 1) → dp b (j + 1) n = dp b j (n / b) ++ [n % b]
  | 0, n, h0, h => by
    rw [Int.pow_succ, Int.pow_zero, Int.one_mul] at h
    show [n / b ^ 0] = [] ++ [n % b]
    rw [Int.pow_zero, Int.ediv_one, Int.emod_eq_of_lt h0 h]; rfl
  | j + 1, n, h0, h => by
    have hp : 0 < b ^ (j + 1) := Int.pow_pos hb
    show (n / b ^ (j + 1)) :: dp b (j + 1) (n % b ^ (j + 1)) = (n / b / b ^ j) :: dp b j (n / b % b ^ j) ++ [n % b]
    rw [dp_snoc hb j _ (Int.emod_nonneg _ (by omega)) (Int.emod_lt_of_pos _ hp), Int.pow_succ, Int.mul_comm (b ^ j) b, emod_mul_ediv hb (Int.pow_pos hb), Int.emod_emod_of_dvd n (Int.dvd_mul_right b (b ^ j)), Int.ediv_ediv_of_nonneg (by omega)]
    rfl
theorem dp_digs {b : Int} (hb : 2 ≤ b) : ∀ (j : Nat) (n : Int), 0 ≤ n → n < b ^ (j + 1) → (b ^ j ≤ n ∨ j = 0) → digs b n = dp b (j + 1) n
  | 0, n, h0, h, _ => by
    rw [Int.pow_succ, Int.pow_zero, Int.one_mul] at h
    rw [digs_lt h]
    show [n] = [n / b ^ 0]
    rw [Int.pow_zero, Int.ediv_one]
  | j + 1, n, h0, h, h1 => by
    have h2 : b ^ (j + 1) ≤ n := by rcases h1 with h | h; exact h; cases h
    have hbj : 0 < b ^ j := Int.pow_pos (by omega)
    have h3 : b ≤ n := by
      rw [Int.pow_succ] at h2
      have := Int.mul_le_mul_of_nonneg_right (show 1 ≤ b ^ j by omega) (show 0 ≤ b by omega)
      omega
    rw [digs_ge hb h3, dp_snoc (by omega) _ n h0 h, dp_digs hb j (n / b) (Int.ediv_nonneg h0 (by omega)) (Int.ediv_lt_of_lt_mul (by omega) (by rw [← Int.pow_succ]; exact h)) (.inl (Int.le_ediv_of_mul_le (by omega) (by rw [← Int.pow_succ]; exact h2)))]
theorem natAbs_lt {n : Int} {k : Nat} (h0 : 0 ≤ n) (h : n < 2 ^ k) : n.natAbs < 2 ^ k := by
  have : ((2 ^ k : Nat) : Int) = 2 ^ k := by push_cast; rfl
  omega
theorem pow_mono {b : Int} (hb : 1 ≤ b) {i j : Nat} (h : i ≤ j) : b ^ i ≤ b ^ j := by
  obtain ⟨k, rfl⟩ : ∃ k, j = i + k := ⟨j - i, by omega⟩
  induction k with
  | zero => exact Int.le_refl _
  | succ k ih =>
    have h1 := ih (by omega)
    have h2 : 0 < b ^ (i + k) := Int.pow_pos (by omega)
    rw [← Nat.add_assoc, Int.pow_succ]
    have := Int.mul_le_mul_of_nonneg_left hb (show 0 ≤ b ^ (i + k) by omega)
    omega
theorem one_lt_p {k : Nat} (h : k ≠ 0) : (1 : Int) < 2 ^ k := by
  have := Nat.one_lt_two_pow h
  have e : ((2 ^ k : Nat) : Int) = 2 ^ k := by push_cast; rfl
  omega

/-! #### the program's figures, and the laws' -/
theorem written_eq {b n : Int} (hb : 2 ≤ b) (hb2 : b < 2 ^ 64) (hn : 0 ≤ n) (hl : n < 2 ^ 8000) : written b n = some (digs b n) := by
  have dv : Dv b := Dv_small (by omega) hb2
  unfold written
  refine Ok.eq (Ok.guard dv (Ok.guard dv ?_))
  refine whileK_ok (P := fun s => 0 ≤ s.1 ∧ digs b n = (if 0 < s.1 then digs b s.1 else []) ++ s.2.reverse ∧ s.2.length + lg s.1 ≤ 8001) (fun s => lg s.1) (fun s next hP hN => ?_) _ _ ⟨Int.ediv_nonneg hn (by omega), ?_, ?_⟩ ?_
  · obtain ⟨x1, x2⟩ := s
    obtain ⟨p1, p2, p3⟩ := hP
    rw [written_w1]
    refine Ok.ite (fun hc => ?_) (fun hc => ?_)
    · have h1 : 0 < x1 := of_decide_eq_true hc
      have h2 := lg_div h1 hb
      refine Ok.guard dv (Ok.guard (by show x2.length < 16777216; have : x2.length + lg x1 ≤ 8001 := p3; omega) (Ok.guard dv (hN _ ⟨Int.ediv_nonneg p1 (by omega), ?_, ?_⟩ h2)))
      · rw [p2]
        show (if 0 < x1 then digs b x1 else []) ++ x2.reverse = _
        rw [if_pos h1, digs_step hb p1, List.reverse_append, List.append_assoc]
        rfl
      · show (x2 ++ [x1 % b]).length + lg (x1 / b) ≤ 8001
        have : x2.length + lg x1 ≤ 8001 := p3
        rw [List.length_append, List.length_singleton]
        omega
    · have h1 : ¬ 0 < x1 := fun h => hc (decide_eq_true h)
      refine Ok.mk ?_
      rw [p2]
      show _ = (if 0 < x1 then digs b x1 else []) ++ x2.reverse
      rw [if_neg h1]; rfl
  · exact digs_step hb hn
  · show 1 + lg (n / b) ≤ 8001
    have := lg_le (Int.lt_of_le_of_lt (Int.ediv_le_self b hn) hl)
    omega
  · show lg (n / b) < fuel
    have := lg_le (Int.lt_of_le_of_lt (Int.ediv_le_self b hn) hl)
    unfold fuel
    omega
theorem digs_lenF {b : Int} (hb : 2 ≤ b) : ∀ (k : Nat) (n : Int), 0 ≤ n → lg n ≤ k → (digs b n).length ≤ k + 1
  | 0, n, h0, h => by
    have h1 := lt_lg n
    have h2 : n < 2 ^ 0 := Int.lt_of_lt_of_le h1 (pow_mono (by decide) h)
    rw [Int.pow_zero] at h2
    rw [digs_lt (by omega)]; exact Nat.le_refl _
  | k + 1, n, h0, h => by
    by_cases hn : n < b
    · rw [digs_lt hn]; show 1 ≤ k + 1 + 1; omega
    · rw [digs_ge hb (by omega), List.length_append, List.length_singleton]
      have := lg_div (n := n) (by omega) hb
      have := digs_lenF hb k (n / b) (Int.ediv_nonneg h0 (by omega)) (by omega)
      omega
theorem digs_len {b n : Int} (hb : 2 ≤ b) (h0 : 0 ≤ n) (h : n < 2 ^ 8000) : (digs b n).length < 16777216 := by
  have := digs_lenF hb 8000 n h0 (lg_le h)
  omega
/-! #### parts of MathFig, MathRule, MathWorth that need no typed mirror -/
/-! #### lists of figures -/
def Figs (b : Int) (ds : List Int) : Prop := ∀ d ∈ ds, 0 ≤ d ∧ d < b
theorem Figs.nil {b : Int} : Figs b [] := fun d h => nomatch h
theorem Figs.app {b : Int} {x y : List Int} (h : Figs b x) (k : Figs b y) : Figs b (x ++ y) := fun d hd => (List.mem_append.mp hd).elim (h d) (k d)
theorem Figs.one {b d : Int} (h : 0 ≤ d ∧ d < b) : Figs b [d] := fun x hx => by rw [List.mem_singleton.mp hx]; exact h
theorem Figs.left {b : Int} {x y : List Int} (h : Figs b (x ++ y)) : Figs b x := fun d hd => h d (List.mem_append_left _ hd)
theorem Figs.right {b : Int} {x y : List Int} (h : Figs b (x ++ y)) : Figs b y := fun d hd => h d (List.mem_append_right _ hd)
/-- the number of a list of figures -/
def val (b : Int) (ds : List Int) : Int := ds.foldl (fun a d => a * b + d) 0
theorem val_snoc (b : Int) (ds : List Int) (d : Int) : val b (ds ++ [d]) = val b ds * b + d := by unfold val; rw [List.foldl_append]; rfl
theorem val_rev_bound {b : Int} (hb : 0 < b) : ∀ rs : List Int, Figs b rs → 0 ≤ val b rs.reverse ∧ val b rs.reverse < b ^ rs.length
  | [], _ => ⟨Int.le_refl _, by show (0 : Int) < b ^ 0; rw [Int.pow_zero]; decide⟩
  | d :: rs, h => by
    obtain ⟨i1, i2⟩ := val_rev_bound hb rs fun x hx => h x (List.mem_cons_of_mem _ hx)
    obtain ⟨d1, d2⟩ := h d List.mem_cons_self
    rw [List.reverse_cons, val_snoc, List.length_cons, Int.pow_succ]
    have m1 := Int.mul_nonneg i1 (Int.le_of_lt hb)
    have m2 := Int.mul_le_mul_of_nonneg_right (show val b rs.reverse ≤ b ^ rs.length - 1 by omega) (Int.le_of_lt hb)
    rw [Int.sub_mul, Int.one_mul] at m2
    omega
theorem Figs.rev {b : Int} {ds : List Int} (h : Figs b ds) : Figs b ds.reverse := fun x hx => h x (List.mem_reverse.mp hx)
theorem val_bound {b : Int} (hb : 0 < b) {ds : List Int} (h : Figs b ds) : 0 ≤ val b ds ∧ val b ds < b ^ ds.length := by
  have := val_rev_bound hb ds.reverse h.rev
  rw [List.reverse_reverse, List.length_reverse] at this
  exact this
theorem val_cons_rev (b d : Int) : ∀ rs : List Int, val b (d :: rs.reverse) = d * b ^ rs.length + val b rs.reverse
  | [] => by
    show 0 * b + d = d * b ^ 0 + 0
    rw [Int.pow_zero, Int.zero_mul, Int.mul_one, Int.zero_add, Int.add_zero]
  | e :: rs => by
    rw [List.reverse_cons, ← List.cons_append, val_snoc, val_cons_rev b d rs, val_snoc, List.length_cons, Int.pow_succ, Int.add_mul, Int.mul_assoc, Int.add_assoc]
theorem val_cons (b d : Int) (ds : List Int) : val b (d :: ds) = d * b ^ ds.length + val b ds := by
  have := val_cons_rev b d ds.reverse
  rw [List.reverse_reverse, List.length_reverse] at this
  exact this
theorem pow16 {b : Int} (h0 : 0 ≤ b) (h : b ≤ 16) : ∀ n : Nat, b ^ n ≤ 2 ^ (4 * n)
  | 0 => by rw [Int.pow_zero, Nat.mul_zero, Int.pow_zero]; exact Int.le_refl _
  | n + 1 => by
    have i := pow16 h0 h n
    have p : (0 : Int) ≤ 2 ^ (4 * n) := Int.le_of_lt (Int.pow_pos (by decide))
    rw [Int.pow_succ, show 4 * (n + 1) = 4 * n + 4 from rfl, Int.pow_add]
    exact Int.mul_le_mul i (by omega) h0 p
theorem pow2_le {b : Int} (h : 2 ≤ b) : ∀ n : Nat, (2 : Int) ^ n ≤ b ^ n
  | 0 => by rw [Int.pow_zero, Int.pow_zero]; exact Int.le_refl _
  | n + 1 => by
    rw [Int.pow_succ, Int.pow_succ]
    exact Int.mul_le_mul (pow2_le h n) h (by decide) (Int.le_of_lt (Int.pow_pos (by omega)))
theorem val_lt {b : Int} (hb : 2 ≤ b) (h2 : b ≤ 16) {ds : List Int} (h : Figs b ds) {n : Nat} (hl : ds.length ≤ n) : (val b ds).natAbs < 2 ^ (4 * n + 1) := by
  obtain ⟨v1, v2⟩ := val_bound (by omega) h
  have := pow16 (by omega) h2 ds.length
  refine natAbs_lt v1 ?_
  have p1 : (2 : Int) ^ (4 * ds.length) ≤ 2 ^ (4 * n + 1) := pow_mono (by decide) (by omega)
  omega
theorem atI0 {α : Type} (x : α) (xs : List α) : atI (x :: xs) 0 = some x := by
  unfold atI ixN
  rw [if_pos (by decide), if_pos (by rw [List.length_cons]; omega)]
  rfl
theorem ixN_lt {n : Nat} {i : Int} (h0 : 0 ≤ i) (h : i < n) : ixN n i = some i.toNat := by
  unfold ixN
  rw [if_pos h0, if_pos h]
theorem atI_lt {α : Type} {xs : List α} {i : Int} (h0 : 0 ≤ i) (h : i < xs.length) : ∃ x, atI xs i = some x ∧ xs[i.toNat]? = some x ∧ x ∈ xs := by
  have hl : i.toNat < xs.length := by omega
  refine ⟨xs[i.toNat], ?_, List.getElem?_eq_getElem hl, List.getElem_mem hl⟩
  unfold atI
  rw [ixN_lt h0 h, Option.bind_some, List.getElem?_eq_getElem hl]
/-- figures of a number: no 0 ahead -/
def Num (b : Int) (ds : List Int) : Prop := ∃ d t, ds = d :: t ∧ (t = [] ∨ d ≠ 0) ∧ Figs b ds

theorem toks_inj : ∀ xs ys : List Int, PySem.W.keyToksAll (xs.map fun n => PyData.int n) = PySem.W.keyToksAll (ys.map fun n => PyData.int n) → xs = ys
  | [], [], _ => rfl
  | [], y :: ys, h => by
    rw [List.map_nil, List.map_cons, PySem.W.keyToksAll, PySem.W.keyToksAll] at h
    exact absurd (Sum.inl.inj (List.cons.inj h).1) (by decide)
  | x :: xs, [], h => by
    rw [List.map_nil, List.map_cons, PySem.W.keyToksAll, PySem.W.keyToksAll] at h
    exact absurd (Sum.inl.inj (List.cons.inj h).1) (by decide)
  | x :: xs, y :: ys, h => by
    rw [List.map_cons, List.map_cons, PySem.W.keyToksAll, PySem.W.keyToksAll, PySem.W.keyToks, PySem.W.keyToks] at h
    have h1 := (List.cons.inj h).2
    have h2 := List.cons.inj h1
    have e : x = y := Sum.inl.inj h2.1
    rw [e, toks_inj xs ys h2.2]
theorem ltT_tot {x y : List Int} (h1 : ltT x y = false) (h2 : ltT y x = false) : x = y := toks_inj x y (PyProof.Rows.lex_total _ _ h1 h2)
theorem ltT_irr (x : List Int) : ltT x x = false := PyProof.Rows.lex_irrefl _
theorem ltT_trans {x y z : List Int} (h1 : ltT x y = true) (h2 : ltT y z = true) : ltT x z = true := PyProof.Rows.lex_trans _ _ _ h1 h2
theorem sortT_perm {α : Type} [TD α] (xs : List α) : (sortT xs).Perm xs := List.mergeSort_perm _ _
theorem sortT_mem {α : Type} [TD α] {xs : List α} {x : α} : x ∈ sortT xs ↔ x ∈ xs := (sortT_perm xs).mem_iff
theorem sortT_le (xs : List (List Int)) : (sortT xs).Pairwise fun a b => (!ltT b a) = true := by
  have := PySem.W.sort_pairwise (le := PySem.W.dataLe false (TD.d (α := List Int))) (PySem.W.sortLe_total _ _ _) xs
  exact this
theorem sortT_lt {xs : List (List Int)} (h : xs.Nodup) : (sortT xs).Pairwise fun a b => ltT a b = true := by
  have nd : (sortT xs).Pairwise fun a b => a ≠ b := (sortT_perm xs).nodup_iff.mpr h
  have := List.pairwise_and_iff.mpr ⟨sortT_le xs, nd⟩
  refine this.imp fun {a b} ⟨h1, h2⟩ => ?_
  rw [Bool.not_eq_true'] at h1
  cases h3 : ltT a b with
  | true => rfl
  | false => exact absurd (ltT_tot h3 h1) h2
/-! #### rules -/
structure GoodRule (rule : Int × List (List Int)) : Prop where
  lo : 2 ≤ rule.1
  hi : rule.1 ≤ 16
  few : rule.2.length ≤ 4
  figs : ∀ s ∈ rule.2, Figs rule.1 s ∧ 1 ≤ s.length ∧ s.length ≤ 4
  sorted : rule.2.Pairwise fun a b => ltT a b = true
theorem atI_get {α : Type} {xs : List α} {i : Int} {k : Nat} (e : i = k) (h : k < xs.length) : atI xs i = some xs[k] := by
  subst e
  unfold atI
  rw [ixN_lt (by omega) (by omega), Option.bind_some, Int.toNat_natCast, List.getElem?_eq_getElem h]
/-- a comprehension, with where the element is from -/
theorem forK_fmM {α β ρ : Type} {f : List β → α → (List β → Option ρ) → Option ρ} {K : List β → Option ρ} {p : α → Bool} {g : α → β} {B : Nat} :
    ∀ (xs : List α) (acc : List β), (∀ acc x next, x ∈ xs → acc.length < B → f acc x next = if p x = true then next (acc ++ [g x]) else next acc) → acc.length + xs.length ≤ B → forK f xs acc K = K (acc ++ (xs.filter p).map g)
  | [], acc, _, _ => by rw [List.filter_nil, List.map_nil, List.append_nil]; rfl
  | x :: xs, acc, h, hB => by
    rw [List.length_cons] at hB
    show f acc x _ = _
    have h' : ∀ acc y next, y ∈ xs → acc.length < B → f acc y next = if p y = true then next (acc ++ [g y]) else next acc := fun acc y next hy => h acc y next (List.mem_cons_of_mem _ hy)
    rw [h acc x _ List.mem_cons_self (by omega), List.filter_cons]
    cases hp : p x with
    | true =>
      rw [if_pos rfl, if_pos rfl, List.map_cons]
      have := forK_fmM (K := K) xs (acc ++ [g x]) h' (by rw [List.length_append, List.length_singleton]; omega)
      rw [List.append_assoc] at this
      exact this
    | false =>
      rw [if_neg Bool.false_ne_true, if_neg Bool.false_ne_true]
      exact forK_fmM xs acc h' (by omega)
theorem filter_nil_iff {α : Type} [TD α] [TE' α] {xs : List α} {p : α → Bool} : eqT (xs.filter p) [] = true ↔ ∀ x ∈ xs, ¬ p x = true := by
  rw [eqT_iff, List.filter_eq_nil_iff]
theorem cut_mid {α : Type} {xs : List α} {i j : Int} {k n : Nat} (hi : i = k) (hj : j = k + n) (h : k + n ≤ xs.length) : cutT xs (some i) (some j) = (xs.drop k).take n := by
  subst hi hj
  unfold cutT HT.sIx
  dsimp only
  rw [if_neg (by omega), if_neg (by omega), Int.toNat_natCast, show ((k : Int) + n).toNat = k + n from by omega, Nat.min_eq_left h, Nat.min_eq_left (show k ≤ xs.length by omega), Nat.add_sub_cancel_left]
theorem worth_eq {b : Int} (hb : 2 ≤ b) (h2 : b ≤ 16) {ds : List Int} (h : Figs b ds) (hl : ds.length ≤ 9000) : worth b ds = some (val b ds) := by
  unfold worth
  refine Ok.eq (forK_okI (P := fun pre s => s = val b pre) rfl (fun pre x post s next e hP hN => ?_) (fun s hP => ?_))
  · subst hP
    rw [worth_b1]
    subst e
    refine Ok.guard (Mv_of (val_lt hb h2 h.left (n := 9000) ?_) (natAbs_lt (k := 5) (by omega) (by omega)) (by decide) (by decide) (by decide)) (hN _ (val_snoc ..).symm)
    rw [List.length_append] at hl; omega
  · subst hP; rw [worth_e2]; exact Ok.mk rfl
/-! #### figures and numbers lead to each other -/
theorem digs_num {b : Int} (hb : 2 ≤ b) : ∀ (k : Nat) (n : Int), 0 ≤ n → n.toNat ≤ k → Num b (digs b n) ∧ val b (digs b n) = n
  | k, n, h0, hk => by
    by_cases h : n < b
    · rw [digs_lt h]
      exact ⟨⟨n, [], rfl, .inl rfl, Figs.one ⟨h0, h⟩⟩, by show 0 * b + n = n; omega⟩
    · have h1 := ediv_lt_self (b := b) (n := n) hb (by omega)
      have h2 : 1 ≤ n / b := Int.le_ediv_of_mul_le (by omega) (by omega)
      match k with
      | 0 => omega
      | k + 1 =>
        obtain ⟨⟨d, t, e, hd, hf⟩, v⟩ := digs_num hb k (n / b) (by omega) (by omega)
        have d0 : d ≠ 0 := by
          rcases hd with rfl | hd
          · rw [e] at v
            have v : 0 * b + d = n / b := v
            omega
          · exact hd
        rw [digs_ge hb (by omega)]
        refine ⟨⟨d, t ++ [n % b], by rw [e]; rfl, .inr d0, Figs.app hf (Figs.one ⟨Int.emod_nonneg _ (by omega), Int.emod_lt_of_pos _ (by omega)⟩)⟩, ?_⟩
        rw [val_snoc, v]
        have := Int.emod_add_mul_ediv n b
        rw [Int.mul_comm] at this
        omega
theorem digs_Num {b n : Int} (hb : 2 ≤ b) (h0 : 0 ≤ n) : Num b (digs b n) := (digs_num hb _ n h0 (Nat.le_refl _)).1
theorem val_digs {b n : Int} (hb : 2 ≤ b) (h0 : 0 ≤ n) : val b (digs b n) = n := (digs_num hb _ n h0 (Nat.le_refl _)).2
theorem digs_snoc {b n f : Int} (hb : 2 ≤ b) (h0 : 0 < n) (f0 : 0 ≤ f) (f1 : f < b) : digs b (n * b + f) = digs b n ++ [f] := by
  have h1 : 1 * b ≤ n * b := Int.mul_le_mul_of_nonneg_right (by omega) (by omega)
  rw [digs_ge hb (by omega)]
  rw [show n * b + f = f + b * n from by rw [Int.mul_comm, Int.add_comm], Int.add_mul_ediv_left _ _ (by omega), Int.ediv_eq_zero_of_lt f0 f1, Int.zero_add, Int.add_mul_emod_self_left, Int.emod_eq_of_lt f0 f1]
theorem Num.pos {b : Int} (hb : 2 ≤ b) {d : Int} {t : List Int} (h : Figs b (d :: t)) (hd : d ≠ 0) : 0 < val b (d :: t) := by
  have h1 := h d List.mem_cons_self
  have h2 := (val_bound (b := b) (by omega) (ds := t) fun x hx => h x (List.mem_cons_of_mem _ hx)).1
  have h3 : 0 < b ^ t.length := Int.pow_pos (by omega)
  have h4 : 1 * b ^ t.length ≤ d * b ^ t.length := Int.mul_le_mul_of_nonneg_right (by omega) (by omega)
  rw [val_cons]; omega
theorem digs_val {b : Int} (hb : 2 ≤ b) : ∀ (rs : List Int), Num b rs.reverse → digs b (val b rs.reverse) = rs.reverse
  | [], h => by obtain ⟨d, t, e, _⟩ := h; exact nomatch e
  | [x], h => by
    obtain ⟨d, t, e, _, hf⟩ := h
    have := hf x (List.mem_reverse.mpr List.mem_cons_self)
    show digs b (0 * b + x) = [x]
    rw [Int.zero_mul, Int.zero_add, digs_lt this.2]
  | x :: y :: rs, h => by
    obtain ⟨d, t, e, hd, hf⟩ := h
    rw [List.reverse_cons] at e hf ⊢
    have hx := hf x (List.mem_append_right _ List.mem_cons_self)
    have hl := congrArg List.length e
    obtain ⟨d', t', e'⟩ : ∃ d' t', (y :: rs).reverse = d' :: t' := by
      cases h' : (y :: rs).reverse with
      | nil => exact nomatch (List.reverse_eq_nil_iff.mp h')
      | cons d' t' => exact ⟨d', t', rfl⟩
    have e2 : d' = d ∧ t' ++ [x] = t := by
      rw [e'] at e
      exact ⟨(List.cons.inj e).1, (List.cons.inj e).2⟩
    have hd' : d' ≠ 0 := by
      rw [e2.1]
      rcases hd with h | h
      · rw [h] at e2; exact nomatch (List.append_eq_nil_iff.mp e2.2).2
      · exact h
    have nm : Num b (y :: rs).reverse := ⟨d', t', e', .inr hd', hf.left⟩
    have ih := digs_val hb (y :: rs) nm
    have pos : 0 < val b (y :: rs).reverse := by
      rw [e']
      exact Num.pos hb (by rw [← e']; exact hf.left) hd'
    rw [val_snoc, digs_snoc hb pos hx.1 hx.2, ih]
theorem digs_of_val {b : Int} (hb : 2 ≤ b) {ds : List Int} (h : Num b ds) : digs b (val b ds) = ds := by
  have := digs_val hb ds.reverse (by rw [List.reverse_reverse]; exact h)
  rw [List.reverse_reverse] at this
  exact this
theorem cut_take {α : Type} {xs : List α} {i : Int} (h0 : 0 ≤ i) : cutT xs none (some i) = xs.take i.toNat := by
  unfold cutT HT.sIx
  dsimp only
  rw [if_neg (by omega), List.drop_zero, Nat.sub_zero]
  by_cases h : i.toNat ≤ xs.length
  · rw [Nat.min_eq_left h]
  · rw [Nat.min_eq_right (by omega), List.take_length, List.take_of_length_le (by omega)]
theorem cut_drop {α : Type} {xs : List α} {i : Int} (h0 : 0 ≤ i) (h : i ≤ xs.length) : cutT xs (some i) none = xs.drop i.toNat := by
  unfold cutT HT.sIx
  dsimp only
  rw [if_neg (by omega), Nat.min_eq_left (by omega), ← List.length_drop, List.take_length]
theorem irange_cons {lo hi : Int} (h : lo < hi) : irange lo hi = lo :: irange (lo + 1) hi := by
  unfold irange
  obtain ⟨n, hn⟩ : ∃ n, (hi - lo).toNat = n + 1 := ⟨(hi - lo).toNat - 1, by omega⟩
  rw [hn, show (hi - (lo + 1)).toNat = n from by omega, List.range_succ_eq_map, List.map_cons, List.map_map]
  refine congr (congrArg List.cons (by omega)) (List.map_congr_left fun i _ => ?_)
  show lo + ((i + 1 : Nat) : Int) = lo + 1 + (i : Int)
  omega
theorem irange_nil {lo hi : Int} (h : hi ≤ lo) : irange lo hi = [] := by
  unfold irange
  rw [show (hi - lo).toNat = 0 from by omega]; rfl
/-! #### data of bounded depth and width -/
inductive Lv : Nat → PyData → Prop
  | int {k : Nat} {i : Int} (h : i.natAbs < 10 ^ 30) : Lv k (.int i)
  | bool {k : Nat} {b : Bool} : Lv k (.bool b)
  | none {k : Nat} : Lv k .none
  | str {k : Nat} {x : Str} (h : (reprText x).length ≤ 40) : Lv k (.str x)
  | dict {k : Nat} : Lv k (.dict [])
  | list {k : Nat} {xs : List PyData} (hl : xs.length ≤ 12) (h : ∀ x ∈ xs, Lv k x) : Lv (k + 1) (.list xs)
  | tuple {k : Nat} {xs : List PyData} (hl : xs.length ≤ 12) (h : ∀ x ∈ xs, Lv k x) : Lv (k + 1) (.tuple xs)
theorem Lv.up {k : Nat} {d : PyData} (h : Lv k d) : Lv (k + 1) d := by
  induction h with
  | int h => exact .int h
  | bool => exact .bool
  | none => exact .none
  | str h => exact .str h
  | dict => exact .dict
  | list hl _ ih => exact .list hl ih
  | tuple hl _ ih => exact .tuple hl ih
def nLv : Nat → Nat | 0 => 40 | k + 1 => 12 * (nLv k + 2) + 5
theorem piled_le {n : Nat} : ∀ ts : List Str, (∀ t ∈ ts, t.length ≤ n) → piled ts ≤ ts.length * (n + 2)
  | [], _ => by rw [piled_nil]; exact Nat.zero_le _
  | t :: ts, h => by
    have := piled_le ts fun t ht => h t (List.mem_cons_of_mem _ ht)
    have := h t List.mem_cons_self
    rw [piled_cons, List.length_cons, Nat.succ_mul]; omega
theorem listText_le : ∀ ts : List Str, (listText ts).length ≤ piled ts + 2
  | [] => by rw [piled_nil]; decide
  | t :: ts => by
    show (textFrom 1 ("[" ++ (if 0 > 0 then ", " else "" : String) ++ t) ts ++ "]").length ≤ _
    rw [strLen_append, textFrom_length_pos ts 1 _ (by decide), strLen_append, strLen_append, piled_cons]
    have e1 : (("[" : String) : Str).length = 1 := rfl
    have e2 : (("]" : String) : Str).length = 1 := rfl
    have e3 : ((if 0 > 0 then ", " else "" : String) : Str).length = 0 := rfl
    rw [e1, e2, e3]; omega
theorem tupleText_le (ts : List Str) : (tupleText ts).length ≤ piled ts + 3 := by
  unfold tupleText
  rw [strLen_append, strLen_append]
  have e1 : (("(" : String) : Str).length = 1 := rfl
  have e3 : ((if ts.length == 1 then ",)" else ")" : String) : Str).length ≤ 2 := by split <;> decide
  have e2 : (Str.join ", " ts).length ≤ piled ts := by
    cases ts with
    | nil => decide
    | cons t ts => have := join_length_add (t :: ts) (List.cons_ne_nil _ _); omega
  rw [e1]; omega
theorem shownAll_map : ∀ xs : List PyData, PyData.shownAll xs = xs.map PyData.shown
  | [] => by rw [PyData.shownAll]; rfl
  | x :: xs => by rw [PyData.shownAll, shownAll_map xs]; rfl
theorem showableAll_of : ∀ xs : List PyData, (∀ x ∈ xs, x.showable = true) → PyData.showableAll xs = true
  | [], _ => by rw [PyData.showableAll]
  | x :: xs, h => by rw [PyData.showableAll, h x List.mem_cons_self, showableAll_of xs fun x hx => h x (List.mem_cons_of_mem _ hx)]; rfl
theorem depthAll_of {k : Nat} : ∀ xs : List PyData, (∀ x ∈ xs, x.depth ≤ k) → PyData.depthAll xs ≤ k
  | [], _ => by rw [PyData.depthAll]; exact Nat.zero_le _
  | x :: xs, h => by
    rw [PyData.depthAll]
    exact Nat.max_le.mpr ⟨h x List.mem_cons_self, depthAll_of xs fun x hx => h x (List.mem_cons_of_mem _ hx)⟩
theorem piled_shown {n : Nat} {xs : List PyData} (hl : xs.length ≤ 12) (h : ∀ x ∈ xs, x.shown.length ≤ n) : piled (PyData.shownAll xs) ≤ 12 * (n + 2) := by
  rw [shownAll_map]
  refine Nat.le_trans (piled_le (n := n) _ fun t ht => ?_) (by rw [List.length_map]; exact Nat.mul_le_mul_right _ hl)
  obtain ⟨x, hx, rfl⟩ := List.mem_map.mp ht
  exact h x hx
theorem nLv_ge : ∀ k, 40 ≤ nLv k
  | 0 => Nat.le_refl _
  | k + 1 => by have := nLv_ge k; rw [nLv]; omega
theorem Lv.shows {k : Nat} {d : PyData} (h : Lv k d) : d.showable = true ∧ d.depth ≤ k + 1 ∧ d.shown.length ≤ nLv k := by
  induction h with
  | @int k i h =>
    refine ⟨?_, by rw [PyData.depth]; exact Nat.zero_le _, ?_⟩
    · rw [PyData.showable, decide_eq_true_eq]
      by_cases h0 : i.natAbs = 0
      · rw [h0]; decide
      · exact Nat.lt_trans ((Nat.log2_lt h0).mpr (Nat.lt_trans h (by decide)) : i.natAbs.log2 < 100) (by decide)
    · have := int_text_length_le10 (a := i) (k := 30) (by decide) h
      rw [PyData.shown, PySem.ofString_length]
      have := nLv_ge k
      omega
  | @bool k b =>
    refine ⟨by rw [PyData.showable], by rw [PyData.depth]; exact Nat.zero_le _, Nat.le_trans ?_ (nLv_ge k)⟩
    rw [PyData.shown]
    cases b <;> decide
  | @none k => exact ⟨by rw [PyData.showable], by rw [PyData.depth]; exact Nat.zero_le _, Nat.le_trans (by rw [PyData.shown]; decide) (nLv_ge k)⟩
  | @str k x h => exact ⟨by rw [PyData.showable], by rw [PyData.depth]; exact Nat.zero_le _, Nat.le_trans (by rw [PyData.shown]; exact h) (nLv_ge k)⟩
  | @dict k => exact ⟨by rw [PyData.showable, PyData.showableKv], by rw [PyData.depth, PyData.depthKv]; omega, Nat.le_trans (by rw [PyData.shown, PyData.shownKv]; decide) (nLv_ge k)⟩
  | @list k xs hl _ ih =>
    refine ⟨by rw [PyData.showable]; exact showableAll_of xs fun x hx => (ih x hx).1, by rw [PyData.depth]; exact Nat.succ_le_succ (depthAll_of xs fun x hx => (ih x hx).2.1), ?_⟩
    have := piled_shown hl fun x hx => (ih x hx).2.2
    have := listText_le (PyData.shownAll xs)
    rw [PyData.shown, nLv]; omega
  | @tuple k xs hl _ ih =>
    refine ⟨by rw [PyData.showable]; exact showableAll_of xs fun x hx => (ih x hx).1, by rw [PyData.depth]; exact Nat.succ_le_succ (depthAll_of xs fun x hx => (ih x hx).2.1), ?_⟩
    have := piled_shown hl fun x hx => (ih x hx).2.2
    have := tupleText_le (PyData.shownAll xs)
    rw [PyData.shown, nLv]; omega
theorem Lv.ok {d : PyData} (h : Lv 4 d) : ShowOk d := by
  obtain ⟨a, b, c⟩ := h.shows
  unfold ShowOk
  have : nLv 4 ≤ 16777216 := by decide
  rw [a, decide_eq_true (show d.depth ≤ 60 by omega), decide_eq_true (show d.shown.length ≤ 16777216 by omega)]; rfl
theorem Lv.l {k : Nat} {xs : List PyData} (h : Lv k (.list xs)) : xs.length ≤ 12 ∧ ∀ x ∈ xs, Lv k x := by
  cases h with
  | list hl h => exact ⟨hl, fun x hx => (h x hx).up⟩
theorem Lv.t {k : Nat} {xs : List PyData} (h : Lv k (.tuple xs)) : xs.length ≤ 12 ∧ ∀ x ∈ xs, Lv k x := by
  cases h with
  | tuple hl h => exact ⟨hl, fun x hx => (h x hx).up⟩
theorem Lv.strs {k : Nat} : Lv k (.str ("" : Str)) ∧ Lv k (.str ("0" : Str)) ∧ Lv k (.str ("a" : Str)) ∧ Lv k (.str ("01" : Str)) ∧ Lv k (.str ("10" : Str)) ∧ Lv k (.str ("10 13" : Str)) :=
  ⟨.str (by decide +kernel), .str (by decide +kernel), .str (by decide +kernel), .str (by decide +kernel), .str (by decide +kernel), .str (by decide +kernel)⟩
/-! #### the draws -/
theorem all_n {α : Type} {P : α → Prop} : ∀ x ∈ ([] : List α), P x := fun _ h => absurd h List.not_mem_nil
theorem all_c {α : Type} {P : α → Prop} {a : α} {l : List α} (h : P a) (t : ∀ x ∈ l, P x) : ∀ x ∈ a :: l, P x := fun x hx => (List.mem_cons.mp hx).elim (fun e => by rw [e]; exact h) (t x)
theorem all_a {α : Type} {P : α → Prop} {k l : List α} (h : ∀ x ∈ k, P x) (t : ∀ x ∈ l, P x) : ∀ x ∈ k ++ l, P x := fun x hx => (List.mem_append.mp hx).elim (h x) (t x)
theorem all_m {α β : Type} {P : β → Prop} {f : α → β} {l : List α} (h : ∀ x ∈ l, P (f x)) : ∀ x ∈ l.map f, P x := fun x hx => by
  obtain ⟨y, hy, rfl⟩ := List.mem_map.mp hx
  exact h y hy
theorem atI_ok {α : Type} {P : α → Prop} {xs : List α} {i : Int} (h : ∀ x ∈ xs, P x) (h0 : 0 ≤ i) (h1 : i < xs.length) : Ok (atI xs i) P := by
  obtain ⟨x, e, _, m⟩ := atI_lt h0 h1
  exact ⟨x, e, h x m⟩
theorem cutT_le {α : Type} (xs : List α) (a b : Option Int) : (cutT xs a b).length ≤ xs.length := by
  unfold cutT
  rw [List.length_take, List.length_drop]
  omega
theorem cutT_all {α : Type} {P : α → Prop} {xs : List α} {a b : Option Int} (h : ∀ x ∈ xs, P x) : ∀ x ∈ cutT xs a b, P x := fun x hx => by
  unfold cutT at hx
  exact h x (List.mem_of_mem_drop (List.mem_of_mem_take hx))
def Sm (i : Int) : Prop := 0 ≤ i ∧ i < 17
instance (i : Int) : Decidable (Sm i) := inferInstanceAs (Decidable (_ ∧ _))
theorem Sm.lv {k : Nat} {i : Int} (h : Sm i) : Lv k (.int i) := .int (by obtain ⟨a, b⟩ := h; omega)
theorem Lv.ints {k : Nat} {xs : List Int} (hl : xs.length ≤ 12) (h : ∀ x ∈ xs, Sm x) : Lv (k + 1) (.list (xs.map fun z => .int z)) :=
  .list (by rw [List.length_map]; exact hl) (all_m fun x hx => (h x hx).lv)
theorem Lv.intsT {k : Nat} {xs : List Int} (hl : xs.length ≤ 12) (h : ∀ x ∈ xs, Sm x) : Lv (k + 1) (.tuple (xs.map fun z => .int z)) :=
  .tuple (by rw [List.length_map]; exact hl) (all_m fun x hx => (h x hx).lv)
/-- a row of figures -/
def Rw (xs : List Int) : Prop := xs.length ≤ 4 ∧ ∀ x ∈ xs, Sm x
theorem Lv.rows {k : Nat} {xs : List (List Int)} (hl : xs.length ≤ 12) (h : ∀ x ∈ xs, Rw x) : Lv (k + 2) (.list (xs.map fun z => .list (z.map fun z => .int z))) :=
  .list (by rw [List.length_map]; exact hl) (all_m fun x hx => .ints (Nat.le_trans (h x hx).1 (by decide)) (h x hx).2)
theorem Lv.rowsT {k : Nat} {xs : List (List Int)} (hl : xs.length ≤ 12) (h : ∀ x ∈ xs, Rw x) : Lv (k + 2) (.tuple (xs.map fun z => .list (z.map fun z => .int z))) :=
  .tuple (by rw [List.length_map]; exact hl) (all_m fun x hx => .ints (Nat.le_trans (h x hx).1 (by decide)) (h x hx).2)
/-! #### what a rule is, over data of any kind -/
def figB (b : Int) : PyData → Bool | .int i => decide (0 ≤ i) && decide (i < b) | _ => false
def strB (b : Int) : PyData → Bool | .list xs => xs.all (figB b) && (decide (1 ≤ xs.length) && decide (xs.length ≤ 4)) | _ => false
/-- strictly rising, by places -/
def RuleD (d : PyData) : Prop := ∃ (b : Int) (ys : List PyData), d = .tuple [.int b, .list ys] ∧ 2 ≤ b ∧ b ≤ 16 ∧ ys.length ≤ 4 ∧
  (∀ y ∈ ys, strB b y = true) ∧ ∀ k (h : k + 1 < ys.length), PySem.W.dataLt ys[k] ys[k + 1] = true
theorem strB_ints {b : Int} {d : PyData} (h : strB b d = true) : ∃ ns : List Int, d = TD.d ns := by
  cases d with
  | list xs =>
    rw [strB, Bool.and_eq_true] at h
    have h := List.all_eq_true.mp h.1
    refine ⟨xs.map fun x => (asInt x).getD 0, ?_⟩
    show _ = PyData.list _
    rw [List.map_map]
    refine congrArg PyData.list ((List.map_id xs).symm.trans (List.map_congr_left fun x hx => ?_))
    have := h x hx
    cases x with
    | int i => rfl
    | none => exact absurd this Bool.false_ne_true
    | bool _ => exact absurd this Bool.false_ne_true
    | str _ => exact absurd this Bool.false_ne_true
    | list _ => exact absurd this Bool.false_ne_true
    | tuple _ => exact absurd this Bool.false_ne_true
    | dict _ => exact absurd this Bool.false_ne_true
  | none => exact absurd h Bool.false_ne_true
  | int _ => exact absurd h Bool.false_ne_true
  | bool _ => exact absurd h Bool.false_ne_true
  | str _ => exact absurd h Bool.false_ne_true
  | tuple _ => exact absurd h Bool.false_ne_true
  | dict _ => exact absurd h Bool.false_ne_true
theorem LtOk_ints (xs ys : List Int) : LtOk (TD.d xs) (TD.d ys) := by
  unfold LtOk
  have h1 := SO.alike xs ys
  have h2 := TB.lay xs
  have h3 := TB.lay ys
  have h4 : (TD.d xs).depth ≤ 64 := Nat.le_trans (TB.dle xs) (by decide)
  rw [h1, h2, h3, decide_eq_true h4]; rfl
theorem strB_lt {b : Int} {x y : PyData} (h : strB b x = true) (k : strB b y = true) : LtOk x y := by
  obtain ⟨xs, rfl⟩ := strB_ints h
  obtain ⟨ys, rfl⟩ := strB_ints k
  exact LtOk_ints xs ys
theorem nt : ¬ (!true) = true := by decide
theorem getD_at {xs : List PyData} {k : Nat} (h : k < xs.length) : xs.getD k .none = xs[k] := by
  rw [List.getD_eq_getElem?_getD, List.getElem?_eq_getElem h]; rfl
/-! #### is_rule -/
theorem is_figure_D (b : Int) (d : PyData) : is_figure b d = some (figB b d) := by
  unfold is_figure is_whole
  cases d with
  | int i =>
    show (if decide ((0 : Int) ≤ i) = true then some (decide (i < b)) else some false) = some (decide (0 ≤ i) && decide (i < b))
    cases decide ((0 : Int) ≤ i) <;> rfl
  | bool _ => rfl
  | none => rfl
  | str _ => rfl
  | list _ => rfl
  | tuple _ => rfl
  | dict _ => rfl
theorem are_figures_big (b : Int) {xs : List PyData} (hl : xs.length ≤ 1000) : are_figures b (.list xs) = some (xs.all (figB b)) := by
  unfold are_figures
  rw [if_pos (by exact rfl), asLst, Option.bind_some, forK_fm (p := fun x => !figB b x) (g := fun x => x) (B := 16777216) (fun acc x next hl => by rw [are_figures_c1, is_figure_D, Option.bind_some, if_pos hl]) _ _ (by rw [List.length_nil]; omega)]
  rw [are_figures_k2, List.nil_append, List.map_id']
  refine congrArg some (Bool.eq_iff_iff.mpr ?_)
  rw [List.isEmpty_iff, List.filter_eq_nil_iff, List.all_eq_true]
  exact forall_congr' fun x => forall_congr' fun _ => by cases figB b x <;> simp
/-- no list of great length -/
def W1 (d : PyData) : Prop := ∀ xs, d = .list xs → xs.length ≤ 1000
def W2 (c : PyData) : Prop := ∀ ys, c = .list ys → ∀ y ∈ ys, W1 y
theorem is_stretch_D (b : Int) {d : PyData} (h : W1 d) : is_stretch b d = some (strB b d) := by
  unfold is_stretch
  cases d with
  | list xs =>
    rw [are_figures_big b (h xs rfl), Option.bind_some, strB]
    cases xs.all (figB b) with
    | false => rfl
    | true =>
      show (if decide ((1 : Int) ≤ (xs.length : Int)) = true then some (decide ((xs.length : Int) ≤ 4)) else some false) = some (true && _)
      by_cases h1 : 1 ≤ xs.length
      · rw [if_pos (by rw [decide_eq_true_eq]; omega), decide_eq_true h1]
        refine congrArg some ?_
        show _ = decide (xs.length ≤ 4)
        exact decide_eq_decide.mpr (by omega)
      · rw [if_neg (by rw [decide_eq_true_eq]; omega), decide_eq_false h1]; rfl
  | bool _ => rfl
  | none => rfl
  | str _ => rfl
  | int _ => rfl
  | tuple _ => rfl
  | dict _ => rfl
/-- the answer is what `p` says -/
def Says (p : Prop) (o : Option Bool) : Prop := Ok o fun r => r = true ↔ p
theorem Says.f {p : Prop} (h : ¬ p) : Says p (some false) := ⟨_, rfl, fun e => absurd e Bool.false_ne_true, fun e => absurd e h⟩
theorem Says.t {p : Prop} (h : p) : Says p (some true) := ⟨_, rfl, fun _ => h, fun _ => rfl⟩
theorem RuleD.no {d : PyData} (h : ∀ b ys, d ≠ .tuple [.int b, .list ys]) : ¬ RuleD d := fun ⟨b, ys, e, _⟩ => h b ys e
theorem is_rule_pair {a c : PyData} (h : W2 c) : Says (RuleD (.tuple [a, c])) (is_rule (.tuple [a, c])) := by
  unfold is_rule
  rw [if_neg (by exact nt), asSeq, Option.bind_some, if_neg (by exact nt)]
  show Says _ ((is_base a).bind _)
  cases a with
  | int b =>
    show Says _ ((if decide ((2 : Int) ≤ b) = true then some (decide (b ≤ 16)) else some false).bind _)
    by_cases h2 : 2 ≤ b
    case neg =>
      rw [if_neg (by rw [decide_eq_true_eq]; exact h2), Option.bind_some, if_pos (by exact rfl)]
      refine .f ?_
      rintro ⟨b', ys, e, h2', _⟩
      injection e with e; injection e with e1 e2; injection e1 with e1
      omega
    rw [if_pos (decide_eq_true h2), Option.bind_some]
    by_cases h16 : b ≤ 16
    case neg =>
      rw [decide_eq_false h16, if_pos (by exact rfl)]
      refine .f ?_
      rintro ⟨b', ys, e, _, h2', _⟩
      injection e with e; injection e with e1 e2; injection e1 with e1
      omega
    rw [decide_eq_true h16, if_neg (by decide)]
    show Says _ (if (!isLstD c) = true then _ else _)
    cases c with
    | list ys =>
      rw [if_neg (by exact nt)]
      show Says _ (if decide ((4 : Int) < (ys.length : Int)) = true then _ else _)
      by_cases h4 : ys.length ≤ 4
      case neg =>
        rw [if_pos (by rw [decide_eq_true_eq]; omega)]
        refine .f ?_
        rintro ⟨b', ys', e, _, _, h4', _⟩
        injection e with e; injection e with e1 e2; injection e2 with e2 _; injection e2 with e2; subst e2
        exact h4 h4'
      rw [if_neg (by rw [decide_eq_true_eq]; omega)]
      show Says _ (forK (is_rule_c1 (PyData.int b, PyData.list ys)) ys [] (is_rule_k2 ys (PyData.int b, PyData.list ys)))
      rw [forK_fmM (p := fun y => !strB b y) (g := fun x => x) (B := 16777216) _ _ (fun acc x next hx hl => by
        rw [is_rule_c1]
        show ((is_stretch b x).bind _) = _
        rw [is_stretch_D b (h ys rfl x hx), Option.bind_some, if_pos hl]) (by rw [List.length_nil]; omega)]
      rw [List.nil_append, List.map_id', is_rule_k2]
      by_cases hs : ∀ y ∈ ys, strB b y = true
      case neg =>
        rw [if_pos]
        · refine .f ?_
          rintro ⟨b', ys', e, _, _, _, hs', _⟩
          injection e with e; injection e with e1 e2; injection e2 with e2 _; injection e2 with e2; injection e1 with e1; subst e2; subst e1
          exact hs hs'
        · rw [Bool.not_eq_true', ← Bool.not_eq_true, List.isEmpty_iff, List.filter_eq_nil_iff]
          exact fun h => hs fun y hy => by have := h y hy; simpa using this
      rw [if_neg]
      case hnc =>
        rw [Bool.not_eq_true', Bool.not_eq_false, List.isEmpty_iff, List.filter_eq_nil_iff]
        exact fun y hy => by rw [hs y hy]; decide
      rw [if_pos ⟨by decide, by decide, by omega, by omega⟩]
      have hp : ∀ k (h : k + 1 < ys.length), LtOk ys[k] ys[k + 1] := fun k h => strB_lt (hs _ (List.getElem_mem _)) (hs _ (List.getElem_mem _))
      rw [forK_fmM (p := fun t : Int => !PySem.W.dataLt (ys.getD (t - 1).toNat .none) (ys.getD t.toNat .none)) (g := fun x => x) (B := 16777216) _ _ (fun acc x next hx hl => by
        have hx := irange_mem.mp hx
        obtain ⟨k, hk⟩ : ∃ k : Nat, x = k + 1 := ⟨(x - 1).toNat, by omega⟩
        have l1 : k < ys.length := by omega
        have l2 : k + 1 < ys.length := by omega
        rw [is_rule_c3]
        show ((atI ys (x - 1)).bind fun x13 => ((atI ys x).bind fun x15 => _)) = _
        rw [atI_get (k := k) (by omega) l1, Option.bind_some, atI_get (k := k + 1) (by omega) l2, Option.bind_some, if_pos (hp k l2), if_pos hl, show (x - 1).toNat = k by omega, show x.toNat = k + 1 by omega, getD_at l1, getD_at l2]) (by rw [List.length_nil]; rw [irange_len]; omega)]
      rw [List.nil_append, List.map_id', is_rule_k4]
      refine ⟨_, rfl, ?_⟩
      dsimp only
      rw [eqT_iff, List.filter_eq_nil_iff]
      constructor
      · intro hh
        refine ⟨b, ys, rfl, h2, h16, h4, hs, fun k hk => ?_⟩
        have := hh (k + 1 : Nat) (irange_mem.mpr (by omega))
        rw [show ((k + 1 : Nat) - 1 : Int).toNat = k by omega, show ((k + 1 : Nat) : Int).toNat = k + 1 by omega, getD_at (by omega), getD_at hk] at this
        simpa using this
      · rintro ⟨b', ys', e, _, _, _, _, hh⟩
        injection e with e; injection e with e1 e2; injection e2 with e2 _; injection e2 with e2; injection e1 with e1; subst e2; subst e1
        intro x hx
        have hx := irange_mem.mp hx
        obtain ⟨k, hk⟩ : ∃ k : Nat, x = k + 1 := ⟨(x - 1).toNat, by omega⟩
        have l2 : k + 1 < ys.length := by omega
        rw [show (x - 1).toNat = k by omega, show x.toNat = k + 1 by omega, getD_at (by omega), getD_at l2, hh k l2]
        decide
    | bool _ => exact .f (RuleD.no fun _ _ h => nomatch h)
    | none => exact .f (RuleD.no fun _ _ h => nomatch h)
    | str _ => exact .f (RuleD.no fun _ _ h => nomatch h)
    | int _ => exact .f (RuleD.no fun _ _ h => nomatch h)
    | tuple _ => exact .f (RuleD.no fun _ _ h => nomatch h)
    | dict _ => exact .f (RuleD.no fun _ _ h => nomatch h)
  | bool _ => exact .f (RuleD.no fun _ _ h => nomatch h)
  | none => exact .f (RuleD.no fun _ _ h => nomatch h)
  | str _ => exact .f (RuleD.no fun _ _ h => nomatch h)
  | list _ => exact .f (RuleD.no fun _ _ h => nomatch h)
  | tuple _ => exact .f (RuleD.no fun _ _ h => nomatch h)
  | dict _ => exact .f (RuleD.no fun _ _ h => nomatch h)
theorem is_rule_D {d : PyData} (h : ∀ a c, d = .tuple [a, c] → W2 c) : Says (RuleD d) (is_rule d) := by
  cases d with
  | tuple xs =>
    match xs, h with
    | [a, c], h => exact is_rule_pair (h a c rfl)
    | [], _ => exact .f (RuleD.no fun _ _ h => nomatch h)
    | [a], _ => exact .f (RuleD.no fun _ _ h => nomatch h)
    | a :: c :: e :: r, _ =>
      unfold is_rule
      rw [if_neg (by exact nt), asSeq, Option.bind_some, if_pos (by rw [Bool.not_eq_true', decide_eq_false_iff_not, List.length_cons, List.length_cons, List.length_cons]; omega)]
      exact .f (RuleD.no fun _ _ h => nomatch h)
  | bool _ => exact .f (RuleD.no fun _ _ h => nomatch h)
  | none => exact .f (RuleD.no fun _ _ h => nomatch h)
  | str _ => exact .f (RuleD.no fun _ _ h => nomatch h)
  | int _ => exact .f (RuleD.no fun _ _ h => nomatch h)
  | list _ => exact .f (RuleD.no fun _ _ h => nomatch h)
  | dict _ => exact .f (RuleD.no fun _ _ h => nomatch h)
/-! #### writings -/
abbrev SG : Str := "0123456789abcdef"
def sg (d : Int) : Nat := (TL.tl SG).getD d.toNat 0
theorem sIdx_fin : ∀ k : Fin 16, sIdx SG ⟨#[sg (k.val : Int)]⟩ = some k.val := by decide +kernel
theorem sg_fin : ∀ b : Fin 17, ∀ k : Fin 16, 2 ≤ b.val → k.val < b.val → sg (k.val : Int) ∈ (cutS SG none (some (b.val : Int))).cps.toList := by decide +kernel
theorem sg_sp : ∀ k : Fin 16, sg (k.val : Int) ≠ 32 := by decide +kernel
theorem sg_cut {b d : Int} (hb : 2 ≤ b) (h2 : b ≤ 16) (h0 : 0 ≤ d) (h : d < b) : sg d ∈ (cutS SG none (some b)).cps.toList := by
  obtain ⟨n, rfl⟩ : ∃ n : Nat, b = n := ⟨b.toNat, by omega⟩
  obtain ⟨k, rfl⟩ : ∃ k : Nat, d = k := ⟨d.toNat, by omega⟩
  exact sg_fin ⟨n, by omega⟩ ⟨k, by omega⟩ (by show 2 ≤ n; omega) (by show k < n; omega)
theorem sIdx_sg {d : Int} (h0 : 0 ≤ d) (h : d < 16) : sIdx SG ⟨#[sg d]⟩ = some d.toNat := by
  obtain ⟨k, rfl⟩ : ∃ k : Nat, d = k := ⟨d.toNat, by omega⟩
  exact sIdx_fin ⟨k, by omega⟩
theorem sg_ne {d : Int} (h0 : 0 ≤ d) (h : d < 16) : sg d ≠ 32 := by
  obtain ⟨k, rfl⟩ : ∃ k : Nat, d = k := ⟨d.toNat, by omega⟩
  exact sg_sp ⟨k, by omega⟩
theorem SG_len : (TL.tl SG).length = 16 := by decide +kernel
theorem SG_sz : SG.length ≤ 16777216 := by decide +kernel
theorem sg_at {d : Int} (h0 : 0 ≤ d) (h : d < 16) : atI SG.cps.toList d = some (sg d) := by
  have hl : (SG.cps.toList).length = 16 := SG_len
  rw [atI_get (k := d.toNat) (by omega) (by rw [hl]; omega)]
  unfold sg
  rw [List.getD_eq_getElem?_getD, List.getElem?_eq_getElem (by rw [SG_len]; omega)]; rfl
def textOf (ds : List Int) : Str := ⟨(ds.map sg).toArray⟩
theorem tl_textOf (ds : List Int) : TL.tl (textOf ds) = ds.map sg := rfl
theorem textOf_len (ds : List Int) : (textOf ds).length = ds.length := by rw [TL.len_tl, tl_textOf, List.length_map]
theorem joinL_nil : ∀ ls : List (List Nat), TL.joinL [] ls = ls.flatten
  | [] => rfl
  | [p] => by simp [TL.joinL]
  | p :: q :: r => by
    show p ++ ([] ++ TL.joinL [] (q :: r)) = _
    rw [joinL_nil (q :: r), List.nil_append]; rfl
theorem join_signs (ds : List Int) : Txt.join ("" : Str) (ds.map fun d => (⟨#[sg d]⟩ : Str)) = textOf ds := by
  refine TL.ext_tl ?_
  rw [TL.join_eq, TL.tl_join, show TL.tl ("" : Str) = [] from by decide +kernel, joinL_nil, tl_textOf, List.map_map]
  induction ds with
  | nil => rfl
  | cons d ds ih => rw [List.map_cons, List.flatten_cons, ih, List.map_cons]; rfl
theorem signs_sum (ds : List Int) : ((ds.map fun d => (⟨#[sg d]⟩ : Str)).map (·.length)).sum = ds.length := by
  induction ds with
  | nil => rfl
  | cons d ds ih => rw [List.map_cons, List.map_cons, List.sum_cons, ih, List.length_cons]; show 1 + ds.length = _; omega
theorem filter_true {α : Type} (xs : List α) : xs.filter (fun _ => true) = xs := by simp
theorem emp_len0 : ("" : Str).length = 0 := by decide +kernel
theorem text_eq {b : Int} (h2 : b ≤ 16) {ds : List Int} (h : Figs b ds) (hl : ds.length ≤ 9000) : _law_text ds = some (textOf ds) := by
  unfold _law_text
  rw [forK_fmM (p := fun _ => true) (g := fun d => (⟨#[sg d]⟩ : Str)) (B := 16777216) _ _ (fun acc x next hx hl2 => by
    have := h x hx
    rw [_law_text_c1, if_pos SG_sz, sg_at this.1 (by omega), Option.bind_some, if_pos hl2, if_pos rfl]) (by rw [List.length_nil]; omega), filter_true, List.nil_append]
  rw [_law_text_k2, signs_sum, List.length_map, emp_len0, if_pos (by omega), join_signs]
theorem figures_text_eq {b : Int} (h2 : b ≤ 16) {ds : List Int} (h : Figs b ds) (hl : ds.length ≤ 9000) : figures_text ds = some (textOf ds) := by
  unfold figures_text
  rw [forK_fmM (p := fun _ => true) (g := fun d => (⟨#[sg d]⟩ : Str)) (B := 16777216) _ _ (fun acc x next hx hl2 => by
    have := h x hx
    rw [figures_text_c1, if_pos SG_sz, sg_at this.1 (by omega), Option.bind_some, if_pos hl2, if_pos rfl]) (by rw [List.length_nil]; omega), filter_true, List.nil_append]
  rw [figures_text_k2, signs_sum, List.length_map, emp_len0, if_pos (by omega), join_signs]
/-! #### the law's figures -/
theorem law_figs_eq {b n : Int} (hb : 2 ≤ b) (h2 : b ≤ 16) (hn : 0 ≤ n) (hl : n < 2 ^ 8000) : _law_figures b n = some (digs b n) := by
  have dv : Dv b := Dv_small (by omega) (by omega)
  unfold _law_figures
  refine Ok.eq (Ok.guard dv ?_)
  refine whileK_ok (P := fun s => 0 ≤ s.1 ∧ s.2.length + lg s.1 ≤ 8001 ∧ ∃ pre, digs b s.1 = pre ++ [s.1 % b] ∧ digs b n = pre ++ s.2) (fun s => lg s.1) (fun s next hP hN => ?_) _ _ ⟨hn, ?_, (if 0 < n / b then digs b (n / b) else []), digs_step hb hn, digs_step hb hn⟩ ?_
  · obtain ⟨x1, x2⟩ := s
    obtain ⟨p1, p2, pre, p3, p4⟩ := hP
    have p1 : 0 ≤ x1 := p1
    have p2 : x2.length + lg x1 ≤ 8001 := p2
    have p3 : digs b x1 = pre ++ [x1 % b] := p3
    have p4 : digs b n = pre ++ x2 := p4
    rw [_law_figures_w1]
    refine Ok.ite (fun hc => ?_) (fun hc => ?_)
    · have hle : b ≤ x1 := of_decide_eq_true hc
      have hd : 0 ≤ x1 / b := Int.ediv_nonneg p1 (by omega)
      have hlt := lg_div (n := x1) (by omega) hb
      refine Ok.guard dv (Ok.guard dv (Ok.guard ?_ (hN _ ⟨hd, ?_, (if 0 < x1 / b / b then digs b (x1 / b / b) else []), digs_step hb hd, ?_⟩ hlt)))
      · rw [List.length_singleton]; omega
      · show ([x1 / b % b] ++ x2).length + lg (x1 / b) ≤ 8001
        rw [List.length_append, List.length_singleton]; omega
      · show digs b n = _ ++ ([x1 / b % b] ++ x2)
        rw [digs_ge hb hle] at p3
        have := (List.append_inj' p3 rfl).1
        rw [p4, ← List.append_assoc, ← digs_step hb hd, this]
    · have hlt : x1 < b := by
        have : ¬ b ≤ x1 := fun h => hc (decide_eq_true h)
        omega
      rw [digs_lt hlt] at p3
      have hp : pre = [] := by
        have := congrArg List.length p3
        rw [List.length_append, List.length_singleton, List.length_singleton] at this
        exact List.length_eq_zero_iff.mp (by omega)
      refine Ok.mk ?_
      rw [p4, hp, List.nil_append]
  · show [n % b].length + lg n ≤ 8001
    have := lg_le hl
    rw [List.length_singleton]; omega
  · show lg n < fuel
    have := lg_le hl
    unfold fuel; omega
/-! #### draws -/
theorem cell_ok {ns : List Int} {k : Int} (h0 : 0 ≤ k) (h : k < 64) : Ok (_law_cell ns k) fun _ => True := by
  unfold _law_cell
  refine Ok.ite (fun hc => ?_) (fun _ => ?_)
  · have hc : k < (ns.length : Int) := of_decide_eq_true hc
    obtain ⟨x, e, _⟩ := atI_lt h0 hc
    rw [e]; exact ⟨_, rfl, trivial⟩
  · exact Ok.guard (Mv_of (a := 20) (b := 20) (by omega) (by omega) (by decide) (by decide) (by decide)) ⟨_, rfl, trivial⟩
theorem mixed_ok {cell k : Int} (h0 : 0 ≤ k) (h : k < 1000) : Ok (_law_mixed cell k) fun r => 0 ≤ r ∧ r < 2 ^ 64 := by
  unfold _law_mixed
  refine Ok.guard (Mv_of (a := 40) (b := 40) (by omega) (by omega) (by decide) (by decide) (by decide)) ?_
  generalize hx : (((cell * 48271) + 7919 * k * k + 104729 * k + 11) % 2147483647 : Int) = x
  have x0 : 0 ≤ x := by rw [← hx]; exact Int.emod_nonneg _ (by decide)
  have x1 : x < 2147483647 := by rw [← hx]; exact Int.emod_lt_of_pos _ (by decide)
  refine Ok.guard (Mv_of (a := 40) (b := 40) (by omega) (by omega) (by decide) (by decide) (by decide)) ?_
  refine Ok.bind (P := fun m => 2147483497 ≤ m ∧ m ≤ 2147483629) ?_ fun m hm => ?_
  · have k0 := Int.emod_nonneg k (show (7 : Int) ≠ 0 by decide)
    have k1 := Int.emod_lt_of_pos k (show (0 : Int) < 7 by decide)
    rcases (show k % 7 = 0 ∨ k % 7 = 1 ∨ k % 7 = 2 ∨ k % 7 = 3 ∨ k % 7 = 4 ∨ k % 7 = 5 ∨ k % 7 = 6 by omega) with e | e | e | e | e | e | e <;> rw [e] <;> exact ⟨_, rfl, by decide, by decide⟩
  · refine Ok.guard (Dv_small (by omega) (by omega)) (Ok.mk ?_)
    have y0 := Int.emod_nonneg (x * x) (show m ≠ 0 by omega)
    have y1 := Int.emod_lt_of_pos (x * x) (show 0 < m by omega)
    have c0 := Int.emod_nonneg cell (show (5 : Int) ≠ 0 by decide)
    have c1 := Int.emod_lt_of_pos cell (show (0 : Int) < 5 by decide)
    omega
theorem pick3 {a b c r : Int} : Ok (atI [a, b, c] (r % 3)) fun x => x = a ∨ x = b ∨ x = c := by
  have k0 := Int.emod_nonneg r (show (3 : Int) ≠ 0 by decide)
  have k1 := Int.emod_lt_of_pos r (show (0 : Int) < 3 by decide)
  rcases (show r % 3 = 0 ∨ r % 3 = 1 ∨ r % 3 = 2 by omega) with e | e | e <;> rw [e]
  · exact ⟨_, rfl, .inl rfl⟩
  · exact ⟨_, rfl, .inr (.inl rfl)⟩
  · exact ⟨_, rfl, .inr (.inr rfl)⟩
theorem law_rule_ok {cell : Int} : Ok (_law_rule cell) GoodRule := by
  unfold _law_rule
  have n0 := Int.emod_nonneg (cell / 15) (show (5 : Int) ≠ 0 by decide)
  have n1 := Int.emod_lt_of_pos (cell / 15) (show (0 : Int) < 5 by decide)
  have b0 := Int.emod_nonneg cell (show (15 : Int) ≠ 0 by decide)
  have b1 := Int.emod_lt_of_pos cell (show (0 : Int) < 15 by decide)
  refine Ok.guard ⟨by omega, by omega⟩ ?_
  refine forK_okI (P := fun pre (s : List (List Int)) => s.length ≤ pre.length ∧ s.Nodup ∧ ∀ z ∈ s, Figs (2 + cell % 15) z ∧ 1 ≤ z.length ∧ z.length ≤ 4) ⟨Nat.le_refl _, List.nodup_nil, fun z hz => nomatch hz⟩ (fun pre x post s next e hP hN => ?_) (fun s hP => ?_)
  · obtain ⟨q1, q2, q3⟩ := hP
    have hx : x ∈ irange 0 (cell / 15 % 5) := by rw [e]; simp
    have hx := irange_mem.mp hx
    have hl : pre.length < 4 := by
      have := congrArg List.length e
      rw [irange_len, List.length_append, List.length_cons] at this
      omega
    rw [_law_rule_b1]
    refine (mixed_ok (by omega) (by omega)).bind fun r1 _ => ?_
    refine pick3.bind fun x2 hx2 => ?_
    have hx2 : 2 ≤ x2 ∧ x2 ≤ 2 + cell % 15 := by
      rcases hx2 with rfl | rfl | rfl
      · omega
      · split <;> omega
      · omega
    refine (mixed_ok (by omega) (by omega)).bind fun r2 _ => ?_
    have m0 := Int.emod_nonneg r2 (show (4 : Int) ≠ 0 by decide)
    have m1 := Int.emod_lt_of_pos r2 (show (0 : Int) < 4 by decide)
    refine Ok.guard ⟨by omega, by omega⟩ ?_
    refine forK_okI (P := fun pre (s : List Int) => s.length = pre.length ∧ Figs (2 + cell % 15) s) ⟨rfl, Figs.nil⟩ (fun pre2 x6 post2 s2 next2 e2 hP2 hN2 => ?_) (fun s2 hP2 => ?_)
    · have hx6 : x6 ∈ irange 0 (1 + r2 % 4) := by rw [e2]; simp
      have hx6 := irange_mem.mp hx6
      have hl2 : pre2.length < 4 := by
        have := congrArg List.length e2
        rw [irange_len, List.length_append, List.length_cons] at this
        omega
      rw [_law_rule_c3]
      refine (mixed_ok (by omega) (by omega)).bind fun r3 _ => ?_
      have d0 := Int.emod_nonneg r3 (show x2 ≠ 0 by omega)
      have d1 := Int.emod_lt_of_pos r3 (show 0 < x2 by omega)
      refine Ok.guard (Dv_small (by omega) (by omega)) (Ok.guard (by omega) (hN2 _ ⟨?_, Figs.app hP2.2 (Figs.one ⟨d0, by omega⟩)⟩))
      rw [List.length_append, List.length_append, hP2.1]; rfl
    · have p1 := hP2.1
      rw [irange_len] at p1
      rw [_law_rule_k4]
      refine Ok.ite (fun hc => ?_) (fun hc => ?_)
      · rw [Bool.not_eq_true', memT_no] at hc
        refine Ok.guard (by omega) (hN _ ⟨?_, ?_, ?_⟩)
        · rw [List.length_append, List.length_append, List.length_singleton, List.length_singleton]; omega
        · refine List.nodup_append.mpr ⟨q2, List.nodup_cons.mpr ⟨(fun h => nomatch h), List.nodup_nil⟩, fun a ha b hb e => ?_⟩
          rw [List.mem_singleton] at hb
          subst e hb
          exact hc ha
        · intro z hz
          rcases List.mem_append.mp hz with hz | hz
          · exact q3 z hz
          · rw [List.mem_singleton.mp hz]
            exact ⟨hP2.2, by omega, by omega⟩
      · refine hN _ ⟨?_, q2, q3⟩
        rw [List.length_append]; omega
  · obtain ⟨q1, q2, q3⟩ := hP
    rw [irange_len] at q1
    rw [_law_rule_e2]
    refine Ok.guard (by omega) (Ok.mk ⟨?_, ?_, ?_, fun s hs => q3 s (sortT_mem.mp hs), sortT_lt q2⟩)
    · show 2 ≤ 2 + cell % 15; omega
    · show 2 + cell % 15 ≤ 16; omega
    · show (sortT s).length ≤ 4
      rw [sortT_len]; omega
theorem law_number_ok {cell k : Int} (h0 : 0 ≤ k) (h : k < 500) : Ok (_law_number cell k) fun n => 0 ≤ n ∧ n < 2 ^ 90 := by
  unfold _law_number
  refine (mixed_ok h0 (by omega)).bind fun r1 ⟨a0, a1⟩ => ?_
  refine Ok.guard (Mv_of (a := 64) (b := 64) (by omega) (by decide) (by decide) (by decide) (by decide)) ?_
  refine (mixed_ok (by omega) (by omega)).bind fun r2 _ => ?_
  have k0 := Int.emod_nonneg r2 (show (4 : Int) ≠ 0 by decide)
  have k1 := Int.emod_lt_of_pos r2 (show (0 : Int) < 4 by decide)
  refine Ok.bind (P := fun m => 0 < m ∧ m < 2 ^ 90) ?_ fun m hm => ?_
  · rcases (show r2 % 4 = 0 ∨ r2 % 4 = 1 ∨ r2 % 4 = 2 ∨ r2 % 4 = 3 by omega) with e | e | e | e <;> rw [e] <;> exact ⟨_, rfl, by decide, by decide⟩
  · refine Ok.guard (Dv_of (b := 91) hm.1 (natAbs_lt (by omega) (by omega)) (by decide) (by decide)) (Ok.mk ⟨Int.emod_nonneg _ (by omega), ?_⟩)
    have := Int.emod_lt_of_pos (r1 * (46337 * 10 ^ (9 : Int).toNat + 461)) hm.1
    omega
/-! #### the writing of a rule -/
theorem base_num {b : Int} (h : 0 ≤ b) : TL.tl (Str.ofString (toString b)) = TL.numL b.toNat := by
  obtain ⟨n, rfl⟩ : ∃ n : Nat, b = n := ⟨b.toNat, by omega⟩
  exact TL.tl_num n
theorem base_inj {a b : Int} (ha : 0 ≤ a) (hb : 0 ≤ b) (h : Str.ofString (toString a) = Str.ofString (toString b)) : a = b := by
  have := congrArg TL.tl h
  rw [base_num ha, base_num hb] at this
  have := TL.numL_inj this
  omega
theorem base_len {b : Int} (h : 0 ≤ b) (h2 : b ≤ 16) : (Str.ofString (toString b)).length ≤ 2 := by
  rw [TL.len_tl, base_num h]
  exact TL.numL_len (by decide) (by omega)
theorem joinL_len (S : List Nat) : ∀ ls : List (List Nat), (TL.joinL S ls).length ≤ (ls.map (·.length)).sum + S.length * ls.length
  | [] => Nat.zero_le _
  | [p] => by simp [TL.joinL]
  | p :: q :: r => by
    show (p ++ (S ++ TL.joinL S (q :: r))).length ≤ _
    have := joinL_len S (q :: r)
    rw [List.length_append, List.length_append, List.map_cons, List.sum_cons, List.length_cons (a := p), Nat.mul_succ]
    omega
theorem log_small {b : Int} (h : 0 ≤ b) (h2 : b ≤ 16) : b.natAbs.log2 < 1920 := by
  have : b.natAbs ≤ 16 := by omega
  have := Nat.log2_le_self b.natAbs
  omega
theorem sp_len : (" " : Str).length = 1 := by decide +kernel
theorem bases_eq {b : Int} (h : 2 ≤ b) (h2 : b ≤ 16) : (irange 2 17).filter (fun t => decide (t = b)) = [b] := by
  rcases (show b = 2 ∨ b = 3 ∨ b = 4 ∨ b = 5 ∨ b = 6 ∨ b = 7 ∨ b = 8 ∨ b = 9 ∨ b = 10 ∨ b = 11 ∨ b = 12 ∨ b = 13 ∨ b = 14 ∨ b = 15 ∨ b = 16 by omega) with rfl | rfl | rfl | rfl | rfl | rfl | rfl | rfl | rfl | rfl | rfl | rfl | rfl | rfl | rfl <;> decide
/-! #### words and their figures -/
def inS (b : Int) (c : Nat) : Bool := decide (c ∈ (cutS SG none (some b)).cps.toList)
def sv (c : Nat) : Int := (((sIdx SG ⟨#[c]⟩).getD 0 : Nat) : Int)
def wrB (b : Int) (w : Str) : Bool := !decide (w = ("" : Str)) && w.cps.toList.all (inS b)
def figW (w : Str) : List Int := w.cps.toList.map sv
theorem cut_fin : ∀ b : Fin 17, (cutS SG none (some (b.val : Int))).cps.toList = (List.range b.val).map fun k : Nat => sg (k : Int) := by decide +kernel
theorem ixc_fin : ∀ b : Fin 17, ∀ k : Fin 16, k.val < b.val → sIdx (cutS SG none (some (b.val : Int))) ⟨#[sg (k.val : Int)]⟩ = some k.val := by decide +kernel
theorem sg0_fin : ∀ k : Fin 16, ((⟨#[sg (k.val : Int)]⟩ : Str) = ("0" : Str)) ↔ k.val = 0 := by decide +kernel
theorem inS_sg {b : Int} (hb : 2 ≤ b) (h2 : b ≤ 16) {c : Nat} (h : inS b c = true) : ∃ d : Int, 0 ≤ d ∧ d < b ∧ c = sg d ∧ sv c = d ∧ sIdx SG ⟨#[c]⟩ = some d.toNat ∧ sIdx (cutS SG none (some b)) ⟨#[c]⟩ = some d.toNat := by
  obtain ⟨n, rfl⟩ : ∃ n : Nat, b = n := ⟨b.toNat, by omega⟩
  have hm : c ∈ (cutS SG none (some ((n : Nat) : Int))).cps.toList := of_decide_eq_true h
  rw [cut_fin ⟨n, by omega⟩] at hm
  obtain ⟨k, hk, rfl⟩ := List.mem_map.mp hm
  have hk : k < n := List.mem_range.mp hk
  have e1 := sIdx_fin ⟨k, by omega⟩
  have e2 := ixc_fin ⟨n, by omega⟩ ⟨k, by omega⟩ hk
  refine ⟨(k : Int), by omega, by omega, rfl, ?_, e1, e2⟩
  show (((sIdx SG ⟨#[sg (k : Int)]⟩).getD 0 : Nat) : Int) = k
  rw [e1]; rfl
theorem figW_len (w : Str) : (figW w).length = w.length := by
  unfold figW
  rw [List.length_map, TL.len_tl]
section
variable {b : Int} {w : Str} (hb : 2 ≤ b) (h2 : b ≤ 16) (h : wrB b w = true)
include hb h2 h
theorem wr_all : ∀ c ∈ w.cps.toList, inS b c = true := by
  unfold wrB at h
  rw [Bool.and_eq_true, List.all_eq_true] at h
  exact h.2
theorem wr_Figs : Figs b (figW w) := fun d hd => by
  obtain ⟨c, hc, rfl⟩ := List.mem_map.mp hd
  obtain ⟨d, d0, d1, _, e, _⟩ := inS_sg hb h2 (wr_all hb h2 h c hc)
  rw [e]; exact ⟨d0, d1⟩
theorem wr_text : textOf (figW w) = w := by
  refine TL.ext_tl ?_
  rw [tl_textOf]
  show (w.cps.toList.map sv).map sg = w.cps.toList
  rw [List.map_map]
  conv => rhs; rw [← List.map_id w.cps.toList]
  refine List.map_congr_left fun c hc => ?_
  obtain ⟨d, _, _, e, e2, _⟩ := inS_sg hb h2 (wr_all hb h2 h c hc)
  show sg (sv c) = c
  rw [e2]; exact e.symm
theorem wr_ne : figW w ≠ [] := fun e => by
  have h' := h
  unfold wrB at h'
  rw [Bool.and_eq_true, Bool.not_eq_true', decide_eq_false_iff_not] at h'
  refine h'.1 ?_
  have := congrArg List.length e
  rw [figW_len, List.length_nil] at this
  refine TL.ext_tl ?_
  rw [TL.len_tl] at this
  rw [List.length_eq_zero_iff.mp this]
  decide +kernel
end
theorem read_figures_D {b : Int} (hb : 2 ≤ b) (h2 : b ≤ 16) {w : Str} (hl : w.length ≤ 9000) : read_figures b w = some (if wrB b w = true then .ok (figW w) else .error .NoText) := by
  have hl' : w.cps.toList.length ≤ 9000 := by rw [← TL.tl, ← TL.len_tl]; exact hl
  unfold read_figures
  by_cases hw : w = ("" : Str)
  · rw [if_pos (decide_eq_true hw), if_neg]
    unfold wrB
    rw [decide_eq_true hw]; exact Bool.false_ne_true
  rw [if_neg (by rw [decide_eq_true_eq]; exact hw)]
  rw [forK_fmM (p := fun c => !inS b c) (g := fun c => (⟨#[c]⟩ : Str)) (B := 16777216) _ _ (fun acc x next hx hl2 => by
    rw [read_figures_c1, if_pos SG_sz, if_pos hl2]; rfl) (by rw [List.length_nil]; omega), List.nil_append, read_figures_k2]
  by_cases ha : w.cps.toList.all (inS b) = true
  case neg =>
    rw [if_pos, if_neg]
    · unfold wrB
      rw [Bool.and_eq_true]; exact fun z => ha z.2
    · rw [Bool.not_eq_true', ← Bool.not_eq_true, List.isEmpty_iff, List.map_eq_nil_iff, List.filter_eq_nil_iff]
      exact fun z => ha (List.all_eq_true.mpr fun c hc => by simpa using z c hc)
  have hr : wrB b w = true := by unfold wrB; rw [ha, decide_eq_false hw]; rfl
  rw [if_neg, if_pos hr]
  · rw [forK_fmM (p := fun _ => true) (g := sv) (B := 16777216) _ _ (fun acc x next hx hl2 => by
      obtain ⟨d, _, _, _, e, e2, _⟩ := inS_sg hb h2 (List.all_eq_true.mp ha x hx)
      rw [read_figures_c3, e2, Option.bind_some, if_pos hl2, if_pos rfl, e]
      have : ((d.toNat : Nat) : Int) = d := by omega
      rw [this]) (by rw [List.length_nil]; omega), filter_true, List.nil_append, read_figures_k4]
    rfl
  · rw [Bool.not_eq_true', Bool.not_eq_false, List.isEmpty_iff, List.map_eq_nil_iff, List.filter_eq_nil_iff]
    exact fun c hc => by rw [List.all_eq_true.mp ha c hc]; decide
/-! #### numbers written, read -/
theorem is_base_no {d : PyData} (h : ∀ i, d = .int i → ¬ (2 ≤ i ∧ i ≤ 16)) : is_base d = some false := by
  unfold is_base is_whole
  cases d with
  | int i =>
    have := h i rfl
    show (if decide ((2 : Int) ≤ i) = true then some (decide (i ≤ 16)) else some false) = some false
    by_cases h2 : 2 ≤ i
    · rw [if_pos (decide_eq_true h2), decide_eq_false (show ¬ i ≤ 16 by omega)]
    · rw [if_neg (by rw [decide_eq_true_eq]; exact h2)]
  | bool _ => rfl
  | none => rfl
  | str _ => rfl
  | list _ => rfl
  | tuple _ => rfl
  | dict _ => rfl
theorem need_base_no {d : PyData} (h : is_base d = some false) : need_base d = some (.error .NoBase) := by
  unfold need_base
  rw [h]; rfl
theorem need_base_yes {b : Int} (h : 2 ≤ b) (h2 : b ≤ 16) : need_base (.int b) = some (.ok ()) := by
  unfold need_base is_base is_whole
  show Option.bind (if decide ((2 : Int) ≤ b) = true then some (decide (b ≤ 16)) else some false) _ = _
  rw [if_pos (decide_eq_true h), decide_eq_true h2]; rfl
theorem need_from_no {d : PyData} (h : ∀ i, d = .int i → i < 0) : need_from d 0 = some (.error .NoNumber) := by
  unfold need_from is_whole
  cases d with
  | int i =>
    show (if decide (i < (0 : Int)) = true then _ else _) = _
    rw [if_pos (decide_eq_true (h i rfl))]
  | bool _ => rfl
  | none => rfl
  | str _ => rfl
  | list _ => rfl
  | tuple _ => rfl
  | dict _ => rfl
theorem need_from_yes {n : Int} (h : 0 ≤ n) : need_from (.int n) 0 = some (.ok ()) := by
  unfold need_from is_whole
  show (if decide (n < (0 : Int)) = true then _ else _) = _
  rw [if_neg (by rw [decide_eq_true_eq]; omega)]
theorem EqOk_ints (xs : List Int) : EqOk (PyData.list (xs.map fun z => PyData.int z)) (PyData.list []) := by
  have h1 : SeqAt.shaped (TD.d xs) = true := TD.shaped (by decide) xs
  have h2 : SeqAt.shaped (TD.d ([] : List Int)) = true := TD.shaped (by decide) _
  show (_ && _) = true
  exact Bool.and_eq_true_iff.mpr ⟨h1, h2⟩
theorem EqOk_int (x y : Int) : EqOk (PyData.int x) (PyData.int y) := by
  have h1 : SeqAt.shaped (TD.d x) = true := TD.shaped (by decide) x
  have h2 : SeqAt.shaped (TD.d y) = true := TD.shaped (by decide) y
  show (_ && _) = true
  exact Bool.and_eq_true_iff.mpr ⟨h1, h2⟩
theorem eqv_nil (xs : List Int) : PyData.eqv (.list (xs.map fun z => PyData.int z)) (.list []) = eqT xs [] := rfl
theorem eqv_int (x y : Int) : PyData.eqv (.int x) (.int y) = eqT x y := rfl
theorem figs_all {b : Int} {ds : List Int} (h : Figs b ds) : (ds.map fun z => PyData.int z).all (figB b) = true := by
  rw [List.all_eq_true]
  refine all_m fun x hx => ?_
  rw [figB, decide_eq_true (h x hx).1, decide_eq_true (h x hx).2]; rfl
theorem unAll_ints : ∀ xs : List Int, unAll (α := Int) (xs.map fun z => PyData.int z) = some xs
  | [] => rfl
  | x :: xs => by
    rw [List.map_cons, unAll, unAll_ints xs]; rfl
theorem unAll_rows : ∀ xs : List (List Int), unAll (α := List Int) (xs.map fun z => PyData.list (z.map fun z => PyData.int z)) = some xs
  | [] => rfl
  | x :: xs => by
    rw [List.map_cons, unAll, unAll_rows xs]
    show Option.bind (unAll (α := Int) (x.map fun z => PyData.int z)) _ = _
    rw [unAll_ints]; rfl
theorem number_by_D {b : Int} {ds : List Int} (h : 2 ≤ b) (h2 : b ≤ 16) (hn : Num b ds) (hl : ds.length ≤ 900) : number_by (.int b) (.list (ds.map fun z => .int z)) = some (.ok (val b ds)) := by
  obtain ⟨d, t, rfl, hz, hf⟩ := hn
  have hw := worth_eq h h2 hf (by omega)
  have hu : UD.un (α := List Int) (.list ((d :: t).map fun z => .int z)) = some (d :: t) := unAll_ints _
  unfold number_by
  rw [need_base_yes h h2, Option.bind_some, exB_ok, asInt, Option.bind_some, are_figures_big b (by rw [List.length_map]; omega), figs_all hf, Option.bind_some, if_neg (by exact nt), if_pos (EqOk_ints _), if_neg, asSeq, Option.bind_some]
  · by_cases h1 : 1 < (d :: t).length
    · rw [if_pos (by rw [decide_eq_true_eq, List.length_map]; omega), Option.bind_some, List.map_cons, atI0, Option.bind_some, if_pos (EqOk_int d 0), if_neg, ← List.map_cons (f := fun z => PyData.int z), hu, Option.bind_some, hw, Option.bind_some]
      rw [eqv_int, eqT_iff]
      rcases hz with rfl | hz
      · exact absurd h1 (Nat.lt_irrefl 1)
      · exact hz
    · rw [if_neg (by rw [decide_eq_true_eq, List.length_map]; omega), hu, Option.bind_some, hw, Option.bind_some]
  · rw [eqv_nil, eqT_iff]
    exact List.cons_ne_nil _ _
theorem is_base_yes {b : Int} (h : 2 ≤ b) (h2 : b ≤ 16) : is_base (.int b) = some true := by
  unfold is_base is_whole
  show (if decide ((2 : Int) ≤ b) = true then some (decide (b ≤ 16)) else some false) = _
  rw [if_pos (decide_eq_true h), decide_eq_true h2]
def wn (b : Int) (t : Str) : Bool := wrB b t && (decide (t.length = 1) || !decide ((figW t).headD 0 = 0))
theorem wn_Num {b : Int} (hb : 2 ≤ b) (h2 : b ≤ 16) {t : Str} (h : wn b t = true) : Num b (figW t) := by
  unfold wn at h
  rw [Bool.and_eq_true, Bool.or_eq_true] at h
  obtain ⟨hw, hz⟩ := h
  have hf := wr_Figs hb h2 hw
  have hl := figW_len t
  cases e : figW t with
  | nil => exact absurd e (wr_ne hb h2 hw)
  | cons d r =>
    refine ⟨d, r, rfl, ?_, e ▸ hf⟩
    rcases hz with hz | hz
    · have := of_decide_eq_true hz
      rw [e, List.length_cons] at hl
      exact .inl (List.length_eq_zero_iff.mp (by omega))
    · rw [e, Bool.not_eq_true', decide_eq_false_iff_not] at hz
      exact .inr hz
theorem read_number_D {b : Int} (hb : 2 ≤ b) (h2 : b ≤ 16) {t : Str} (hl : t.length ≤ 800) : read_number (.int b) (.str t) = some (if wn b t = true then .ok (val b (figW t)) else .error .NoText) := by
  unfold read_number
  rw [is_base_yes hb h2, Option.bind_some, if_neg (by exact nt), if_neg (by exact nt), asInt, Option.bind_some, asStr, Option.bind_some, read_figures_D hb h2 (by omega), Option.bind_some]
  by_cases hw : wrB b t = true
  case neg =>
    rw [if_neg hw, exB_err, if_neg]
    unfold wn
    rw [Bool.and_eq_true]; exact fun z => hw z.1
  rw [if_pos hw, exB_ok]
  have hlen := figW_len t
  have hne := wr_ne hb h2 hw
  by_cases hz : wn b t = true
  · have hn := wn_Num hb h2 hz
    have hnb := number_by_D hb h2 hn (by omega)
    rw [if_pos hz, hnb, Option.bind_some, exB_ok]
    obtain ⟨d, r, e, ht, _⟩ := hn
    rw [e]
    by_cases h1 : (1 : Int) < ((d :: r).length : Int)
    · rw [if_pos (decide_eq_true h1), atI0, Option.bind_some, if_neg]
      rw [decide_eq_true_eq]
      rcases ht with ht | ht
      · rw [ht, List.length_singleton] at h1; exact absurd h1 (by omega)
      · exact ht
    · rw [if_neg (by rw [decide_eq_true_eq]; exact h1)]
  · rw [if_neg hz]
    unfold wn at hz
    rw [hw, Bool.true_and, Bool.or_eq_true, not_or, decide_eq_true_eq, Bool.not_eq_true', decide_eq_false_iff_not] at hz
    obtain ⟨z1, z2⟩ := hz
    have z2 := Classical.not_not.mp z2
    cases e : figW t with
    | nil => exact absurd e hne
    | cons d r =>
      rw [e] at z2 hlen
      have z2 : d = 0 := z2
      rw [List.length_cons] at hlen
      rw [if_pos (decide_eq_true (by rw [List.length_cons]; omega)), atI0, Option.bind_some, if_pos (decide_eq_true z2)]
theorem writes_number_eq {b : Int} (hb : 2 ≤ b) (h2 : b ≤ 16) {t : Str} (hl : t.length ≤ 9000) : _law_writes_number b t = some (wn b t) := by
  have hl' : t.cps.toList.length = t.length := (TL.len_tl t).symm
  unfold _law_writes_number
  rw [if_pos SG_sz]
  by_cases hw : t = ("" : Str)
  · rw [if_pos (decide_eq_true hw)]
    unfold wn wrB
    rw [decide_eq_true hw]; rfl
  rw [if_neg (by rw [decide_eq_true_eq]; exact hw)]
  rw [forK_fmM (p := fun c => !inS b c) (g := fun c => (⟨#[c]⟩ : Str)) (B := 16777216) _ _ (fun acc x next hx hl2 => by
    rw [_law_writes_number_c1, if_pos hl2]; rfl) (by rw [List.length_nil]; omega), List.nil_append, _law_writes_number_k2]
  by_cases ha : t.cps.toList.all (inS b) = true
  case neg =>
    rw [if_pos]
    · unfold wn wrB
      rw [Bool.eq_false_iff.mpr ha, Bool.and_false, Bool.false_and]
    · rw [Bool.not_eq_true', ← Bool.not_eq_true, List.isEmpty_iff, List.map_eq_nil_iff, List.filter_eq_nil_iff]
      exact fun z => ha (List.all_eq_true.mpr fun c hc => by simpa using z c hc)
  have hr : wrB b t = true := by unfold wrB; rw [ha, decide_eq_false hw]; rfl
  rw [if_neg (by
    rw [Bool.not_eq_true', Bool.not_eq_false, List.isEmpty_iff, List.map_eq_nil_iff, List.filter_eq_nil_iff]
    exact fun c hc => by rw [List.all_eq_true.mp ha c hc]; decide), if_pos (by omega)]
  unfold wn
  rw [hr, Bool.true_and]
  by_cases h1 : t.length = 1
  · rw [if_pos (decide_eq_true (by omega)), decide_eq_true h1]; rfl
  rw [if_neg (by rw [decide_eq_true_eq]; omega), if_pos (by omega), decide_eq_false h1, Bool.false_or]
  have hne := wr_ne hb h2 hr
  unfold figW at hne ⊢
  cases e : t.cps.toList with
  | nil => rw [e] at hne; exact absurd rfl hne
  | cons c r =>
    rw [atI0, Option.bind_some]
    refine congrArg (fun z => some (!z)) (decide_eq_decide.mpr ?_)
    show _ ↔ sv c = 0
    obtain ⟨d, d0, d1, e1, e2, _⟩ := inS_sg hb h2 (List.all_eq_true.mp ha c (by rw [e]; exact List.mem_cons_self))
    obtain ⟨k, rfl⟩ : ∃ k : Nat, d = k := ⟨d.toNat, by omega⟩
    rw [e2, e1, sg0_fin ⟨k, by omega⟩]
    show k = 0 ↔ (k : Int) = 0
    omega
theorem show_number_D {b : Int} (hb : 2 ≤ b) (h2 : b ≤ 16) {ds : List Int} (hn : Num b ds) (hl : ds.length ≤ 900) : show_number (.int b) (.int (val b ds)) = some (.ok (textOf ds)) := by
  have hd := digs_of_val hb hn
  obtain ⟨d, r, e, hz, hf⟩ := hn
  have hv := val_bound (show 0 < b by omega) hf
  have hlt := val_lt hb h2 hf (n := 900) hl
  unfold show_number figures_of
  rw [need_base_yes hb h2, Option.bind_some, exB_ok, need_from_yes hv.1, Option.bind_some, exB_ok, asInt, Option.bind_some, asInt, Option.bind_some, written_eq hb (by omega) hv.1 (by
    refine Int.lt_of_lt_of_le (b := 2 ^ (4 * 900 + 1)) ?_ (pow_mono (by decide) (by decide))
    have h9 : ((val b ds).natAbs : Int) < ((2 ^ (4 * 900 + 1) : Nat) : Int) := Int.ofNat_lt.mpr hlt
    rw [Int.natCast_pow] at h9
    have : ((val b ds).natAbs : Int) = val b ds := by omega
    rw [this] at h9
    exact h9), Option.bind_some, Option.bind_some, exB_ok, hd, figures_text_eq h2 hf (by omega), Option.bind_some]
theorem show_number_base {a d : PyData} (h : is_base a = some false) : show_number a d = some (.error .NoBase) := by
  unfold show_number figures_of
  rw [need_base_no h, Option.bind_some, exB_err, Option.bind_some, exB_err]
theorem show_number_num {b : Int} {d : PyData} (h : 2 ≤ b) (h2 : b ≤ 16) (hd : need_from d 0 = some (.error .NoNumber)) : show_number (.int b) d = some (.error .NoNumber) := by
  unfold show_number figures_of
  rw [need_base_yes h h2, Option.bind_some, exB_ok, hd, Option.bind_some, exB_err, Option.bind_some, exB_err]
theorem read_number_base {a d : PyData} (h : is_base a = some false) : read_number a d = some (.error .NoBase) := by
  unfold read_number
  rw [h]; rfl
theorem read_number_text {b : Int} {d : PyData} (h : 2 ≤ b) (h2 : b ≤ 16) (hd : isStrD d = false) : read_number (.int b) d = some (.error .NoText) := by
  unfold read_number
  rw [is_base_yes h h2, Option.bind_some, if_neg (by exact nt), hd]; rfl
/-! #### a text's words -/
abbrev SP : Str := " "
theorem tl_SP : TL.tl SP = [32] := by decide +kernel
theorem spl_ne : ∀ (l acc : List Nat), TL.spl [32] 0 acc l ≠ []
  | [], acc => by rw [TL.spl_nil]; exact List.cons_ne_nil _ _
  | c :: r, acc => by
    cases h : TL.pre [32] (c :: r) with
    | true => rw [TL.spl_hit h]; exact List.cons_ne_nil _ _
    | false => rw [TL.spl_miss h]; exact spl_ne r _
theorem split_ne (t : Str) : Txt.split t SP ≠ [] := fun e => by
  have h := TL.split_spl t SP (by rw [tl_SP]; exact List.cons_ne_nil _ _) (TL.kind_ok (by decide +kernel))
  rw [e, tl_SP, List.map_nil] at h
  exact spl_ne _ _ h.symm
theorem join_back (t : Str) : Txt.join SP (Txt.split t SP) = t := by rw [TL.join_eq, PySem.StrLaws.join_split]
theorem joinL_ge : ∀ ls : List (List Nat), ls.length ≤ (TL.joinL [32] ls).length + 1 ∧ ∀ p ∈ ls, p.length ≤ (TL.joinL [32] ls).length
  | [] => ⟨Nat.zero_le _, fun p h => absurd h List.not_mem_nil⟩
  | [p] => ⟨by rw [List.length_singleton]; omega, fun q h => by rw [List.mem_singleton.mp h]; exact Nat.le_refl _⟩
  | p :: q :: r => by
    obtain ⟨h1, h2⟩ := joinL_ge (q :: r)
    have e : (TL.joinL [32] (p :: q :: r)).length = p.length + (1 + (TL.joinL [32] (q :: r)).length) := by
      show (p ++ ([32] ++ TL.joinL [32] (q :: r))).length = _
      rw [List.length_append, List.length_append]; rfl
    refine ⟨by rw [List.length_cons, e]; omega, fun x hx => ?_⟩
    rw [e]
    rcases List.mem_cons.mp hx with h | h
    · rw [h]; omega
    · have := h2 x h; omega
theorem words_len (t : Str) : (Txt.split t SP).length ≤ t.length + 1 ∧ ∀ w ∈ Txt.split t SP, w.length ≤ t.length := by
  have e : TL.tl t = TL.joinL [32] ((Txt.split t SP).map TL.tl) := by
    conv => lhs; rw [← join_back t, TL.join_eq, TL.tl_join, tl_SP]
  obtain ⟨h1, h2⟩ := joinL_ge ((Txt.split t SP).map TL.tl)
  rw [← e, ← TL.len_tl, List.length_map] at h1
  refine ⟨h1, fun w hw => ?_⟩
  have := h2 _ (List.mem_map_of_mem hw)
  rw [← e, ← TL.len_tl, ← TL.len_tl] at this
  exact this
/-- a loop that may end early -/
theorem forK_exit {α β ρ : Type} {f : List β → α → (List β → Option ρ) → Option ρ} {K : List β → Option ρ} {p : α → Bool} {g : α → β} {c : Option ρ} {B : Nat} :
    ∀ (xs : List α) (acc : List β), (∀ acc x next, x ∈ xs → acc.length < B → f acc x next = if p x = true then next (acc ++ [g x]) else c) → acc.length + xs.length ≤ B → forK f xs acc K = if xs.all p = true then K (acc ++ xs.map g) else c
  | [], acc, _, _ => by rw [List.all_nil, if_pos rfl, List.map_nil, List.append_nil]; rfl
  | x :: xs, acc, h, hB => by
    rw [List.length_cons] at hB
    show f acc x _ = _
    rw [h acc x _ List.mem_cons_self (by omega), List.all_cons]
    cases hp : p x with
    | true =>
      rw [if_pos rfl, Bool.true_and]
      have := forK_exit (K := K) xs (acc ++ [g x]) (fun acc y next hy => h acc y next (List.mem_cons_of_mem _ hy)) (by rw [List.length_append, List.length_singleton]; omega)
      rw [List.append_assoc] at this
      exact this
    | false => rw [if_neg Bool.false_ne_true, Bool.false_and, if_neg Bool.false_ne_true]
/-! #### the base ahead -/
theorem itext_fin : ∀ b : Fin 17, PySem.intText? (Str.ofString (toString ((b.val : Nat) : Int))) = some ((b.val : Nat) : Int) := by decide +kernel
theorem eqT_str (x y : Str) : eqT x y = decide (x = y) := by
  show PyData.eqv (.str x) (.str y) = _
  by_cases h : x = y
  · rw [decide_eq_true h, h]; simp [PyData.eqv]
  · rw [decide_eq_false h]; simp [PyData.eqv, h]
def strB10 (b : Int) : Str := Str.ofString (toString b)
theorem memT_bases (w : Str) : memT w ((irange 2 17).map strB10) = true ↔ ∃ b : Int, 2 ≤ b ∧ b ≤ 16 ∧ strB10 b = w := by
  unfold memT
  rw [List.any_map, List.any_eq_true]
  constructor
  · rintro ⟨b, hb, h⟩
    have hb := irange_mem.mp hb
    have h : eqT (strB10 b) w = true := h
    rw [eqT_str, decide_eq_true_eq] at h
    exact ⟨b, hb.1, by omega, h⟩
  · rintro ⟨b, h1, h2, h⟩
    refine ⟨b, irange_mem.mpr ⟨h1, by omega⟩, ?_⟩
    show eqT (strB10 b) w = true
    rw [eqT_str, decide_eq_true_eq]; exact h
/-! #### rows of figures, rising -/
theorem pw_of : ∀ xs : List (List Int), (∀ k (h : k + 1 < xs.length), ltT xs[k] xs[k + 1] = true) → xs.Pairwise fun a b => ltT a b = true
  | [], _ => .nil
  | [x], _ => List.pairwise_singleton _ _
  | x :: y :: r, h => by
    have ih := pw_of (y :: r) fun k hk => h (k + 1) (by rw [List.length_cons]; omega)
    have h0 : ltT x y = true := h 0 (by rw [List.length_cons, List.length_cons]; omega)
    refine List.pairwise_cons.mpr ⟨fun z hz => ?_, ih⟩
    rcases List.mem_cons.mp hz with e | e
    · rw [e]; exact h0
    · exact ltT_trans h0 ((List.pairwise_cons.mp ih).1 z e)
theorem sort_same {xs : List (List Int)} : (xs = sortT xs ∧ xs.Nodup) ↔ xs.Pairwise fun a b => ltT a b = true := by
  constructor
  · rintro ⟨h, nd⟩
    rw [h]; exact sortT_lt nd
  · intro h
    have nd : xs.Nodup := h.imp fun {a b} h e => by rw [e, ltT_irr] at h; cases h
    refine ⟨?_, nd⟩
    refine List.Perm.eq_of_pairwise (le := fun a b => ltT a b = true) (fun a b _ _ h1 h2 => ?_) h (sortT_lt nd) (sortT_perm xs).symm
    have := ltT_trans h1 h2
    rw [ltT_irr] at this; cases this
theorem cnt_once {xs : List (List Int)} : xs.filter (fun t => decide ((1 : Int) < ((cntT t xs : Nat) : Int))) = [] ↔ xs.Nodup := by
  have e : ∀ t : List Int, cntT t xs = xs.count t := fun t => by
    unfold cntT List.count
    refine List.countP_congr fun x _ => ?_
    rw [eqT_iff, beq_iff_eq]
  rw [List.filter_eq_nil_iff, List.nodup_iff_count]
  constructor
  · intro h a
    by_cases ha : a ∈ xs
    · have := h a ha
      rw [decide_eq_true_eq, e] at this
      omega
    · rw [List.count_eq_zero.mpr ha]; exact Nat.zero_le _
  · intro h a _
    have := h a
    rw [decide_eq_true_eq, e]; omega
/-! #### rules as data -/
theorem GoodRule.rows {rule : Int × List (List Int)} (g : GoodRule rule) : ∀ s ∈ rule.2, Rw s := fun s hs => ⟨(g.figs s hs).2.2, fun x hx => by
  have := (g.figs s hs).1 x hx
  have := g.hi
  exact ⟨by omega, by omega⟩⟩
theorem GoodRule.lv {rule : Int × List (List Int)} (g : GoodRule rule) : Lv 4 (.tuple [.int rule.1, .list (rule.2.map fun z => .list (z.map fun z => .int z))]) :=
  .tuple (by simp only [List.length_cons, List.length_nil]; omega) (all_c (.int (by have := g.lo; have := g.hi; omega)) <| all_c (.rows (k := 1) (by have := g.few; omega) g.rows) all_n)
theorem GoodRule.isRule {rule : Int × List (List Int)} (g : GoodRule rule) : RuleD (.tuple [.int rule.1, .list (rule.2.map fun z => .list (z.map fun z => .int z))]) := by
  refine ⟨_, _, rfl, g.lo, g.hi, by rw [List.length_map]; exact g.few, all_m fun s hs => ?_, fun k hk => ?_⟩
  · obtain ⟨f1, f2, f3⟩ := g.figs s hs
    rw [strB, List.length_map, decide_eq_true f2, decide_eq_true f3, Bool.and_self, Bool.and_true, List.all_eq_true]
    refine all_m fun x hx => ?_
    rw [figB, decide_eq_true (f1 x hx).1, decide_eq_true (f1 x hx).2]; rfl
  · rw [List.length_map] at hk
    rw [List.getElem_map, List.getElem_map]
    exact List.pairwise_iff_getElem.mp g.sorted k (k + 1) (by omega) hk (Nat.lt_succ_self _)
def dat (r : Int × List (List Int)) : PyData := .tuple [.int r.1, .list (r.2.map fun z => .list (z.map fun z => .int z))]
theorem W2_ints {xs : List (List Int)} (h : ∀ x ∈ xs, x.length ≤ 1000) : W2 (.list (xs.map fun z => .list (z.map fun z => .int z))) := fun ys e y hy zs ez => by
  injection e with e
  subst e
  obtain ⟨x, hx, rfl⟩ := List.mem_map.mp hy
  injection ez with ez
  subst ez
  rw [List.length_map]; exact h x hx
theorem is_rule_says {b : Int} {xs : List (List Int)} (h : ∀ x ∈ xs, x.length ≤ 1000) : Says (RuleD (dat (b, xs))) (is_rule (dat (b, xs))) := is_rule_D fun a c e => by
  unfold dat at e
  injection e with e; injection e with _ e; injection e with e _
  rw [← e]; exact W2_ints h
theorem rule_back {b : Int} {xs : List (List Int)} (h : RuleD (dat (b, xs))) : GoodRule (b, xs) := by
  obtain ⟨b', ys, e, h1, h2, h4, hs, hh⟩ := h
  unfold dat at e
  injection e with e; injection e with e1 e2; injection e1 with e1; injection e2 with e2 _; injection e2 with e2
  subst e1 e2
  rw [List.length_map] at h4
  refine ⟨h1, h2, h4, fun s hm => ?_, pw_of xs fun k hk => ?_⟩
  · have := hs _ (List.mem_map_of_mem hm)
    rw [strB, List.length_map, Bool.and_eq_true, Bool.and_eq_true, decide_eq_true_eq, decide_eq_true_eq, List.all_eq_true] at this
    refine ⟨fun d hd => ?_, this.2.1, this.2.2⟩
    have := this.1 _ (List.mem_map_of_mem hd)
    rw [figB, Bool.and_eq_true, decide_eq_true_eq, decide_eq_true_eq] at this
    exact this
  · have := hh k (by rw [List.length_map]; exact hk)
    rw [List.getElem_map, List.getElem_map] at this
    exact this
theorem is_rule_dat {b : Int} {xs : List (List Int)} (h : ∀ x ∈ xs, x.length ≤ 1000) : (GoodRule (b, xs) ∧ is_rule (dat (b, xs)) = some true) ∨ (¬ GoodRule (b, xs) ∧ is_rule (dat (b, xs)) = some false) := by
  obtain ⟨r, e, q⟩ := is_rule_says (b := b) h
  cases r with
  | true => exact .inl ⟨rule_back (q.mp rfl), e⟩
  | false => exact .inr ⟨fun g => absurd (q.mpr g.isRule) Bool.false_ne_true, e⟩
def ruleText (r : Int × List (List Int)) : Str := Txt.join SP (strB10 r.1 :: r.2.map textOf)
theorem words_sum {r : Int × List (List Int)} (g : GoodRule r) : ((strB10 r.1 :: r.2.map textOf).map (·.length)).sum ≤ 18 := by
  have h1 := base_len (show 0 ≤ r.1 by have := g.lo; omega) g.hi
  rw [List.map_cons, List.sum_cons]
  have h2 : ∀ ws : List (List Int), (∀ w ∈ ws, w.length ≤ 4) → ((ws.map textOf).map (·.length)).sum ≤ 4 * ws.length := by
    intro ws
    induction ws with
    | nil => intro _; exact Nat.le_refl _
    | cons w ws ih =>
      intro h
      have a := h w List.mem_cons_self
      have b := ih fun z hz => h z (List.mem_cons_of_mem _ hz)
      rw [List.map_cons, List.map_cons, List.sum_cons, textOf_len, List.length_cons]
      omega
  have := h2 r.2 fun w hw => (g.figs w hw).2.2
  have := g.few
  unfold strB10
  omega
theorem show_rule_D {r : Int × List (List Int)} (g : GoodRule r) : show_rule (dat r) = some (.ok (ruleText r)) := by
  have h0 := g.lo
  have h1 := g.hi
  have h2 := g.few
  obtain ⟨b, xs⟩ := r
  have hr : is_rule (dat (b, xs)) = some true := by
    rcases is_rule_dat (b := b) (xs := xs) (fun x hx => by have := (g.figs x hx).2.2; omega) with z | z
    · exact z.2
    · exact absurd g z.1
  unfold show_rule
  rw [hr, Option.bind_some, if_neg (by exact nt)]
  unfold dat
  rw [asSeq, Option.bind_some, atI0, Option.bind_some, asInt, Option.bind_some, if_pos (log_small (by omega) h1), Option.bind_some, atI_get (k := 1) (by decide) (by exact Nat.lt_succ_self 1), Option.bind_some]
  show ((asLst (.list (xs.map fun z => PyData.list (z.map fun z => PyData.int z)))).bind _) = _
  show forK show_rule_c1 (xs.map fun z => PyData.list (z.map fun z => PyData.int z)) [] (show_rule_k2 b) = _
  rw [forK_fmM (p := fun _ => true) (g := fun d => textOf ((UD.un (α := List Int) d).getD [])) (B := 16777216) _ _ (fun acc x next hx hl2 => by
    obtain ⟨y, hy, rfl⟩ := List.mem_map.mp hx
    have := g.figs y hy
    have hu : UD.un (α := List Int) (.list (y.map fun z => .int z)) = some y := unAll_ints _
    rw [show_rule_c1, hu, Option.bind_some, figures_text_eq h1 this.1 (by omega), Option.bind_some, if_pos hl2, if_pos rfl]; rfl) (by rw [List.length_nil, List.length_map]; show 0 + xs.length ≤ _; have : xs.length ≤ 4 := h2; omega), filter_true, List.nil_append, List.map_map]
  rw [show xs.map ((fun d => textOf ((UD.un (α := List Int) d).getD [])) ∘ fun z => PyData.list (z.map fun z => PyData.int z)) = xs.map textOf from List.map_congr_left fun y hy => by
    have hu : UD.un (α := List Int) (.list (y.map fun z => .int z)) = some y := unAll_ints _
    show textOf ((UD.un (α := List Int) (.list (y.map fun z => .int z))).getD []) = _
    rw [hu]; rfl]
  have h3 := words_sum g
  have h3 : ((Str.ofString (toString b) :: xs.map textOf).map (·.length)).sum ≤ 18 := h3
  have h2' : xs.length ≤ 4 := h2
  rw [show_rule_k2, if_pos (by rw [List.length_singleton, List.length_map]; omega), List.singleton_append, if_pos (by rw [List.length_cons, List.length_map, sp_len]; omega)]
  rfl
/-! #### rules read -/
theorem base_pick {w : Str} : (∃ b : Int, 2 ≤ b ∧ b ≤ 16 ∧ strB10 b = w ∧ (irange 2 17).filter (fun t => decide (strB10 t = w)) = [b]) ∨ ((∀ b : Int, 2 ≤ b → b ≤ 16 → strB10 b ≠ w) ∧ (irange 2 17).filter (fun t => decide (strB10 t = w)) = []) := by
  by_cases h : ∃ b : Int, 2 ≤ b ∧ b ≤ 16 ∧ strB10 b = w
  · obtain ⟨b, h1, h2, rfl⟩ := h
    refine .inl ⟨b, h1, h2, rfl, ?_⟩
    rw [← bases_eq h1 h2]
    refine List.filter_congr fun t ht => ?_
    have ht := irange_mem.mp ht
    exact decide_eq_decide.mpr ⟨fun e => base_inj (by omega) (by omega) e, fun e => by rw [e]⟩
  · refine .inr ⟨fun b h1 h2 e => h ⟨b, h1, h2, e⟩, List.filter_eq_nil_iff.mpr fun t ht => ?_⟩
    have ht := irange_mem.mp ht
    rw [decide_eq_true_eq]
    exact fun e => h ⟨t, ht.1, by omega, e⟩
def okW (b : Int) (w : Str) : Bool := wrB b w && decide (w.length ≤ 4)
theorem rule_read {t : Str} (hl : t.length ≤ 900) : (∃ r, GoodRule r ∧ read_rule (.str t) = some (.ok r) ∧ _law_writes_rule t = some true ∧ ruleText r = t) ∨ (read_rule (.str t) = some (.error .NoText) ∧ _law_writes_rule t = some false) := by
  obtain ⟨wl1, wl2⟩ := words_len t
  have jb := join_back t
  cases ew : Txt.split t SP with
  | nil => exact absurd ew (split_ne t)
  | cons w ws =>
  rw [ew] at wl1 wl2 jb
  rw [List.length_cons] at wl1
  have wl : ∀ x ∈ ws, x.length ≤ 900 := fun x hx => Nat.le_trans (wl2 x (List.mem_cons_of_mem _ hx)) hl
  have hd1 : cutT (w :: ws) (some (1 : Int)) none = ws := by
    rw [cut_drop (by decide) (by rw [List.length_cons]; omega)]; rfl
  have R1 : read_rule (.str t) = read_rule_k2 t ((irange 2 17).filter (fun z => decide (strB10 z = w))) := by
    unfold read_rule
    rw [if_neg (by exact nt), asStr, Option.bind_some, if_pos (by omega)]
    rw [forK_fmM (p := fun z => decide (strB10 z = w)) (g := fun z => z) (B := 16777216) _ _ (fun acc x next hx hl2 => by
      have hx := irange_mem.mp hx
      rw [read_rule_c1, if_pos (log_small (by omega) (by omega)), ew, atI0, Option.bind_some, if_pos hl2]; rfl) (by rw [List.length_nil, irange_len]; decide), List.nil_append, List.map_id']
  have L1 : _law_writes_rule t = _law_writes_rule_k2 w t ((irange 2 17).map strB10) := by
    unfold _law_writes_rule
    rw [if_pos (by omega), ew, atI0, Option.bind_some]
    rw [forK_fmM (p := fun _ => true) (g := strB10) (B := 16777216) _ _ (fun acc x next hx hl2 => by
      have hx := irange_mem.mp hx
      rw [_law_writes_rule_c1, if_pos (log_small (by omega) (by omega)), if_pos hl2, if_pos rfl]; rfl) (by rw [List.length_nil, irange_len]; decide), filter_true, List.nil_append]
  rcases base_pick (w := w) with ⟨b, hb, h2, eb, ef⟩ | ⟨hno, ef⟩
  case inr =>
    refine .inr ⟨?_, ?_⟩
    · rw [R1, read_rule_k2, ef, if_pos (eqT_iff.mpr rfl)]
    · rw [L1, _law_writes_rule_k2, if_pos]
      rw [Bool.not_eq_true', ← Bool.not_eq_true, memT_bases]
      rintro ⟨b, h1, h2, e⟩
      exact hno b h1 h2 e
  have hi : PySem.intText? w = some b := by
    obtain ⟨n, rfl⟩ : ∃ n : Nat, b = n := ⟨b.toNat, by omega⟩
    rw [← eb]
    exact itext_fin ⟨n, by omega⟩
  have hw2 : w.length ≤ 2 := by rw [← eb]; exact base_len (by omega) h2
  have R2 : read_rule (.str t) = if ws.all (wrB b) = true then read_rule_k4 b (ws.map figW) else some (.error .NoText) := by
    rw [R1, read_rule_k2, ef, if_neg (by rw [Bool.not_eq_true, eqT_no]; exact List.cons_ne_nil _ _), atI0, Option.bind_some, ew, hd1]
    rw [forK_exit (p := wrB b) (g := figW) (c := some (.error .NoText)) (B := 16777216) _ _ (fun acc x next hx hl2 => by
      rw [read_rule_c3, atI0, Option.bind_some, read_figures_D hb h2 (by have := wl x hx; omega), Option.bind_some]
      by_cases hr : wrB b x = true
      · rw [if_pos hr, if_pos hr, exB_ok, if_pos hl2]
      · rw [if_neg hr, if_neg hr, exB_err]) (by rw [List.length_nil]; omega), List.nil_append]
  have L2 : _law_writes_rule t = if decide ((5 : Int) < ((w :: ws).length : Int)) = true then some false else forK (_law_writes_rule_b3 b) ws ([] : List (List Int)) _law_writes_rule_e4 := by
    rw [L1, _law_writes_rule_k2, if_neg (by rw [(memT_bases w).mpr ⟨b, hb, h2, eb⟩]; exact nt), ew]
    by_cases h5 : decide ((5 : Int) < ((w :: ws).length : Int)) = true
    · rw [if_pos h5, if_pos h5]
    rw [if_neg h5, if_neg h5, hd1, atI0, Option.bind_some, hi, Option.bind_some, if_pos (by omega), if_pos SG_sz]
  rw [R2]
  have fl : ∀ x ∈ ws.map figW, x.length ≤ 1000 := fun x hx => by
    obtain ⟨y, hy, rfl⟩ := List.mem_map.mp hx
    rw [figW_len]
    have := wl y hy; omega
  have hk4 : read_rule_k4 b (ws.map figW) = ((is_rule (dat (b, ws.map figW))).bind fun r2 => (if (!r2) = true then (some (.error .NoText)) else (some (.ok (b, ws.map figW))))) := rfl
  have back : (∀ x ∈ ws, wrB b x = true) → ruleText (b, ws.map figW) = t := fun h => by
    unfold ruleText
    rw [eb, List.map_map, show ws.map (textOf ∘ figW) = ws from by
      conv => rhs; rw [← List.map_id ws]
      exact List.map_congr_left fun x hx => wr_text hb h2 (h x hx)]
    exact jb
  by_cases h5 : ws.length ≤ 4
  case neg =>
    refine .inr ⟨?_, by rw [L2, if_pos (by rw [decide_eq_true_eq, List.length_cons]; omega)]⟩
    by_cases ha : ws.all (wrB b) = true
    · rw [if_pos ha, hk4]
      rcases is_rule_dat (b := b) fl with ⟨g, _⟩ | ⟨_, e⟩
      · have := g.few
        rw [List.length_map] at this
        exact absurd this h5
      · rw [e]; rfl
    · rw [if_neg ha]
  have L3 : _law_writes_rule t = if ws.all (okW b) = true then _law_writes_rule_e4 (ws.map figW) else some false := by
    rw [L2, if_neg (by rw [decide_eq_true_eq, List.length_cons]; omega)]
    rw [forK_exit (p := okW b) (g := figW) (c := some false) (B := 16777216) _ _ (fun acc x next hx hl2 => by
      have hx9 := wl x hx
      have hx' : x.cps.toList.length = x.length := (TL.len_tl x).symm
      rw [_law_writes_rule_b3, if_pos (by omega)]
      by_cases h1 : 1 ≤ x.length
      case neg =>
        rw [if_neg (by rw [decide_eq_true_eq]; omega), if_neg]
        unfold okW
        rw [Bool.and_eq_true]
        rintro ⟨z, _⟩
        have := wr_ne hb h2 z
        have e := figW_len x
        exact this (List.length_eq_zero_iff.mp (by omega))
      rw [if_pos (by rw [decide_eq_true_eq]; omega)]
      by_cases h4 : x.length ≤ 4
      case neg =>
        rw [if_pos (by rw [Bool.not_eq_true', decide_eq_false_iff_not]; omega), if_neg]
        unfold okW
        rw [Bool.and_eq_true, decide_eq_true_eq]
        exact fun z => h4 z.2
      rw [if_neg (by rw [Bool.not_eq_true', decide_eq_false_iff_not]; omega)]
      rw [forK_fmM (p := fun c => !inS b c) (g := fun c => (⟨#[c]⟩ : Str)) (B := 16777216) _ _ (fun acc x next hx hl2 => by
        rw [_law_writes_rule_c5, if_pos hl2]; rfl) (by rw [List.length_nil]; omega), List.nil_append, _law_writes_rule_k6]
      have hx0 : x ≠ ("" : Str) := fun e => by
        rw [e, emp_len0] at h1; omega
      by_cases ha : x.cps.toList.all (inS b) = true
      case neg =>
        rw [if_pos, if_neg]
        · unfold okW wrB
          rw [Bool.and_eq_true, Bool.and_eq_true]; exact fun z => ha z.1.2
        · rw [Bool.not_eq_true', ← Bool.not_eq_true, List.isEmpty_iff, List.map_eq_nil_iff, List.filter_eq_nil_iff]
          exact fun z => ha (List.all_eq_true.mpr fun c hc => by simpa using z c hc)
      have hr : wrB b x = true := by unfold wrB; rw [ha, decide_eq_false hx0]; rfl
      rw [if_neg (by
        rw [Bool.not_eq_true', Bool.not_eq_false, List.isEmpty_iff, List.map_eq_nil_iff, List.filter_eq_nil_iff]
        exact fun c hc => by rw [List.all_eq_true.mp ha c hc]; decide), if_pos (by unfold okW; rw [hr, decide_eq_true h4]; rfl)]
      rw [forK_fmM (p := fun _ => true) (g := sv) (B := 16777216) _ _ (fun acc x next hx hl2 => by
        obtain ⟨d, _, _, _, e, _, e2⟩ := inS_sg hb h2 (List.all_eq_true.mp ha x hx)
        rw [_law_writes_rule_c7, e2, Option.bind_some, if_pos hl2, if_pos rfl, e]
        have : ((d.toNat : Nat) : Int) = d := by omega
        rw [this]) (by rw [List.length_nil]; omega), filter_true, List.nil_append, _law_writes_rule_k8, if_pos hl2]
      rfl) (by rw [List.length_nil]; omega), List.nil_append]
  rw [L3]
  by_cases ho : ws.all (okW b) = true
  case neg =>
    refine .inr ⟨?_, by rw [if_neg ho]⟩
    by_cases ha : ws.all (wrB b) = true
    · rw [if_pos ha, hk4]
      rcases is_rule_dat (b := b) fl with ⟨g, _⟩ | ⟨_, e⟩
      · refine absurd (List.all_eq_true.mpr fun x hx => ?_) ho
        have := (g.figs _ (List.mem_map_of_mem hx)).2.2
        rw [figW_len] at this
        unfold okW
        rw [List.all_eq_true.mp ha x hx, decide_eq_true this]; rfl
      · rw [e]; rfl
    · rw [if_neg ha]
  have ha : ∀ x ∈ ws, wrB b x = true := fun x hx => by
    have := List.all_eq_true.mp ho x hx
    unfold okW at this
    rw [Bool.and_eq_true] at this
    exact this.1
  rw [if_pos (List.all_eq_true.mpr ha), if_pos ho, hk4]
  have L4 : _law_writes_rule_e4 (ws.map figW) = (if (eqT (ws.map figW) (sortT (ws.map figW))) = true then some (eqT ((ws.map figW).filter (fun t => decide ((1 : Int) < ((cntT t (ws.map figW) : Nat) : Int)))) []) else some false) := by
    rw [_law_writes_rule_e4]
    rw [forK_fmM (p := fun t => decide ((1 : Int) < ((cntT t (ws.map figW) : Nat) : Int))) (g := fun t => t) (B := 16777216) _ _ (fun acc x next hx hl2 => by
      rw [_law_writes_rule_c9, if_pos hl2]) (by rw [List.length_nil, List.length_map]; omega), List.nil_append, List.map_id', _law_writes_rule_k10, if_pos (by rw [List.length_map]; omega)]
  rcases is_rule_dat (b := b) fl with ⟨g, e⟩ | ⟨g, e⟩
  · refine .inl ⟨(b, ws.map figW), g, by rw [e]; rfl, ?_, back ha⟩
    obtain ⟨s1, s2⟩ := sort_same.mpr g.sorted
    have s1 : ws.map figW = sortT (ws.map figW) := s1
    rw [L4, if_pos (eqT_iff.mpr s1), eqT_iff.mpr (cnt_once.mpr s2)]
  · refine .inr ⟨by rw [e]; rfl, ?_⟩
    rw [L4]
    by_cases s1 : ws.map figW = sortT (ws.map figW)
    · rw [if_pos (eqT_iff.mpr s1), eqT_no.mpr]
      intro s2
      refine g ⟨hb, h2, by rw [List.length_map]; exact h5, fun s hs => ?_, sort_same.mp ⟨s1, cnt_once.mp s2⟩⟩
      obtain ⟨x, hx, rfl⟩ := List.mem_map.mp hs
      have := List.all_eq_true.mp ho x hx
      unfold okW at this
      rw [Bool.and_eq_true, decide_eq_true_eq] at this
      have hn := List.length_pos_iff.mpr (wr_ne hb h2 (ha x hx))
      have hfl := figW_len x
      exact ⟨wr_Figs hb h2 (ha x hx), hn, by omega⟩
    · rw [if_neg (fun z => s1 (eqT_iff.mp z))]
/-! #### what is asked -/
section
variable {b th : PyData}
theorem asked0_ok {r : Int × List (List Int)} (h : read_rule th = some (.ok r)) : _law_asked 0 b th = some [.bool false, dat r] := by
  unfold _law_asked
  rw [if_pos (by decide), h, Option.bind_some, exB_ok]; rfl
theorem asked0_text (h : read_rule th = some (.error .NoText)) : _law_asked 0 b th = some [.bool true, .str ("text" : Str)] := by
  unfold _law_asked
  rw [if_pos (by decide), h, Option.bind_some, exB_err]; rfl
theorem asked1_ok {n : Int} (h : read_number b th = some (.ok n)) : _law_asked 1 b th = some [.bool false, .int n] := by
  unfold _law_asked
  rw [if_neg (by decide), if_pos (by decide), h, Option.bind_some, exB_ok]; rfl
theorem asked1_text (h : read_number b th = some (.error .NoText)) : _law_asked 1 b th = some [.bool true, .str ("text" : Str)] := by
  unfold _law_asked
  rw [if_neg (by decide), if_pos (by decide), h, Option.bind_some, exB_err]; rfl
theorem asked1_base (h : read_number b th = some (.error .NoBase)) : _law_asked 1 b th = some [.bool true, .str ("base" : Str)] := by
  unfold _law_asked
  rw [if_neg (by decide), if_pos (by decide), h, Option.bind_some, exB_err]; rfl
theorem asked2_ok {t : Str} (h : show_rule th = some (.ok t)) : _law_asked 2 b th = some [.bool false, .str t] := by
  unfold _law_asked
  rw [if_neg (by decide), if_neg (by decide), if_pos (by decide), h, Option.bind_some, exB_ok]; rfl
theorem asked2_rule (h : show_rule th = some (.error .NoRule)) : _law_asked 2 b th = some [.bool true, .str ("rule" : Str)] := by
  unfold _law_asked
  rw [if_neg (by decide), if_neg (by decide), if_pos (by decide), h, Option.bind_some, exB_err]; rfl
theorem asked3_ok {t : Str} (h : show_number b th = some (.ok t)) : _law_asked 3 b th = some [.bool false, .str t] := by
  unfold _law_asked
  rw [if_neg (by decide), if_neg (by decide), if_neg (by decide), h, Option.bind_some, exB_ok]; rfl
theorem asked3_base (h : show_number b th = some (.error .NoBase)) : _law_asked 3 b th = some [.bool true, .str ("base" : Str)] := by
  unfold _law_asked
  rw [if_neg (by decide), if_neg (by decide), if_neg (by decide), h, Option.bind_some, exB_err]; rfl
theorem asked3_number (h : show_number b th = some (.error .NoNumber)) : _law_asked 3 b th = some [.bool true, .str ("number" : Str)] := by
  unfold _law_asked
  rw [if_neg (by decide), if_neg (by decide), if_neg (by decide), h, Option.bind_some, exB_err]; rfl
end
/-! #### the law's comparisons -/
theorem strOk_len {z : Str} (h : ∀ c ∈ z.cps.toList, c < 0x110000) : PyData.strOk z = true := by
  unfold PyData.strOk
  rw [← Array.all_toList, List.all_eq_true]
  exact fun c hc => decide_eq_true (h c hc)
theorem eqv_two (x : Bool) (a b : Str) : PyData.eqv (.list [.bool x, .str a]) (.list [.bool x, .str b]) = decide (a = b) := by
  have h := eqT_str a b
  have h' : PyData.eqv (.str a) (.str b) = decide (a = b) := h
  simp only [PyData.eqv, PyData.eqvAll, Bool.and_true, beq_self_eq_true, Bool.true_and]
  exact Bool.eq_iff_iff.mpr (by rw [beq_iff_eq, decide_eq_true_eq])
/-! #### the given texts -/
def CK (l : List Nat) : Prop := ∀ c ∈ l, c < 0x110000
def TOk (t : Str) : Prop := t.length ≤ 300 ∧ CK (TL.tl t)
def tokB (t : Str) : Bool := decide (t.length ≤ 300) && (TL.tl t).all fun c => decide (c < 0x110000)
theorem tok_of {t : Str} (h : tokB t = true) : TOk t := by
  unfold tokB at h
  rw [Bool.and_eq_true, decide_eq_true_eq, List.all_eq_true] at h
  exact ⟨h.1, fun c hc => of_decide_eq_true (h.2 c hc)⟩
theorem CK.app {a b : List Nat} (h : CK a) (k : CK b) : CK (a ++ b) := fun c hc => (List.mem_append.mp hc).elim (h c) (k c)
theorem tl_cutS (z : Str) (lo hi : Option Int) : TL.tl (cutS z lo hi) = ((TL.tl z).drop (HT.sIx z.length 0 lo)).take (HT.sIx z.length z.length hi - HT.sIx z.length 0 lo) := rfl
theorem cutS_len (z : Str) (lo hi : Option Int) : (cutS z lo hi).length ≤ z.length := by
  rw [TL.len_tl, tl_cutS, TL.len_tl z, List.length_take, List.length_drop]; omega
theorem cutS_ck {z : Str} {lo hi : Option Int} (h : CK (TL.tl z)) : CK (TL.tl (cutS z lo hi)) := fun c hc => by
  rw [tl_cutS] at hc
  exact h c (List.mem_of_mem_drop (List.mem_of_mem_take hc))
theorem len_app (a b : Str) : (a ++ b).length = a.length + b.length := by
  rw [TL.len_tl, TL.tl_append, List.length_append, ← TL.len_tl, ← TL.len_tl]
theorem ck_app {a b : Str} (h : CK (TL.tl a)) (k : CK (TL.tl b)) : CK (TL.tl (a ++ b)) := by rw [TL.tl_append]; exact h.app k
theorem j4_ok {x3 x4 : Str} {cell : Int} (h3 : x3.length ≤ 290) (c3 : CK (TL.tl x3)) (h4 : 0 < x4.length) (h4' : x4.length ≤ 300) (c4 : CK (TL.tl x4)) : Ok (_law_given_j4 x3 cell x4) TOk := by
  have m0 := Int.emod_nonneg (cell / 24000) (show (x4.length : Int) ≠ 0 by omega)
  have m1 := Int.emod_lt_of_pos (cell / 24000) (show (0 : Int) < (x4.length : Int) by omega)
  have hx4 : x4.cps.toList.length = x4.length := (TL.len_tl x4).symm
  rw [_law_given_j4]
  refine Ok.guard (by omega) (Ok.guard (Dv_small (by omega) (by omega)) (Ok.guard (by omega) (Ok.guard (Dv_small (by omega) (by omega)) (Ok.guard (by omega) ?_))))
  refine Ok.bind (P := fun c => c < 0x110000) (atI_ok c4 m0 (by rw [hx4]; exact m1)) fun c hc => ?_
  have l1 : ∀ lo hi, (cutS x3 lo hi).length ≤ 290 := fun lo hi => Nat.le_trans (cutS_len _ _ _) h3
  have ls : (⟨#[c]⟩ : Str).length = 1 := rfl
  have cs : CK (TL.tl (⟨#[c]⟩ : Str)) := fun d hd => by
    rw [List.mem_singleton.mp (show d ∈ [c] from hd)]; exact hc
  refine Ok.ite (fun _ => ?_) fun _ => ?_
  · refine Ok.guard (by omega) (Ok.guard (by omega) ?_)
    have a1 := l1 none (some ((cell / (24 : Int)) % ((x3.length : Int) + (1 : Int))))
    have a2 := l1 (some (((cell / (24 : Int)) % ((x3.length : Int) + (1 : Int))) + (1 : Int))) none
    refine Ok.guard (by omega) (Ok.mk ⟨?_, ck_app (cutS_ck c3) (cutS_ck c3)⟩)
    rw [len_app]
    have n0 := Int.emod_nonneg (cell / 24) (show ((x3.length : Int) + 1) ≠ 0 by omega)
    have n1 := Int.emod_lt_of_pos (cell / 24) (show (0 : Int) < ((x3.length : Int) + 1) by omega)
    generalize (cell / (24 : Int)) % ((x3.length : Int) + (1 : Int)) = at9 at *
    have b1 : (cutS x3 none (some at9)).length ≤ at9.toNat := by
      rw [TL.len_tl, tl_cutS, List.length_take]
      unfold HT.sIx
      dsimp only
      rw [if_neg (by omega)]
      omega
    have b2 : (cutS x3 (some (at9 + 1)) none).length ≤ x3.length - at9.toNat := by
      rw [TL.len_tl, tl_cutS, List.length_take, List.length_drop]
      unfold HT.sIx
      dsimp only
      rw [if_neg (by omega), ← TL.len_tl]
      omega
    omega
  · refine Ok.guard (by omega) ?_
    have n0 := Int.emod_nonneg (cell / 24) (show ((x3.length : Int) + 1) ≠ 0 by omega)
    have n1 := Int.emod_lt_of_pos (cell / 24) (show (0 : Int) < ((x3.length : Int) + 1) by omega)
    generalize (cell / (24 : Int)) % ((x3.length : Int) + (1 : Int)) = at9 at *
    have a1 := l1 none (some at9)
    refine Ok.guard (by omega) (Ok.guard (by omega) ?_)
    generalize hy : at9 + (if (decide ((cell % (4 : Int)) = (2 : Int))) = true then (1 : Int) else 0) = y
    have hy0 : at9 ≤ y := by rw [← hy]; split <;> omega
    have a2 := l1 (some y) none
    refine Ok.guard (by rw [len_app]; omega) (Ok.mk ⟨?_, ck_app (ck_app (cutS_ck c3) cs) (cutS_ck c3)⟩)
    rw [len_app, len_app]
    have b1 : (cutS x3 none (some at9)).length ≤ at9.toNat := by
      rw [TL.len_tl, tl_cutS, List.length_take]
      unfold HT.sIx
      dsimp only
      rw [if_neg (by omega)]
      omega
    have b2 : (cutS x3 (some y) none).length ≤ x3.length - at9.toNat := by
      rw [TL.len_tl, tl_cutS, List.length_take, List.length_drop]
      unfold HT.sIx
      dsimp only
      rw [if_neg (by omega), ← TL.len_tl]
      omega
    omega
theorem j3_ok {x3 : Str} {cell : Int} (h3 : x3.length ≤ 290) (c3 : CK (TL.tl x3)) : Ok (_law_given_j3 cell x3) TOk := by
  rw [_law_given_j3]
  refine Ok.ite (fun _ => j4_ok h3 c3 (by decide +kernel) (by decide +kernel) (tok_of (by decide +kernel)).2) fun _ => j4_ok h3 c3 (by decide +kernel) (by decide +kernel) (tok_of (by decide +kernel)).2
theorem sg_small : ∀ k : Fin 16, sg (k.val : Int) < 200 := by decide +kernel
theorem textOf_ck {b : Int} (h2 : b ≤ 16) {ds : List Int} (h : Figs b ds) : CK (TL.tl (textOf ds)) := fun c hc => by
  rw [tl_textOf] at hc
  obtain ⟨d, hd, rfl⟩ := List.mem_map.mp hc
  have := h d hd
  obtain ⟨k, rfl⟩ : ∃ k : Nat, d = k := ⟨d.toNat, by omega⟩
  have := sg_small ⟨k, by omega⟩
  exact Nat.lt_trans this (by decide)
theorem joinL_ck : ∀ ls : List (List Nat), (∀ p ∈ ls, CK p) → CK (TL.joinL [32] ls)
  | [], _ => fun c h => absurd h List.not_mem_nil
  | [p], h => h p List.mem_cons_self
  | p :: q :: r, h => by
    show CK (p ++ ([32] ++ TL.joinL [32] (q :: r)))
    refine (h p List.mem_cons_self).app (CK.app (fun c hc => ?_) (joinL_ck (q :: r) fun x hx => h x (List.mem_cons_of_mem _ hx)))
    rw [List.mem_singleton.mp hc]; decide
theorem base_ck : ∀ b : Fin 17, tokB (strB10 ((b.val : Nat) : Int)) = true := by decide +kernel
theorem ruleText_tok {r : Int × List (List Int)} (g : GoodRule r) : (ruleText r).length ≤ 100 ∧ CK (TL.tl (ruleText r)) := by
  have h0 := g.lo
  have hh := g.hi
  constructor
  · unfold ruleText
    rw [TL.join_eq, TL.len_tl, TL.tl_join, tl_SP]
    refine Nat.le_trans (joinL_len _ _) ?_
    have h1 := words_sum g
    have h2 := g.few
    rw [List.map_map, show (List.map ((fun x : List Nat => x.length) ∘ TL.tl) (strB10 r.1 :: r.2.map textOf)) = (strB10 r.1 :: r.2.map textOf).map (·.length) from List.map_congr_left fun x _ => (TL.len_tl x).symm, show ([32] : List Nat).length = 1 from rfl, List.length_map, List.length_cons, List.length_map]
    omega
  · unfold ruleText
    rw [TL.join_eq, TL.tl_join, tl_SP]
    refine joinL_ck _ fun p hp => ?_
    obtain ⟨w, hw, rfl⟩ := List.mem_map.mp hp
    rcases List.mem_cons.mp hw with e | e
    · obtain ⟨n, hn⟩ : ∃ n : Nat, r.1 = n := ⟨r.1.toNat, by omega⟩
      rw [e, hn]
      exact (tok_of (base_ck ⟨n, by omega⟩)).2
    · obtain ⟨s, hs, rfl⟩ := List.mem_map.mp e
      exact textOf_ck hh (g.figs s hs).1
theorem odd_ok {cell : Int} : Ok (_law_odd cell) TOk := by
  let P : List Str → Prop := fun x => (1 ≤ x.length ∧ x.length ≤ 20) ∧ x.all tokB = true
  have hP : ∀ x, P x → (1 ≤ x.length ∧ x.length ≤ 20) ∧ ∀ t ∈ x, TOk t := fun x h => ⟨h.1, fun t ht => tok_of (List.all_eq_true.mp h.2 t ht)⟩
  unfold _law_odd
  refine Ok.bind (P := P) ⟨_, rfl, by decide +kernel⟩ fun x1 h1 => ?_
  refine Ok.bind (P := P) ⟨_, rfl, by decide +kernel⟩ fun x2 h2 => ?_
  obtain ⟨l1, h1⟩ := hP _ h1
  obtain ⟨l2, h2⟩ := hP _ h2
  refine Ok.guard (by omega) (Ok.bind (P := P) ⟨_, rfl, by decide +kernel⟩ fun x3 h3 => ?_)
  obtain ⟨l3, h3⟩ := hP _ h3
  refine Ok.guard (by simp only [List.length_append]; omega) (Ok.bind (P := P) ⟨_, rfl, by decide +kernel⟩ fun x4 h4 => ?_)
  obtain ⟨l4, h4⟩ := hP _ h4
  refine Ok.guard (by simp only [List.length_append]; omega) (Ok.bind (P := P) ⟨_, rfl, by decide +kernel⟩ fun x5 h5 => ?_)
  obtain ⟨l5, h5⟩ := hP _ h5
  refine Ok.guard (by simp only [List.length_append]; omega) (Ok.bind (P := P) ⟨_, rfl, by decide +kernel⟩ fun x6 h6 => ?_)
  obtain ⟨l6, h6⟩ := hP _ h6
  refine Ok.guard (by simp only [List.length_append]; omega) (Ok.bind (P := P) ⟨_, rfl, by decide +kernel⟩ fun x7 h7 => ?_)
  obtain ⟨l7, h7⟩ := hP _ h7
  refine Ok.guard (by simp only [List.length_append]; omega) (Ok.bind (P := P) ⟨_, rfl, by decide +kernel⟩ fun x8 h8 => ?_)
  obtain ⟨l8, h8⟩ := hP _ h8
  refine Ok.guard (by simp only [List.length_append]; omega) ?_
  have ha := all_a (all_a (all_a (all_a (all_a (all_a (all_a h1 h2) h3) h4) h5) h6) h7) h8
  have hl : 1 ≤ (x1 ++ x2 ++ x3 ++ x4 ++ x5 ++ x6 ++ x7 ++ x8).length ∧ (x1 ++ x2 ++ x3 ++ x4 ++ x5 ++ x6 ++ x7 ++ x8).length ≤ 1000 := by simp only [List.length_append]; omega
  generalize x1 ++ x2 ++ x3 ++ x4 ++ x5 ++ x6 ++ x7 ++ x8 = xs at *
  refine Ok.guard (Dv_small (by omega) (by omega)) ?_
  exact (atI_ok ha (Int.emod_nonneg _ (by omega)) (Int.emod_lt_of_pos _ (by omega))).bind fun t ht => Ok.mk ht
theorem one_tok : ("1" : Str).length = 1 ∧ tokB ("1" : Str) = true := by decide +kernel
theorem given_ok {cell : Int} : Ok (_law_given cell) TOk := by
  unfold _law_given
  refine Ok.ite (fun _ => odd_ok.bind fun t ht => Ok.mk ht) fun _ => ?_
  refine (mixed_ok (by decide) (by decide)).bind fun r2 _ => ?_
  refine law_rule_ok.bind fun r3 g => ?_
  have h0 := g.lo
  have h1 := g.hi
  have h2 := g.few
  refine Ok.guard (log_small (by omega) h1) ?_
  rw [forK_fmM (p := fun _ => true) (g := textOf) (B := 16777216) _ _ (fun acc x next hx hl2 => by
    have := g.figs x hx
    rw [_law_given_c1, text_eq h1 this.1 (by omega), Option.bind_some, if_pos hl2, if_pos rfl]) (by rw [List.length_nil]; omega), filter_true, List.nil_append]
  have h3 : ((Str.ofString (toString r3.1) :: r3.2.map textOf).map (·.length)).sum ≤ 18 := words_sum g
  rw [_law_given_k2]
  refine Ok.guard (by rw [List.length_singleton, List.length_map]; omega) ?_
  rw [List.singleton_append]
  refine Ok.guard (by rw [List.length_cons, List.length_map, sp_len]; omega) ?_
  refine Ok.ite (fun _ => ?_) fun _ => ?_
  · refine (law_number_ok (by decide) (by decide)).bind fun n hn => ?_
    have hn8 : n < 2 ^ 8000 := Int.lt_of_lt_of_le hn.2 (pow_mono (by decide) (by decide))
    have hl : (digs r3.1 n).length ≤ 91 := digs_lenF h0 90 n hn.1 (lg_le hn.2)
    obtain ⟨d, t, _, _, hf⟩ := digs_Num h0 hn.1
    rw [law_figs_eq h0 h1 hn.1 hn8, Option.bind_some, text_eq h1 hf (by omega), Option.bind_some]
    refine Ok.ite (fun _ => ?_) fun _ => j3_ok (by rw [textOf_len]; omega) (textOf_ck h1 hf)
    refine (mixed_ok (by decide) (by decide)).bind fun r8 _ => ?_
    have m0 := Int.emod_nonneg r8 (show (198 : Int) ≠ 0 by decide)
    have m1 := Int.emod_lt_of_pos r8 (show (0 : Int) < 198 by decide)
    refine Ok.guard ⟨by omega, by omega⟩ ?_
    refine forK_okI (P := fun pre (s : List Int) => s.length = pre.length ∧ Figs r3.1 s) ⟨rfl, Figs.nil⟩ (fun pre x post s next e hP hN => ?_) (fun s hP => ?_)
    · have hx : x ∈ irange 0 (1 + r8 % 198) := by rw [e]; simp
      have hx := irange_mem.mp hx
      have hl2 : pre.length < 199 := by
        have := congrArg List.length e
        rw [irange_len, List.length_append, List.length_cons] at this
        omega
      rw [_law_given_c5]
      refine (mixed_ok (by omega) (by omega)).bind fun r9 _ => ?_
      have d0 := Int.emod_nonneg r9 (show r3.1 ≠ 0 by omega)
      have d1 := Int.emod_lt_of_pos r9 (show 0 < r3.1 by omega)
      refine Ok.guard (Dv_small (by omega) (by omega)) (Ok.guard (by omega) (hN _ ⟨?_, Figs.app hP.2 (Figs.one ⟨d0, d1⟩)⟩))
      rw [List.length_append, List.length_append, hP.1]; rfl
    · have p1 := hP.1
      rw [irange_len] at p1
      rw [_law_given_k6, text_eq h1 hP.2 (by omega), Option.bind_some]
      refine Ok.guard (by rw [one_tok.1, textOf_len]; omega) (j3_ok (by rw [len_app, one_tok.1, textOf_len]; omega) (ck_app (tok_of one_tok.2).2 (textOf_ck h1 hP.2)))
  · obtain ⟨a, b⟩ := ruleText_tok g
    have a : (Txt.join (" " : Str) (Str.ofString (toString r3.1) :: r3.2.map textOf)).length ≤ 100 := a
    exact j3_ok (by omega) b
/-! #### what is no rule -/
def BadD (d : PyData) : Prop := Lv 4 d ∧ ¬ RuleD d
theorem Lv.W2 {k : Nat} {a c : PyData} (h : Lv k (.tuple [a, c])) : W2 c := fun ys e y hy xs ez => by
  have h1 := h.t.2 c (List.mem_cons_of_mem _ List.mem_cons_self)
  rw [e] at h1
  have h2 := h1.l.2 y hy
  rw [ez] at h2
  exact Nat.le_trans h2.l.1 (by decide)
theorem BadD.show {d : PyData} (h : BadD d) : show_rule d = some (.error .NoRule) := by
  obtain ⟨r, e, q⟩ := is_rule_D (d := d) fun a c ed => by
    have := h.1
    rw [ed] at this
    exact this.W2
  cases r with
  | true => exact absurd (q.mp rfl) h.2
  | false =>
    unfold show_rule
    rw [e]; rfl
theorem BadD.no {d : PyData} (h : Lv 4 d) (k : ∀ b ys, d ≠ .tuple [.int b, .list ys]) : BadD d := ⟨h, RuleD.no k⟩
/-- a part that is no stretch -/
def OddP (b : Int) (d : PyData) : Prop := Lv 2 d ∧ strB b d = false
theorem lv_pair {k : Nat} {a c : PyData} (h : Lv k a) (h2 : Lv k c) : Lv (k + 1) (.tuple [a, c]) := .tuple (by simp) (all_c h <| all_c h2 all_n)
theorem str_rep : ∀ b : Fin 17, (reprText (strB10 ((b.val : Nat) : Int))).length ≤ 40 := by decide +kernel
theorem bad_ok {r : Int × List (List Int)} (g : GoodRule r) {cell : Int} : Ok (_law_bad r cell) BadD := by
  have h0 := g.lo
  have hh := g.hi
  have few := g.few
  have rows := g.rows
  have bI : ∀ {k : Nat}, Lv k (.int r.1) := .int (by omega)
  have lvR : Lv 3 (.list (r.2.map fun z => .list (z.map fun z => .int z))) := .rows (k := 1) (by omega) rows
  have i0 : ∀ {k : Nat}, Lv k (.int 0) := .int (by decide)
  have i1 : ∀ {k : Nat}, Lv k (.int 1) := .int (by decide)
  have e3 : ∀ {k : Nat}, Lv (k + 1) (.list []) := .list (by simp) all_n
  have bs : ∀ {i : Int} {ys : List PyData}, Lv 4 (.tuple [.int i, .list ys]) → (RuleD (.tuple [.int i, .list ys]) → False) → BadD (.tuple [.int i, .list ys]) := fun h k => ⟨h, k⟩
  have rd : ∀ {i : Int} {ys : List PyData}, RuleD (.tuple [.int i, .list ys]) → 2 ≤ i ∧ i ≤ 16 ∧ ys.length ≤ 4 ∧ (∀ y ∈ ys, strB i y = true) ∧ ∀ k (h : k + 1 < ys.length), PySem.W.dataLt ys[k] ys[k + 1] = true := by
    rintro i ys ⟨b', ys', e, q⟩
    injection e with e; injection e with e1 e2; injection e1 with e1; injection e2 with e2 _; injection e2 with e2
    subst e1 e2
    exact q
  unfold _law_bad
  refine Ok.guard (log_small (by omega) hh) (Ok.guard (by simp only [List.length_cons, List.length_nil]; omega) (Ok.guard (by simp only [List.length_append, List.length_cons, List.length_nil]; omega) (Ok.guard (Dv_small (by omega) (by omega)) ?_)))
  refine Ok.bind (P := fun x => x.length = 8 ∧ ∀ d ∈ x, OddP r.1 d) ⟨_, rfl, rfl, ?_⟩ fun x1 hx1 => ?_
  · refine all_c ⟨e3, rfl⟩ <| all_c ⟨.list (by simp) (all_c bI all_n), ?_⟩ <| all_c ⟨.list (by simp) (all_c (.int (by decide)) all_n), rfl⟩ <| all_c ⟨.list (by simp) (all_c .bool all_n), rfl⟩ <| all_c ⟨.list (by simp) (all_c .none all_n), rfl⟩ <|
      all_c ⟨.list (by simp) (all_c Lv.strs.2.1 all_n), rfl⟩ <| all_c ⟨.list (by simp) (all_c i0 <| all_c i0 <| all_c i0 <| all_c i0 <| all_c i0 all_n), ?_⟩ <| all_c ⟨.tuple (by simp) (all_c i0 all_n), rfl⟩ all_n
    · show ((decide (0 ≤ r.1) && decide (r.1 < r.1)) && true && _) = false
      rw [decide_eq_false (Int.lt_irrefl _), Bool.and_false, Bool.false_and, Bool.false_and]
    · show (_ && (_ && decide ((5 : Nat) ≤ 4))) = false
      rw [show decide ((5 : Nat) ≤ 4) = false from rfl, Bool.and_false, Bool.and_false]
  refine Ok.guard (by rw [hx1.1]; simp only [List.length_cons, List.length_nil]; omega) ?_
  have hodd : ∀ d ∈ x1 ++ ([(PyData.int (0 : Int)), (PyData.str ("0" : Str)), PyData.none, (PyData.list (([([(0 : Int)] : (List Int))] : (List (List Int))).map fun z => (PyData.list (z.map fun z => (PyData.int z))))), (PyData.list (([(0 : Int), (r).1] : (List Int)).map fun z => (PyData.int z))), (PyData.list (([(0 : Int), (0 : Int), (-(1 : Int))] : (List Int)).map fun z => (PyData.int z)))] : (List PyData)), OddP r.1 d := by
    refine all_a hx1.2 <| all_c ⟨i0, rfl⟩ <| all_c ⟨Lv.strs.2.1, rfl⟩ <| all_c ⟨.none, rfl⟩ <| all_c ⟨.list (by simp) (all_c (.list (by simp) (all_c i0 all_n)) all_n), rfl⟩ <| all_c ⟨.list (by simp) (all_c i0 <| all_c bI all_n), ?_⟩ <| all_c ⟨.list (by simp) (all_c i0 <| all_c i0 <| all_c (.int (by decide)) all_n), ?_⟩ all_n
    · show (((decide ((0 : Int) ≤ 0) && decide (0 < r.1)) && ((decide (0 ≤ r.1) && decide (r.1 < r.1)) && true)) && _) = false
      rw [decide_eq_false (Int.lt_irrefl _), Bool.and_false, Bool.false_and, Bool.and_false, Bool.false_and]
    · refine Bool.and_eq_false_iff.mpr (.inl ?_)
      show (figB r.1 (.int 0) && (figB r.1 (.int 0) && (figB r.1 (.int (-1)) && true))) = false
      rw [show figB r.1 (.int (-1)) = false from rfl, Bool.false_and, Bool.and_false, Bool.and_false]
  have hol : (x1 ++ ([(PyData.int (0 : Int)), (PyData.str ("0" : Str)), PyData.none, (PyData.list (([([(0 : Int)] : (List Int))] : (List (List Int))).map fun z => (PyData.list (z.map fun z => (PyData.int z))))), (PyData.list (([(0 : Int), (r).1] : (List Int)).map fun z => (PyData.int z))), (PyData.list (([(0 : Int), (0 : Int), (-(1 : Int))] : (List Int)).map fun z => (PyData.int z)))] : (List PyData))).length = 14 := by
    rw [List.length_append, hx1.1]; rfl
  generalize (x1 ++ ([(PyData.int (0 : Int)), (PyData.str ("0" : Str)), PyData.none, (PyData.list (([([(0 : Int)] : (List Int))] : (List (List Int))).map fun z => (PyData.list (z.map fun z => (PyData.int z))))), (PyData.list (([(0 : Int), (r).1] : (List Int)).map fun z => (PyData.int z))), (PyData.list (([(0 : Int), (0 : Int), (-(1 : Int))] : (List Int)).map fun z => (PyData.int z)))] : (List PyData))) = odds at hodd hol ⊢
  refine forK_okI (P := fun pre s => s.length ≤ 11 + pre.length ∧ ∀ d ∈ s, BadD d) ⟨by simp only [List.length_append, List.length_cons, List.length_nil]; omega, ?_⟩ (fun pre t post s next e hP hN => ?_) (fun s hP => ?_)
  · refine all_a (all_a ?_ ?_) ?_
    · refine all_c (.no .none (fun _ _ h => nomatch h)) <| all_c (.no bI (fun _ _ h => nomatch h)) <| all_c (.no (.tuple (by simp) (all_c bI all_n)) (fun _ _ h => nomatch h)) <| all_c (.no (.list (by simp) (all_c bI <| all_c lvR all_n)) (fun _ _ h => nomatch h)) <|
        all_c (.no (.tuple (by simp) (all_c bI <| all_c lvR <| all_c i0 all_n)) (fun _ _ h => nomatch h)) <| all_c (bs (lv_pair i1 e3) fun h => ?_) all_n
      have := (rd h).1; omega
    · refine all_c (bs (lv_pair (.int (by decide)) e3) fun h => ?_) <| all_c (.no (lv_pair .bool e3) (fun _ _ h => nomatch h)) <| all_c (.no (lv_pair (.str ?_) lvR) (fun _ _ h => nomatch h)) all_n
      · have := (rd h).2.1; omega
      · obtain ⟨n, hn⟩ : ∃ n : Nat, r.1 = n := ⟨r.1.toNat, by omega⟩
        rw [hn]
        exact str_rep ⟨n, by omega⟩
    · exact all_c (.no (lv_pair bI .none) (fun _ _ h => nomatch h)) <| all_c (.no (lv_pair bI (.rowsT (k := 1) (by omega) rows)) (fun _ _ h => nomatch h)) all_n
  · obtain ⟨p1, p2⟩ := hP
    have ht : t ∈ odds := by rw [e]; simp
    have hpl : pre.length < 14 := by
      have := congrArg List.length e
      rw [hol, List.length_append, List.length_cons] at this
      omega
    obtain ⟨o1, o2⟩ := hodd t ht
    rw [_law_bad_b1]
    have cA := cutT_le r.2 none (some ((cell / (100 : Int)) % (((r).2.length : Int) + (1 : Int))))
    have cB := cutT_le r.2 (some (((cell / (100 : Int)) % (((r).2.length : Int) + (1 : Int))) + (1 : Int))) none
    have rA := cutT_all (a := none) (b := some ((cell / (100 : Int)) % (((r).2.length : Int) + (1 : Int)))) rows
    have rB := cutT_all (a := some (((cell / (100 : Int)) % (((r).2.length : Int) + (1 : Int))) + (1 : Int))) (b := none) rows
    generalize cutT r.2 none (some ((cell / (100 : Int)) % (((r).2.length : Int) + (1 : Int)))) = A at *
    generalize cutT r.2 (some (((cell / (100 : Int)) % (((r).2.length : Int) + (1 : Int))) + (1 : Int))) none = C at *
    refine Ok.guard (by simp only [List.length_map, List.length_cons, List.length_nil]; omega) (Ok.guard (by simp only [List.length_append, List.length_map, List.length_cons, List.length_nil]; omega) (Ok.guard (by omega) (hN _ ⟨?_, all_a p2 (all_c (bs (lv_pair bI (.list ?_ ?_)) fun h => ?_) all_n)⟩)))
    · rw [List.length_append, List.length_append, List.length_singleton, List.length_singleton]; omega
    · simp only [List.length_append, List.length_map, List.length_cons, List.length_nil]; omega
    · exact all_a (all_a (all_m fun x hx => .ints (Nat.le_trans (rA x hx).1 (by decide)) (rA x hx).2) (all_c o1 all_n)) (all_m fun x hx => .ints (Nat.le_trans (rB x hx).1 (by decide)) (rB x hx).2)
    · have := (rd h).2.2.2.1 t (List.mem_append_left _ (List.mem_append_right _ List.mem_cons_self))
      rw [o2] at this
      exact absurd this Bool.false_ne_true
  · obtain ⟨p1, p2⟩ := hP
    rw [hol] at p1
    have n5 : BadD (PyData.tuple [(PyData.int (r).1), (PyData.list (([([(0 : Int)] : (List Int)), ([(0 : Int), (1 : Int)] : (List Int)), ([(1 : Int)] : (List Int)), ([(1 : Int), (0 : Int)] : (List Int)), ([(1 : Int), (1 : Int)] : (List Int))] : (List (List Int))).map fun z => (PyData.list (z.map fun z => (PyData.int z)))))]) := bs (lv_pair bI (.list (by simp) (all_c (.list (by simp) (all_c i0 all_n)) <| all_c (.list (by simp) (all_c i0 <| all_c i1 all_n)) <| all_c (.list (by simp) (all_c i1 all_n)) <| all_c (.list (by simp) (all_c i1 <| all_c i0 all_n)) <| all_c (.list (by simp) (all_c i1 <| all_c i1 all_n)) all_n))) fun h => by
      have := (rd h).2.2.1
      exact absurd this (by simp)
    have n2 : BadD (PyData.tuple [(PyData.int (r).1), (PyData.list (([([(1 : Int)] : (List Int)), ([(0 : Int)] : (List Int))] : (List (List Int))).map fun z => (PyData.list (z.map fun z => (PyData.int z)))))]) := bs (lv_pair bI (.list (by simp) (all_c (.list (by simp) (all_c i1 all_n)) <| all_c (.list (by simp) (all_c i0 all_n)) all_n))) fun h => by
      have := (rd h).2.2.2.2 0 (by simp)
      exact absurd (show ltT ([1] : List Int) [0] = true from this) (by decide +kernel)
    have n3 : BadD (PyData.tuple [(PyData.int (r).1), (PyData.list (([([(0 : Int), (1 : Int)] : (List Int)), ([(0 : Int), (1 : Int)] : (List Int))] : (List (List Int))).map fun z => (PyData.list (z.map fun z => (PyData.int z)))))]) := bs (lv_pair bI (.list (by simp) (all_c (.list (by simp) (all_c i0 <| all_c i1 all_n)) <| all_c (.list (by simp) (all_c i0 <| all_c i1 all_n)) all_n))) fun h => by
      have := (rd h).2.2.2.2 0 (by simp)
      have : ltT ([0, 1] : List Int) [0, 1] = true := this
      rw [ltT_irr] at this
      exact absurd this Bool.false_ne_true
    have ha := all_a (all_a (all_a p2 (all_c n5 all_n)) (all_c n2 all_n)) (all_c n3 all_n)
    have j3 : ∀ xs : List PyData, 1 ≤ xs.length → xs.length ≤ 1000 → (∀ d ∈ xs, BadD d) → Ok (_law_bad_j3 cell xs) BadD := fun xs l1 l2 h => by
      rw [_law_bad_j3]
      refine Ok.guard (Dv_small (by omega) (by omega)) ?_
      exact (atI_ok h (Int.emod_nonneg _ (by omega)) (Int.emod_lt_of_pos _ (by omega))).bind fun d hd => Ok.mk hd
    rw [_law_bad_e2]
    refine Ok.guard (by omega) (Ok.guard (by simp only [List.length_append, List.length_cons, List.length_nil]; omega) (Ok.guard (by simp only [List.length_append, List.length_cons, List.length_nil]; omega) (Ok.ite (fun hc => ?_) fun _ => ?_)))
    · have hc : 1 < (r.2.length : Int) := of_decide_eq_true hc
      refine Ok.guard (by simp only [List.length_append, List.length_cons, List.length_nil]; omega) ?_
      refine j3 _ (by simp only [List.length_append, List.length_cons, List.length_nil]; omega) (by simp only [List.length_append, List.length_cons, List.length_nil]; omega) (all_a ha (all_c ⟨lv_pair bI (.rows (k := 1) (by rw [List.length_reverse]; omega) fun x hx => rows x (List.mem_reverse.mp hx)), fun h => ?_⟩ all_n))
      have gr := (rule_back (b := r.1) (xs := r.2.reverse) h).sorted
      have gr : r.2.reverse.Pairwise fun a b => ltT a b = true := gr
      rw [List.pairwise_reverse] at gr
      have gs := g.sorted
      cases hr : r.2 with
      | nil => rw [hr] at hc; exact absurd hc (by simp)
      | cons x xs =>
        cases xs with
        | nil => rw [hr] at hc; exact absurd hc (by simp)
        | cons y ys =>
          rw [hr] at gr gs
          have a := (List.pairwise_cons.mp gr).1 y List.mem_cons_self
          have b := (List.pairwise_cons.mp gs).1 y List.mem_cons_self
          have := ltT_trans b a
          rw [ltT_irr] at this
          exact absurd this Bool.false_ne_true
    · exact j3 _ (by simp only [List.length_append, List.length_cons, List.length_nil]; omega) (by simp only [List.length_append, List.length_cons, List.length_nil]; omega) ha
/-! #### the law -/
theorem eqok_two {x : Bool} {a b : Str} (ha : PyData.strOk a = true) (hb : PyData.strOk b = true) : EqOk (.list [.bool x, .str a]) (.list [.bool x, .str b]) := by
  have s : ∀ c : Str, PyData.strOk c = true → SeqAt.shaped (.list [.bool x, .str c]) = true := fun c hc => by
    unfold SeqAt.shaped
    rw [Bool.and_eq_true]
    refine ⟨?_, decide_eq_true ?_⟩
    · simp [PyData.canLay0, PyData.canLayAll0, hc]
    · simp [PyData.depth, PyData.depthAll]
  show (_ && _) = true
  rw [s a ha, s b hb]; rfl
theorem cmp_two {x : Bool} {a : Str} {K : Option Bool} (ha : PyData.strOk a = true) : (if EqOk (PyData.list [.bool x, .str a]) (PyData.list ([(PyData.bool x), (PyData.str a)] : (List PyData))) then (if (!PyData.eqv (PyData.list [.bool x, .str a]) (PyData.list ([(PyData.bool x), (PyData.str a)] : (List PyData)))) = true then (some false) else K) else none) = K := by
  rw [if_pos (eqok_two ha ha), if_neg]
  rw [eqv_two, decide_eq_true rfl]
  decide
theorem ok_text : PyData.strOk ("text" : Str) = true := by decide +kernel
theorem ok_rule : PyData.strOk ("rule" : Str) = true := by decide +kernel
theorem ok_base : PyData.strOk ("base" : Str) = true := by decide +kernel
theorem ok_number : PyData.strOk ("number" : Str) = true := by decide +kernel
theorem TOk.str {t : Str} (h : TOk t) : PyData.strOk t = true := strOk_len h.2
theorem b3_eq {r3 : Int} {t : Str} (h : TOk t) {t2 : Int} (h2 : t2 = 0 ∨ t2 = 1) (next : Unit → Option Bool) : law_b3 r3 t () t2 next = next () := by
  have m0 := Int.emod_nonneg r3 (show (15 : Int) ≠ 0 by decide)
  have m1 := Int.emod_lt_of_pos r3 (show (0 : Int) < 15 by decide)
  have hl := h.1
  have hs := h.str
  obtain ⟨b, hbe⟩ : ∃ b, b = (2 : Int) + r3 % 15 := ⟨_, rfl⟩
  have hb : 2 ≤ b := by omega
  have hb2 : b ≤ 16 := by omega
  rw [law_b3, ← hbe]
  have hwn := writes_number_eq hb hb2 (t := t) (by omega)
  rcases h2 with rfl | rfl
  · rcases rule_read (t := t) (by omega) with ⟨r, g, e1, e2, e3⟩ | ⟨e1, e2⟩
    · rw [asked0_ok e1, Option.bind_some, e2, Option.bind_some, hwn, Option.bind_some, atI0, Option.bind_some, if_pos rfl, atI0, Option.bind_some, asBl, Option.bind_some, if_neg Bool.false_ne_true, atI_get (k := 1) (by decide) (by exact Nat.lt_succ_self 1), Option.bind_some]
      show ((_law_asked 2 (.int b) (dat r)).bind _) = _
      rw [asked2_ok (show_rule_D g), Option.bind_some, e3, cmp_two hs]
    · rw [asked0_text e1, Option.bind_some, e2, Option.bind_some, hwn, Option.bind_some, atI0, Option.bind_some, if_neg Bool.false_ne_true, cmp_two ok_text]
  · have hr := read_number_D hb hb2 (t := t) (by omega)
    have hwr : ∃ z, _law_writes_rule t = some z := by
      rcases rule_read (t := t) (by omega) with ⟨r, g, e1, e2, e3⟩ | ⟨e1, e2⟩
      · exact ⟨_, e2⟩
      · exact ⟨_, e2⟩
    obtain ⟨z, hz⟩ := hwr
    by_cases hc : wn b t = true
    · rw [if_pos hc] at hr
      have hn := wn_Num hb hb2 hc
      have hw : wrB b t = true := by
        unfold wn at hc
        rw [Bool.and_eq_true] at hc
        exact hc.1
      rw [asked1_ok hr, Option.bind_some, hz, Option.bind_some, hwn, Option.bind_some, atI_get (k := 1) (by decide) (by exact Nat.lt_succ_self 1), Option.bind_some]
      show (if wn b t = true then _ else _) = _
      rw [if_pos hc, atI0, Option.bind_some, asBl, Option.bind_some, if_neg Bool.false_ne_true, atI_get (k := 1) (by decide) (by exact Nat.lt_succ_self 1), Option.bind_some]
      show ((_law_asked 3 (.int b) (.int (val b (figW t)))).bind _) = _
      rw [asked3_ok (show_number_D hb hb2 hn (by rw [figW_len]; omega)), Option.bind_some, wr_text hb hb2 hw, cmp_two hs]
    · rw [if_neg hc] at hr
      rw [asked1_text hr, Option.bind_some, hz, Option.bind_some, hwn, Option.bind_some, atI_get (k := 1) (by decide) (by exact Nat.lt_succ_self 1), Option.bind_some]
      show (if wn b t = true then _ else _) = _
      rw [if_neg hc, cmp_two ok_text]
theorem e4_ok {r1 r3 : Int} {t : Str} {next : Unit → Option Bool} {Q : Bool → Prop} (hN : Ok (next ()) Q) : Ok (law_e4 r1 r3 t next ()) Q := by
  have m0 := Int.emod_nonneg r3 (show (15 : Int) ≠ 0 by decide)
  have m1 := Int.emod_lt_of_pos r3 (show (0 : Int) < 15 by decide)
  obtain ⟨b, hbe⟩ : ∃ b, b = (2 : Int) + r3 % 15 := ⟨_, rfl⟩
  have hb : 2 ≤ b := by omega
  have hb2 : b ≤ 16 := by omega
  rw [law_e4, ← hbe]
  refine (mixed_ok (by decide) (by decide)).bind fun r8 _ => ?_
  refine law_rule_ok.bind fun r9 g => ?_
  refine (mixed_ok (by decide) (by decide)).bind fun r10 _ => ?_
  refine (bad_ok g).bind fun bad hbad => ?_
  have hsh := hbad.1.ok
  refine Ok.guard hsh ?_
  rw [asked2_rule hbad.show, Option.bind_some, cmp_two ok_rule, if_pos hsh, if_neg (by rw [decide_eq_true rfl]; decide)]
  refine (mixed_ok (by decide) (by decide)).bind fun r13 _ => ?_
  have o0 := Int.emod_nonneg r13 (show (11 : Int) ≠ 0 by decide)
  have o1 := Int.emod_lt_of_pos r13 (show (0 : Int) < 11 by decide)
  have nb : ∀ {i : Int}, ¬ (2 ≤ i ∧ i ≤ 16) → is_base (.int i) = some false := fun k => is_base_no fun j e => by injection e with e; rw [← e]; exact k
  refine Ok.bind (P := fun d => is_base d = some false) (atI_ok ?_ o0 (by simp only [List.length_cons, List.length_nil]; omega)) fun odd hodd => ?_
  · exact all_c rfl <| all_c (nb (by decide)) <| all_c (nb (by decide)) <| all_c (nb (by decide)) <| all_c rfl <| all_c rfl <| all_c rfl <| all_c (nb (by decide)) <| all_c (nb (by decide)) <| all_c rfl <| all_c rfl all_n
  rw [asked1_base (read_number_base hodd), Option.bind_some, cmp_two ok_base, asked3_base (show_number_base hodd), Option.bind_some, cmp_two ok_base]
  refine (mixed_ok (by decide) (by decide)).bind fun r16 _ => ?_
  have w0 := Int.emod_nonneg r16 (show (9 : Int) ≠ 0 by decide)
  have w1 := Int.emod_lt_of_pos r16 (show (0 : Int) < 9 by decide)
  have nn : ∀ {i : Int}, i < 0 → need_from (.int i) 0 = some (.error .NoNumber) := fun k => need_from_no fun j e => by injection e with e; rw [← e]; exact k
  refine Ok.bind (P := fun d => need_from d 0 = some (.error .NoNumber)) (atI_ok ?_ w0 (by simp only [List.length_cons, List.length_nil]; omega)) fun worse hworse => ?_
  · exact all_c rfl <| all_c (nn (by decide)) <| all_c rfl <| all_c rfl <| all_c rfl <| all_c rfl <| all_c rfl <| all_c (nn (by decide)) <| all_c rfl all_n
  rw [asked3_number (show_number_num hb hb2 hworse), Option.bind_some, cmp_two ok_number, asked3_base (show_number_base hodd), Option.bind_some, cmp_two ok_base]
  exact hN
theorem law_true (ns : List Int) : law ns = some true := by
  unfold law
  obtain ⟨N, hN⟩ : ∃ N : Int, N = (if (if (63 : Int) < (ns.length : Int) then (63 : Int) else (ns.length : Int)) > (16 : Int) then (if (63 : Int) < (ns.length : Int) then (63 : Int) else (ns.length : Int)) else (16 : Int)) := ⟨_, rfl⟩
  rw [← hN]
  have hN63 : 0 ≤ N ∧ N ≤ 63 := by rw [hN]; split <;> split <;> omega
  refine Ok.eq (Ok.guard ⟨by omega, by omega⟩ ?_)
  refine forK_ok (P := fun _ => True) trivial (fun s t1 next ht _ hNx => ?_) (fun s _ => ?_)
  · have ht := irange_mem.mp ht
    rw [law_b1]
    refine (cell_ok ht.1 (by omega)).bind fun r1 _ => ?_
    refine given_ok.bind fun t htk => ?_
    refine (mixed_ok (by decide) (by decide)).bind fun r3 _ => ?_
    refine forK_ok (P := fun _ => True) trivial (fun s2 t2 next2 ht2 _ hN2 => ?_) (fun s2 _ => e4_ok (hNx _ trivial))
    have ht2 := irange_mem.mp ht2
    show Ok (law_b3 r3 t () t2 next2) _
    rw [b3_eq htk (by omega)]
    exact hN2 _ trivial
  · rw [law_e2]
    refine forK_ok (P := fun _ => True) trivial (fun s2 d next2 hd _ hN2 => ?_) (fun s2 _ => Ok.mk rfl)
    have hk : isStrD d = false := by
      revert d
      exact all_c rfl <| all_c rfl <| all_c rfl <| all_c rfl <| all_c rfl <| all_c rfl <| all_c rfl all_n
    have h1 : read_rule d = some (.error .NoText) := by
      unfold read_rule
      rw [hk]; rfl
    rw [law_b5, asked0_text h1, Option.bind_some, cmp_two ok_text, asked1_text (read_number_text (by decide) (by decide) hk), Option.bind_some, cmp_two ok_text]
    exact hN2 _ trivial

theorem all_mk {l : PySem.W.OpenLaw} {w : World} {K : PySem.W.Frag} {h : Heap} {mg : Str → Option Value} {fa : Addr}
    (X : K.In h) (G : h.Ns mainGlobals mg) (hfa : mg "law" = some (.ref fa))
    {f_is_whole : Addr} {od_is_whole an_is_whole : Option Addr} {sl_is_whole : Array (Option Value)} {oc_is_whole kV_is_whole dc_is_whole pm_is_whole cd_is_whole ct_is_whole : Value}
    (a_is_whole : PySem.W.nsIn K mainGlobals "is_whole" = some (some (.ref f_is_whole)))
    (l_is_whole : K.lookup f_is_whole = some ⟨oc_is_whole, od_is_whole, .func (PySem.W.fnOf "is_whole" "is_whole" (defArgs s_is_whole) (defBody s_is_whole) (defScope s_is_whole) .none kV_is_whole dc_is_whole pm_is_whole an_is_whole cd_is_whole ct_is_whole), sl_is_whole⟩)
    (c_is_whole : PySem.W.codeIn K cd_is_whole "is_whole" = true) (k_is_whole : PySem.W.keepIn K (.ref f_is_whole) = true)
    {f_is_base : Addr} {od_is_base an_is_base : Option Addr} {sl_is_base : Array (Option Value)} {oc_is_base kV_is_base dc_is_base pm_is_base cd_is_base ct_is_base : Value}
    (a_is_base : PySem.W.nsIn K mainGlobals "is_base" = some (some (.ref f_is_base)))
    (l_is_base : K.lookup f_is_base = some ⟨oc_is_base, od_is_base, .func (PySem.W.fnOf "is_base" "is_base" (defArgs s_is_base) (defBody s_is_base) (defScope s_is_base) .none kV_is_base dc_is_base pm_is_base an_is_base cd_is_base ct_is_base), sl_is_base⟩)
    (c_is_base : PySem.W.codeIn K cd_is_base "is_base" = true) (k_is_base : PySem.W.keepIn K (.ref f_is_base) = true)
    {f_is_figure : Addr} {od_is_figure an_is_figure : Option Addr} {sl_is_figure : Array (Option Value)} {oc_is_figure kV_is_figure dc_is_figure pm_is_figure cd_is_figure ct_is_figure : Value}
    (a_is_figure : PySem.W.nsIn K mainGlobals "is_figure" = some (some (.ref f_is_figure)))
    (l_is_figure : K.lookup f_is_figure = some ⟨oc_is_figure, od_is_figure, .func (PySem.W.fnOf "is_figure" "is_figure" (defArgs s_is_figure) (defBody s_is_figure) (defScope s_is_figure) .none kV_is_figure dc_is_figure pm_is_figure an_is_figure cd_is_figure ct_is_figure), sl_is_figure⟩)
    (c_is_figure : PySem.W.codeIn K cd_is_figure "is_figure" = true) (k_is_figure : PySem.W.keepIn K (.ref f_is_figure) = true)
    {f_are_figures : Addr} {od_are_figures an_are_figures : Option Addr} {sl_are_figures : Array (Option Value)} {oc_are_figures kV_are_figures dc_are_figures pm_are_figures cd_are_figures ct_are_figures : Value}
    (a_are_figures : PySem.W.nsIn K mainGlobals "are_figures" = some (some (.ref f_are_figures)))
    (l_are_figures : K.lookup f_are_figures = some ⟨oc_are_figures, od_are_figures, .func (PySem.W.fnOf "are_figures" "are_figures" (defArgs s_are_figures) (defBody s_are_figures) (defScope s_are_figures) .none kV_are_figures dc_are_figures pm_are_figures an_are_figures cd_are_figures ct_are_figures), sl_are_figures⟩)
    (c_are_figures : PySem.W.codeIn K cd_are_figures "are_figures" = true) (k_are_figures : PySem.W.keepIn K (.ref f_are_figures) = true)
    {f_need_base : Addr} {od_need_base an_need_base : Option Addr} {sl_need_base : Array (Option Value)} {oc_need_base kV_need_base dc_need_base pm_need_base cd_need_base ct_need_base : Value}
    (a_need_base : PySem.W.nsIn K mainGlobals "need_base" = some (some (.ref f_need_base)))
    (l_need_base : K.lookup f_need_base = some ⟨oc_need_base, od_need_base, .func (PySem.W.fnOf "need_base" "need_base" (defArgs s_need_base) (defBody s_need_base) (defScope s_need_base) .none kV_need_base dc_need_base pm_need_base an_need_base cd_need_base ct_need_base), sl_need_base⟩)
    (c_need_base : PySem.W.codeIn K cd_need_base "need_base" = true) (k_need_base : PySem.W.keepIn K (.ref f_need_base) = true)
    {f_worth : Addr} {od_worth an_worth : Option Addr} {sl_worth : Array (Option Value)} {oc_worth kV_worth dc_worth pm_worth cd_worth ct_worth : Value}
    (a_worth : PySem.W.nsIn K mainGlobals "worth" = some (some (.ref f_worth)))
    (l_worth : K.lookup f_worth = some ⟨oc_worth, od_worth, .func (PySem.W.fnOf "worth" "worth" (defArgs s_worth) (defBody s_worth) (defScope s_worth) .none kV_worth dc_worth pm_worth an_worth cd_worth ct_worth), sl_worth⟩)
    (c_worth : PySem.W.codeIn K cd_worth "worth" = true) (k_worth : PySem.W.keepIn K (.ref f_worth) = true)
    {f_number_by : Addr} {od_number_by an_number_by : Option Addr} {sl_number_by : Array (Option Value)} {oc_number_by kV_number_by dc_number_by pm_number_by cd_number_by ct_number_by : Value}
    (a_number_by : PySem.W.nsIn K mainGlobals "number_by" = some (some (.ref f_number_by)))
    (l_number_by : K.lookup f_number_by = some ⟨oc_number_by, od_number_by, .func (PySem.W.fnOf "number_by" "number_by" (defArgs s_number_by) (defBody s_number_by) (defScope s_number_by) .none kV_number_by dc_number_by pm_number_by an_number_by cd_number_by ct_number_by), sl_number_by⟩)
    (c_number_by : PySem.W.codeIn K cd_number_by "number_by" = true) (k_number_by : PySem.W.keepIn K (.ref f_number_by) = true)
    {f_read_figures : Addr} {od_read_figures an_read_figures : Option Addr} {sl_read_figures : Array (Option Value)} {oc_read_figures kV_read_figures dc_read_figures pm_read_figures cd_read_figures ct_read_figures : Value}
    (a_read_figures : PySem.W.nsIn K mainGlobals "read_figures" = some (some (.ref f_read_figures)))
    (l_read_figures : K.lookup f_read_figures = some ⟨oc_read_figures, od_read_figures, .func (PySem.W.fnOf "read_figures" "read_figures" (defArgs s_read_figures) (defBody s_read_figures) (defScope s_read_figures) .none kV_read_figures dc_read_figures pm_read_figures an_read_figures cd_read_figures ct_read_figures), sl_read_figures⟩)
    (c_read_figures : PySem.W.codeIn K cd_read_figures "read_figures" = true) (k_read_figures : PySem.W.keepIn K (.ref f_read_figures) = true)
    {f_read_number : Addr} {od_read_number an_read_number : Option Addr} {sl_read_number : Array (Option Value)} {oc_read_number kV_read_number dc_read_number pm_read_number cd_read_number ct_read_number : Value}
    (a_read_number : PySem.W.nsIn K mainGlobals "read_number" = some (some (.ref f_read_number)))
    (l_read_number : K.lookup f_read_number = some ⟨oc_read_number, od_read_number, .func (PySem.W.fnOf "read_number" "read_number" (defArgs s_read_number) (defBody s_read_number) (defScope s_read_number) .none kV_read_number dc_read_number pm_read_number an_read_number cd_read_number ct_read_number), sl_read_number⟩)
    (c_read_number : PySem.W.codeIn K cd_read_number "read_number" = true) (k_read_number : PySem.W.keepIn K (.ref f_read_number) = true)
    {f_is_stretch : Addr} {od_is_stretch an_is_stretch : Option Addr} {sl_is_stretch : Array (Option Value)} {oc_is_stretch kV_is_stretch dc_is_stretch pm_is_stretch cd_is_stretch ct_is_stretch : Value}
    (a_is_stretch : PySem.W.nsIn K mainGlobals "is_stretch" = some (some (.ref f_is_stretch)))
    (l_is_stretch : K.lookup f_is_stretch = some ⟨oc_is_stretch, od_is_stretch, .func (PySem.W.fnOf "is_stretch" "is_stretch" (defArgs s_is_stretch) (defBody s_is_stretch) (defScope s_is_stretch) .none kV_is_stretch dc_is_stretch pm_is_stretch an_is_stretch cd_is_stretch ct_is_stretch), sl_is_stretch⟩)
    (c_is_stretch : PySem.W.codeIn K cd_is_stretch "is_stretch" = true) (k_is_stretch : PySem.W.keepIn K (.ref f_is_stretch) = true)
    {f_is_rule : Addr} {od_is_rule an_is_rule : Option Addr} {sl_is_rule : Array (Option Value)} {oc_is_rule kV_is_rule dc_is_rule pm_is_rule cd_is_rule ct_is_rule : Value}
    (a_is_rule : PySem.W.nsIn K mainGlobals "is_rule" = some (some (.ref f_is_rule)))
    (l_is_rule : K.lookup f_is_rule = some ⟨oc_is_rule, od_is_rule, .func (PySem.W.fnOf "is_rule" "is_rule" (defArgs s_is_rule) (defBody s_is_rule) (defScope s_is_rule) .none kV_is_rule dc_is_rule pm_is_rule an_is_rule cd_is_rule ct_is_rule), sl_is_rule⟩)
    (c_is_rule : PySem.W.codeIn K cd_is_rule "is_rule" = true) (k_is_rule : PySem.W.keepIn K (.ref f_is_rule) = true)
    {f_read_rule : Addr} {od_read_rule an_read_rule : Option Addr} {sl_read_rule : Array (Option Value)} {oc_read_rule kV_read_rule dc_read_rule pm_read_rule cd_read_rule ct_read_rule : Value}
    (a_read_rule : PySem.W.nsIn K mainGlobals "read_rule" = some (some (.ref f_read_rule)))
    (l_read_rule : K.lookup f_read_rule = some ⟨oc_read_rule, od_read_rule, .func (PySem.W.fnOf "read_rule" "read_rule" (defArgs s_read_rule) (defBody s_read_rule) (defScope s_read_rule) .none kV_read_rule dc_read_rule pm_read_rule an_read_rule cd_read_rule ct_read_rule), sl_read_rule⟩)
    (c_read_rule : PySem.W.codeIn K cd_read_rule "read_rule" = true) (k_read_rule : PySem.W.keepIn K (.ref f_read_rule) = true)
    {f_need_from : Addr} {od_need_from an_need_from : Option Addr} {sl_need_from : Array (Option Value)} {oc_need_from kV_need_from dc_need_from pm_need_from cd_need_from ct_need_from : Value}
    (a_need_from : PySem.W.nsIn K mainGlobals "need_from" = some (some (.ref f_need_from)))
    (l_need_from : K.lookup f_need_from = some ⟨oc_need_from, od_need_from, .func (PySem.W.fnOf "need_from" "need_from" (defArgs s_need_from) (defBody s_need_from) (defScope s_need_from) .none kV_need_from dc_need_from pm_need_from an_need_from cd_need_from ct_need_from), sl_need_from⟩)
    (c_need_from : PySem.W.codeIn K cd_need_from "need_from" = true) (k_need_from : PySem.W.keepIn K (.ref f_need_from) = true)
    {f_written : Addr} {od_written an_written : Option Addr} {sl_written : Array (Option Value)} {oc_written kV_written dc_written pm_written cd_written ct_written : Value}
    (a_written : PySem.W.nsIn K mainGlobals "written" = some (some (.ref f_written)))
    (l_written : K.lookup f_written = some ⟨oc_written, od_written, .func (PySem.W.fnOf "written" "written" (defArgs s_written) (defBody s_written) (defScope s_written) .none kV_written dc_written pm_written an_written cd_written ct_written), sl_written⟩)
    (c_written : PySem.W.codeIn K cd_written "written" = true) (k_written : PySem.W.keepIn K (.ref f_written) = true)
    {f_figures_of : Addr} {od_figures_of an_figures_of : Option Addr} {sl_figures_of : Array (Option Value)} {oc_figures_of kV_figures_of dc_figures_of pm_figures_of cd_figures_of ct_figures_of : Value}
    (a_figures_of : PySem.W.nsIn K mainGlobals "figures_of" = some (some (.ref f_figures_of)))
    (l_figures_of : K.lookup f_figures_of = some ⟨oc_figures_of, od_figures_of, .func (PySem.W.fnOf "figures_of" "figures_of" (defArgs s_figures_of) (defBody s_figures_of) (defScope s_figures_of) .none kV_figures_of dc_figures_of pm_figures_of an_figures_of cd_figures_of ct_figures_of), sl_figures_of⟩)
    (c_figures_of : PySem.W.codeIn K cd_figures_of "figures_of" = true) (k_figures_of : PySem.W.keepIn K (.ref f_figures_of) = true)
    {f_figures_text : Addr} {od_figures_text an_figures_text : Option Addr} {sl_figures_text : Array (Option Value)} {oc_figures_text kV_figures_text dc_figures_text pm_figures_text cd_figures_text ct_figures_text : Value}
    (a_figures_text : PySem.W.nsIn K mainGlobals "figures_text" = some (some (.ref f_figures_text)))
    (l_figures_text : K.lookup f_figures_text = some ⟨oc_figures_text, od_figures_text, .func (PySem.W.fnOf "figures_text" "figures_text" (defArgs s_figures_text) (defBody s_figures_text) (defScope s_figures_text) .none kV_figures_text dc_figures_text pm_figures_text an_figures_text cd_figures_text ct_figures_text), sl_figures_text⟩)
    (c_figures_text : PySem.W.codeIn K cd_figures_text "figures_text" = true) (k_figures_text : PySem.W.keepIn K (.ref f_figures_text) = true)
    {f_show_number : Addr} {od_show_number an_show_number : Option Addr} {sl_show_number : Array (Option Value)} {oc_show_number kV_show_number dc_show_number pm_show_number cd_show_number ct_show_number : Value}
    (a_show_number : PySem.W.nsIn K mainGlobals "show_number" = some (some (.ref f_show_number)))
    (l_show_number : K.lookup f_show_number = some ⟨oc_show_number, od_show_number, .func (PySem.W.fnOf "show_number" "show_number" (defArgs s_show_number) (defBody s_show_number) (defScope s_show_number) .none kV_show_number dc_show_number pm_show_number an_show_number cd_show_number ct_show_number), sl_show_number⟩)
    (c_show_number : PySem.W.codeIn K cd_show_number "show_number" = true) (k_show_number : PySem.W.keepIn K (.ref f_show_number) = true)
    {f_show_rule : Addr} {od_show_rule an_show_rule : Option Addr} {sl_show_rule : Array (Option Value)} {oc_show_rule kV_show_rule dc_show_rule pm_show_rule cd_show_rule ct_show_rule : Value}
    (a_show_rule : PySem.W.nsIn K mainGlobals "show_rule" = some (some (.ref f_show_rule)))
    (l_show_rule : K.lookup f_show_rule = some ⟨oc_show_rule, od_show_rule, .func (PySem.W.fnOf "show_rule" "show_rule" (defArgs s_show_rule) (defBody s_show_rule) (defScope s_show_rule) .none kV_show_rule dc_show_rule pm_show_rule an_show_rule cd_show_rule ct_show_rule), sl_show_rule⟩)
    (c_show_rule : PySem.W.codeIn K cd_show_rule "show_rule" = true) (k_show_rule : PySem.W.keepIn K (.ref f_show_rule) = true)
    {f__law_asked : Addr} {od__law_asked an__law_asked : Option Addr} {sl__law_asked : Array (Option Value)} {oc__law_asked kV__law_asked dc__law_asked pm__law_asked cd__law_asked ct__law_asked : Value}
    (a__law_asked : PySem.W.nsIn K mainGlobals "_law_asked" = some (some (.ref f__law_asked)))
    (l__law_asked : K.lookup f__law_asked = some ⟨oc__law_asked, od__law_asked, .func (PySem.W.fnOf "_law_asked" "_law_asked" (defArgs s__law_asked) (defBody s__law_asked) (defScope s__law_asked) .none kV__law_asked dc__law_asked pm__law_asked an__law_asked cd__law_asked ct__law_asked), sl__law_asked⟩)
    (c__law_asked : PySem.W.codeIn K cd__law_asked "_law_asked" = true) (k__law_asked : PySem.W.keepIn K (.ref f__law_asked) = true)
    {f__law_bad : Addr} {od__law_bad an__law_bad : Option Addr} {sl__law_bad : Array (Option Value)} {oc__law_bad kV__law_bad dc__law_bad pm__law_bad cd__law_bad ct__law_bad : Value}
    (a__law_bad : PySem.W.nsIn K mainGlobals "_law_bad" = some (some (.ref f__law_bad)))
    (l__law_bad : K.lookup f__law_bad = some ⟨oc__law_bad, od__law_bad, .func (PySem.W.fnOf "_law_bad" "_law_bad" (defArgs s__law_bad) (defBody s__law_bad) (defScope s__law_bad) .none kV__law_bad dc__law_bad pm__law_bad an__law_bad cd__law_bad ct__law_bad), sl__law_bad⟩)
    (c__law_bad : PySem.W.codeIn K cd__law_bad "_law_bad" = true) (k__law_bad : PySem.W.keepIn K (.ref f__law_bad) = true)
    {f__law_cell : Addr} {od__law_cell an__law_cell : Option Addr} {sl__law_cell : Array (Option Value)} {oc__law_cell kV__law_cell dc__law_cell pm__law_cell cd__law_cell ct__law_cell : Value}
    (a__law_cell : PySem.W.nsIn K mainGlobals "_law_cell" = some (some (.ref f__law_cell)))
    (l__law_cell : K.lookup f__law_cell = some ⟨oc__law_cell, od__law_cell, .func (PySem.W.fnOf "_law_cell" "_law_cell" (defArgs s__law_cell) (defBody s__law_cell) (defScope s__law_cell) .none kV__law_cell dc__law_cell pm__law_cell an__law_cell cd__law_cell ct__law_cell), sl__law_cell⟩)
    (c__law_cell : PySem.W.codeIn K cd__law_cell "_law_cell" = true) (k__law_cell : PySem.W.keepIn K (.ref f__law_cell) = true)
    {f__law_figures : Addr} {od__law_figures an__law_figures : Option Addr} {sl__law_figures : Array (Option Value)} {oc__law_figures kV__law_figures dc__law_figures pm__law_figures cd__law_figures ct__law_figures : Value}
    (a__law_figures : PySem.W.nsIn K mainGlobals "_law_figures" = some (some (.ref f__law_figures)))
    (l__law_figures : K.lookup f__law_figures = some ⟨oc__law_figures, od__law_figures, .func (PySem.W.fnOf "_law_figures" "_law_figures" (defArgs s__law_figures) (defBody s__law_figures) (defScope s__law_figures) .none kV__law_figures dc__law_figures pm__law_figures an__law_figures cd__law_figures ct__law_figures), sl__law_figures⟩)
    (c__law_figures : PySem.W.codeIn K cd__law_figures "_law_figures" = true) (k__law_figures : PySem.W.keepIn K (.ref f__law_figures) = true)
    {f__law_mixed : Addr} {od__law_mixed an__law_mixed : Option Addr} {sl__law_mixed : Array (Option Value)} {oc__law_mixed kV__law_mixed dc__law_mixed pm__law_mixed cd__law_mixed ct__law_mixed : Value}
    (a__law_mixed : PySem.W.nsIn K mainGlobals "_law_mixed" = some (some (.ref f__law_mixed)))
    (l__law_mixed : K.lookup f__law_mixed = some ⟨oc__law_mixed, od__law_mixed, .func (PySem.W.fnOf "_law_mixed" "_law_mixed" (defArgs s__law_mixed) (defBody s__law_mixed) (defScope s__law_mixed) .none kV__law_mixed dc__law_mixed pm__law_mixed an__law_mixed cd__law_mixed ct__law_mixed), sl__law_mixed⟩)
    (c__law_mixed : PySem.W.codeIn K cd__law_mixed "_law_mixed" = true) (k__law_mixed : PySem.W.keepIn K (.ref f__law_mixed) = true)
    {f__law_number : Addr} {od__law_number an__law_number : Option Addr} {sl__law_number : Array (Option Value)} {oc__law_number kV__law_number dc__law_number pm__law_number cd__law_number ct__law_number : Value}
    (a__law_number : PySem.W.nsIn K mainGlobals "_law_number" = some (some (.ref f__law_number)))
    (l__law_number : K.lookup f__law_number = some ⟨oc__law_number, od__law_number, .func (PySem.W.fnOf "_law_number" "_law_number" (defArgs s__law_number) (defBody s__law_number) (defScope s__law_number) .none kV__law_number dc__law_number pm__law_number an__law_number cd__law_number ct__law_number), sl__law_number⟩)
    (c__law_number : PySem.W.codeIn K cd__law_number "_law_number" = true) (k__law_number : PySem.W.keepIn K (.ref f__law_number) = true)
    {f__law_odd : Addr} {od__law_odd an__law_odd : Option Addr} {sl__law_odd : Array (Option Value)} {oc__law_odd kV__law_odd dc__law_odd pm__law_odd cd__law_odd ct__law_odd : Value}
    (a__law_odd : PySem.W.nsIn K mainGlobals "_law_odd" = some (some (.ref f__law_odd)))
    (l__law_odd : K.lookup f__law_odd = some ⟨oc__law_odd, od__law_odd, .func (PySem.W.fnOf "_law_odd" "_law_odd" (defArgs s__law_odd) (defBody s__law_odd) (defScope s__law_odd) .none kV__law_odd dc__law_odd pm__law_odd an__law_odd cd__law_odd ct__law_odd), sl__law_odd⟩)
    (c__law_odd : PySem.W.codeIn K cd__law_odd "_law_odd" = true) (k__law_odd : PySem.W.keepIn K (.ref f__law_odd) = true)
    {f__law_rule : Addr} {od__law_rule an__law_rule : Option Addr} {sl__law_rule : Array (Option Value)} {oc__law_rule kV__law_rule dc__law_rule pm__law_rule cd__law_rule ct__law_rule : Value}
    (a__law_rule : PySem.W.nsIn K mainGlobals "_law_rule" = some (some (.ref f__law_rule)))
    (l__law_rule : K.lookup f__law_rule = some ⟨oc__law_rule, od__law_rule, .func (PySem.W.fnOf "_law_rule" "_law_rule" (defArgs s__law_rule) (defBody s__law_rule) (defScope s__law_rule) .none kV__law_rule dc__law_rule pm__law_rule an__law_rule cd__law_rule ct__law_rule), sl__law_rule⟩)
    (c__law_rule : PySem.W.codeIn K cd__law_rule "_law_rule" = true) (k__law_rule : PySem.W.keepIn K (.ref f__law_rule) = true)
    {f__law_text : Addr} {od__law_text an__law_text : Option Addr} {sl__law_text : Array (Option Value)} {oc__law_text kV__law_text dc__law_text pm__law_text cd__law_text ct__law_text : Value}
    (a__law_text : PySem.W.nsIn K mainGlobals "_law_text" = some (some (.ref f__law_text)))
    (l__law_text : K.lookup f__law_text = some ⟨oc__law_text, od__law_text, .func (PySem.W.fnOf "_law_text" "_law_text" (defArgs s__law_text) (defBody s__law_text) (defScope s__law_text) .none kV__law_text dc__law_text pm__law_text an__law_text cd__law_text ct__law_text), sl__law_text⟩)
    (c__law_text : PySem.W.codeIn K cd__law_text "_law_text" = true) (k__law_text : PySem.W.keepIn K (.ref f__law_text) = true)
    {f__law_given : Addr} {od__law_given an__law_given : Option Addr} {sl__law_given : Array (Option Value)} {oc__law_given kV__law_given dc__law_given pm__law_given cd__law_given ct__law_given : Value}
    (a__law_given : PySem.W.nsIn K mainGlobals "_law_given" = some (some (.ref f__law_given)))
    (l__law_given : K.lookup f__law_given = some ⟨oc__law_given, od__law_given, .func (PySem.W.fnOf "_law_given" "_law_given" (defArgs s__law_given) (defBody s__law_given) (defScope s__law_given) .none kV__law_given dc__law_given pm__law_given an__law_given cd__law_given ct__law_given), sl__law_given⟩)
    (c__law_given : PySem.W.codeIn K cd__law_given "_law_given" = true) (k__law_given : PySem.W.keepIn K (.ref f__law_given) = true)
    {f__law_writes_number : Addr} {od__law_writes_number an__law_writes_number : Option Addr} {sl__law_writes_number : Array (Option Value)} {oc__law_writes_number kV__law_writes_number dc__law_writes_number pm__law_writes_number cd__law_writes_number ct__law_writes_number : Value}
    (a__law_writes_number : PySem.W.nsIn K mainGlobals "_law_writes_number" = some (some (.ref f__law_writes_number)))
    (l__law_writes_number : K.lookup f__law_writes_number = some ⟨oc__law_writes_number, od__law_writes_number, .func (PySem.W.fnOf "_law_writes_number" "_law_writes_number" (defArgs s__law_writes_number) (defBody s__law_writes_number) (defScope s__law_writes_number) .none kV__law_writes_number dc__law_writes_number pm__law_writes_number an__law_writes_number cd__law_writes_number ct__law_writes_number), sl__law_writes_number⟩)
    (c__law_writes_number : PySem.W.codeIn K cd__law_writes_number "_law_writes_number" = true) (k__law_writes_number : PySem.W.keepIn K (.ref f__law_writes_number) = true)
    {f__law_writes_rule : Addr} {od__law_writes_rule an__law_writes_rule : Option Addr} {sl__law_writes_rule : Array (Option Value)} {oc__law_writes_rule kV__law_writes_rule dc__law_writes_rule pm__law_writes_rule cd__law_writes_rule ct__law_writes_rule : Value}
    (a__law_writes_rule : PySem.W.nsIn K mainGlobals "_law_writes_rule" = some (some (.ref f__law_writes_rule)))
    (l__law_writes_rule : K.lookup f__law_writes_rule = some ⟨oc__law_writes_rule, od__law_writes_rule, .func (PySem.W.fnOf "_law_writes_rule" "_law_writes_rule" (defArgs s__law_writes_rule) (defBody s__law_writes_rule) (defScope s__law_writes_rule) .none kV__law_writes_rule dc__law_writes_rule pm__law_writes_rule an__law_writes_rule cd__law_writes_rule ct__law_writes_rule), sl__law_writes_rule⟩)
    (c__law_writes_rule : PySem.W.codeIn K cd__law_writes_rule "_law_writes_rule" = true) (k__law_writes_rule : PySem.W.keepIn K (.ref f__law_writes_rule) = true)
    {f_law : Addr} {od_law an_law : Option Addr} {sl_law : Array (Option Value)} {oc_law kV_law dc_law pm_law cd_law ct_law : Value}
    (a_law : PySem.W.nsIn K mainGlobals "law" = some (some (.ref f_law)))
    (l_law : K.lookup f_law = some ⟨oc_law, od_law, .func (PySem.W.fnOf "law" "law" (defArgs s_law) (defBody s_law) (defScope s_law) .none kV_law dc_law pm_law an_law cd_law ct_law), sl_law⟩)
    (c_law : PySem.W.codeIn K cd_law "law" = true) (k_law : PySem.W.keepIn K (.ref f_law) = true)
    {t_LEAST_BASE : Tok} (g_LEAST_BASE : PySem.W.nsIn K mainGlobals "LEAST_BASE" = some (some (.int 2 t_LEAST_BASE)))
    {t_MOST_BASE : Tok} (g_MOST_BASE : PySem.W.nsIn K mainGlobals "MOST_BASE" = some (some (.int 16 t_MOST_BASE)))
    {t_MOST_FIGURES : Tok} (g_MOST_FIGURES : PySem.W.nsIn K mainGlobals "MOST_FIGURES" = some (some (.int 4 t_MOST_FIGURES)))
    {t_MOST_STRETCHES : Tok} (g_MOST_STRETCHES : PySem.W.nsIn K mainGlobals "MOST_STRETCHES" = some (some (.int 4 t_MOST_STRETCHES)))
    {t_SIGNS : Tok} (g_SIGNS : PySem.W.nsIn K mainGlobals "SIGNS" = some (some (.str ("0123456789abcdef" : Str) t_SIGNS)))
    {C_Lack C_NoBase C_NoNumber C_NoFigures C_NoRule C_NoStand C_NoGood C_Endless C_NoRules C_NoStretch C_TooMany C_NoText C_NoName C_NoRow : Addr}
    (g_LackError : PySem.W.nsIn K mainGlobals "LackError" = some (some (.ref C_Lack)))
    (g_NoBase : PySem.W.nsIn K mainGlobals "NoBase" = some (some (.ref C_NoBase)))
    (g_NoNumber : PySem.W.nsIn K mainGlobals "NoNumber" = some (some (.ref C_NoNumber)))
    (g_NoFigures : PySem.W.nsIn K mainGlobals "NoFigures" = some (some (.ref C_NoFigures)))
    (g_NoRule : PySem.W.nsIn K mainGlobals "NoRule" = some (some (.ref C_NoRule)))
    (g_NoStand : PySem.W.nsIn K mainGlobals "NoStand" = some (some (.ref C_NoStand)))
    (g_NoGood : PySem.W.nsIn K mainGlobals "NoGood" = some (some (.ref C_NoGood)))
    (g_Endless : PySem.W.nsIn K mainGlobals "Endless" = some (some (.ref C_Endless)))
    (g_NoRules : PySem.W.nsIn K mainGlobals "NoRules" = some (some (.ref C_NoRules)))
    (g_NoStretch : PySem.W.nsIn K mainGlobals "NoStretch" = some (some (.ref C_NoStretch)))
    (g_TooMany : PySem.W.nsIn K mainGlobals "TooMany" = some (some (.ref C_TooMany)))
    (g_NoText : PySem.W.nsIn K mainGlobals "NoText" = some (some (.ref C_NoText)))
    (g_NoName : PySem.W.nsIn K mainGlobals "NoName" = some (some (.ref C_NoName)))
    (g_NoRow : PySem.W.nsIn K mainGlobals "NoRow" = some (some (.ref C_NoRow)))
    (e_all : @erAllB ⟨adOf C_NoBase C_NoNumber C_NoFigures C_NoRule C_NoStand C_NoGood C_Endless C_NoRules C_NoStretch C_TooMany C_NoText C_NoName C_NoRow, C_Lack⟩ K = true)
    (z_ValueError : PySem.W.nsIn K mainGlobals "ValueError" = some none)
    (z_abs : PySem.W.nsIn K mainGlobals "abs" = some none)
    (z_bool : PySem.W.nsIn K mainGlobals "bool" = some none)
    (z_int : PySem.W.nsIn K mainGlobals "int" = some none)
    (z_isinstance : PySem.W.nsIn K mainGlobals "isinstance" = some none)
    (z_len : PySem.W.nsIn K mainGlobals "len" = some none)
    (z_list : PySem.W.nsIn K mainGlobals "list" = some none)
    (z_max : PySem.W.nsIn K mainGlobals "max" = some none)
    (z_min : PySem.W.nsIn K mainGlobals "min" = some none)
    (z_range : PySem.W.nsIn K mainGlobals "range" = some none)
    (z_repr : PySem.W.nsIn K mainGlobals "repr" = some none)
    (z_sorted : PySem.W.nsIn K mainGlobals "sorted" = some none)
    (z_str : PySem.W.nsIn K mainGlobals "str" = some none)
    (z_tuple : PySem.W.nsIn K mainGlobals "tuple" = some none) :
    ∃ fd : FuncData, (∀ (s : Shared) (v : Value), BindsTo s fd ⟨[v], []⟩ [("script", v)]) ∧ ∀ base : Heap, K.In base → base.Ns mainGlobals mg → (base.get? sysModules).isSome = true → FnOkG l.prog w K mg base CX0 8 fa fd ["script"] (sp_law K) := by
  have e := hfa.symm.trans (PySem.W.mg_of X G a_law)
  cases e
  letI : ErT := ⟨adOf C_NoBase C_NoNumber C_NoFigures C_NoRule C_NoStand C_NoGood C_Endless C_NoRules C_NoStretch C_TooMany C_NoText C_NoName C_NoRow, C_Lack⟩
  let T : Txt K mg := {
    f_is_whole := ⟨_, _, fun_mk l_is_whole c_is_whole k_is_whole, PySem.W.mg_of X G a_is_whole, (fun_mk (st := s_is_whole) l_is_whole c_is_whole k_is_whole).binds (ps := ["thing"]) (fun _ _ _ _ _ _ us hl => match us, hl with | [_], _ => rfl)⟩,
    f_is_base := ⟨_, _, fun_mk l_is_base c_is_base k_is_base, PySem.W.mg_of X G a_is_base, (fun_mk (st := s_is_base) l_is_base c_is_base k_is_base).binds (ps := ["thing"]) (fun _ _ _ _ _ _ us hl => match us, hl with | [_], _ => rfl)⟩,
    f_is_figure := ⟨_, _, fun_mk l_is_figure c_is_figure k_is_figure, PySem.W.mg_of X G a_is_figure, (fun_mk (st := s_is_figure) l_is_figure c_is_figure k_is_figure).binds (ps := ["base", "thing"]) (fun _ _ _ _ _ _ us hl => match us, hl with | [_, _], _ => rfl)⟩,
    f_are_figures := ⟨_, _, fun_mk l_are_figures c_are_figures k_are_figures, PySem.W.mg_of X G a_are_figures, (fun_mk (st := s_are_figures) l_are_figures c_are_figures k_are_figures).binds (ps := ["base", "thing"]) (fun _ _ _ _ _ _ us hl => match us, hl with | [_, _], _ => rfl)⟩,
    f_need_base := ⟨_, _, fun_mk l_need_base c_need_base k_need_base, PySem.W.mg_of X G a_need_base, (fun_mk (st := s_need_base) l_need_base c_need_base k_need_base).binds (ps := ["thing"]) (fun _ _ _ _ _ _ us hl => match us, hl with | [_], _ => rfl)⟩,
    f_worth := ⟨_, _, fun_mk l_worth c_worth k_worth, PySem.W.mg_of X G a_worth, (fun_mk (st := s_worth) l_worth c_worth k_worth).binds (ps := ["base", "figures"]) (fun _ _ _ _ _ _ us hl => match us, hl with | [_, _], _ => rfl)⟩,
    f_number_by := ⟨_, _, fun_mk l_number_by c_number_by k_number_by, PySem.W.mg_of X G a_number_by, (fun_mk (st := s_number_by) l_number_by c_number_by k_number_by).binds (ps := ["base", "figures"]) (fun _ _ _ _ _ _ us hl => match us, hl with | [_, _], _ => rfl)⟩,
    f_read_figures := ⟨_, _, fun_mk l_read_figures c_read_figures k_read_figures, PySem.W.mg_of X G a_read_figures, (fun_mk (st := s_read_figures) l_read_figures c_read_figures k_read_figures).binds (ps := ["base", "word"]) (fun _ _ _ _ _ _ us hl => match us, hl with | [_, _], _ => rfl)⟩,
    f_read_number := ⟨_, _, fun_mk l_read_number c_read_number k_read_number, PySem.W.mg_of X G a_read_number, (fun_mk (st := s_read_number) l_read_number c_read_number k_read_number).binds (ps := ["base", "text"]) (fun _ _ _ _ _ _ us hl => match us, hl with | [_, _], _ => rfl)⟩,
    f_is_stretch := ⟨_, _, fun_mk l_is_stretch c_is_stretch k_is_stretch, PySem.W.mg_of X G a_is_stretch, (fun_mk (st := s_is_stretch) l_is_stretch c_is_stretch k_is_stretch).binds (ps := ["base", "thing"]) (fun _ _ _ _ _ _ us hl => match us, hl with | [_, _], _ => rfl)⟩,
    f_is_rule := ⟨_, _, fun_mk l_is_rule c_is_rule k_is_rule, PySem.W.mg_of X G a_is_rule, (fun_mk (st := s_is_rule) l_is_rule c_is_rule k_is_rule).binds (ps := ["thing"]) (fun _ _ _ _ _ _ us hl => match us, hl with | [_], _ => rfl)⟩,
    f_read_rule := ⟨_, _, fun_mk l_read_rule c_read_rule k_read_rule, PySem.W.mg_of X G a_read_rule, (fun_mk (st := s_read_rule) l_read_rule c_read_rule k_read_rule).binds (ps := ["text"]) (fun _ _ _ _ _ _ us hl => match us, hl with | [_], _ => rfl)⟩,
    f_need_from := ⟨_, _, fun_mk l_need_from c_need_from k_need_from, PySem.W.mg_of X G a_need_from, (fun_mk (st := s_need_from) l_need_from c_need_from k_need_from).binds (ps := ["thing", "least"]) (fun _ _ _ _ _ _ us hl => match us, hl with | [_, _], _ => rfl)⟩,
    f_written := ⟨_, _, fun_mk l_written c_written k_written, PySem.W.mg_of X G a_written, (fun_mk (st := s_written) l_written c_written k_written).binds (ps := ["base", "n"]) (fun _ _ _ _ _ _ us hl => match us, hl with | [_, _], _ => rfl)⟩,
    f_figures_of := ⟨_, _, fun_mk l_figures_of c_figures_of k_figures_of, PySem.W.mg_of X G a_figures_of, (fun_mk (st := s_figures_of) l_figures_of c_figures_of k_figures_of).binds (ps := ["base", "n"]) (fun _ _ _ _ _ _ us hl => match us, hl with | [_, _], _ => rfl)⟩,
    f_figures_text := ⟨_, _, fun_mk l_figures_text c_figures_text k_figures_text, PySem.W.mg_of X G a_figures_text, (fun_mk (st := s_figures_text) l_figures_text c_figures_text k_figures_text).binds (ps := ["figures"]) (fun _ _ _ _ _ _ us hl => match us, hl with | [_], _ => rfl)⟩,
    f_show_number := ⟨_, _, fun_mk l_show_number c_show_number k_show_number, PySem.W.mg_of X G a_show_number, (fun_mk (st := s_show_number) l_show_number c_show_number k_show_number).binds (ps := ["base", "n"]) (fun _ _ _ _ _ _ us hl => match us, hl with | [_, _], _ => rfl)⟩,
    f_show_rule := ⟨_, _, fun_mk l_show_rule c_show_rule k_show_rule, PySem.W.mg_of X G a_show_rule, (fun_mk (st := s_show_rule) l_show_rule c_show_rule k_show_rule).binds (ps := ["rule"]) (fun _ _ _ _ _ _ us hl => match us, hl with | [_], _ => rfl)⟩,
    f__law_asked := ⟨_, _, fun_mk l__law_asked c__law_asked k__law_asked, PySem.W.mg_of X G a__law_asked, (fun_mk (st := s__law_asked) l__law_asked c__law_asked k__law_asked).binds (ps := ["ask", "base", "thing"]) (fun _ _ _ _ _ _ us hl => match us, hl with | [_, _, _], _ => rfl)⟩,
    f__law_bad := ⟨_, _, fun_mk l__law_bad c__law_bad k__law_bad, PySem.W.mg_of X G a__law_bad, (fun_mk (st := s__law_bad) l__law_bad c__law_bad k__law_bad).binds (ps := ["rule", "cell"]) (fun _ _ _ _ _ _ us hl => match us, hl with | [_, _], _ => rfl)⟩,
    f__law_cell := ⟨_, _, fun_mk l__law_cell c__law_cell k__law_cell, PySem.W.mg_of X G a__law_cell, (fun_mk (st := s__law_cell) l__law_cell c__law_cell k__law_cell).binds (ps := ["script", "k"]) (fun _ _ _ _ _ _ us hl => match us, hl with | [_, _], _ => rfl)⟩,
    f__law_figures := ⟨_, _, fun_mk l__law_figures c__law_figures k__law_figures, PySem.W.mg_of X G a__law_figures, (fun_mk (st := s__law_figures) l__law_figures c__law_figures k__law_figures).binds (ps := ["base", "n"]) (fun _ _ _ _ _ _ us hl => match us, hl with | [_, _], _ => rfl)⟩,
    f__law_mixed := ⟨_, _, fun_mk l__law_mixed c__law_mixed k__law_mixed, PySem.W.mg_of X G a__law_mixed, (fun_mk (st := s__law_mixed) l__law_mixed c__law_mixed k__law_mixed).binds (ps := ["cell", "k"]) (fun _ _ _ _ _ _ us hl => match us, hl with | [_, _], _ => rfl)⟩,
    f__law_number := ⟨_, _, fun_mk l__law_number c__law_number k__law_number, PySem.W.mg_of X G a__law_number, (fun_mk (st := s__law_number) l__law_number c__law_number k__law_number).binds (ps := ["cell", "k"]) (fun _ _ _ _ _ _ us hl => match us, hl with | [_, _], _ => rfl)⟩,
    f__law_odd := ⟨_, _, fun_mk l__law_odd c__law_odd k__law_odd, PySem.W.mg_of X G a__law_odd, (fun_mk (st := s__law_odd) l__law_odd c__law_odd k__law_odd).binds (ps := ["cell"]) (fun _ _ _ _ _ _ us hl => match us, hl with | [_], _ => rfl)⟩,
    f__law_rule := ⟨_, _, fun_mk l__law_rule c__law_rule k__law_rule, PySem.W.mg_of X G a__law_rule, (fun_mk (st := s__law_rule) l__law_rule c__law_rule k__law_rule).binds (ps := ["cell"]) (fun _ _ _ _ _ _ us hl => match us, hl with | [_], _ => rfl)⟩,
    f__law_text := ⟨_, _, fun_mk l__law_text c__law_text k__law_text, PySem.W.mg_of X G a__law_text, (fun_mk (st := s__law_text) l__law_text c__law_text k__law_text).binds (ps := ["figures"]) (fun _ _ _ _ _ _ us hl => match us, hl with | [_], _ => rfl)⟩,
    f__law_given := ⟨_, _, fun_mk l__law_given c__law_given k__law_given, PySem.W.mg_of X G a__law_given, (fun_mk (st := s__law_given) l__law_given c__law_given k__law_given).binds (ps := ["cell"]) (fun _ _ _ _ _ _ us hl => match us, hl with | [_], _ => rfl)⟩,
    f__law_writes_number := ⟨_, _, fun_mk l__law_writes_number c__law_writes_number k__law_writes_number, PySem.W.mg_of X G a__law_writes_number, (fun_mk (st := s__law_writes_number) l__law_writes_number c__law_writes_number k__law_writes_number).binds (ps := ["base", "text"]) (fun _ _ _ _ _ _ us hl => match us, hl with | [_, _], _ => rfl)⟩,
    f__law_writes_rule := ⟨_, _, fun_mk l__law_writes_rule c__law_writes_rule k__law_writes_rule, PySem.W.mg_of X G a__law_writes_rule, (fun_mk (st := s__law_writes_rule) l__law_writes_rule c__law_writes_rule k__law_writes_rule).binds (ps := ["text"]) (fun _ _ _ _ _ _ us hl => match us, hl with | [_], _ => rfl)⟩,
    f_law := ⟨_, _, fun_mk l_law c_law k_law, PySem.W.mg_of X G a_law, (fun_mk (st := s_law) l_law c_law k_law).binds (ps := ["script"]) (fun _ _ _ _ _ _ us hl => match us, hl with | [_], _ => rfl)⟩,
    c_LEAST_BASE := ⟨t_LEAST_BASE, PySem.W.mg_of X G g_LEAST_BASE⟩,
    c_MOST_BASE := ⟨t_MOST_BASE, PySem.W.mg_of X G g_MOST_BASE⟩,
    c_MOST_FIGURES := ⟨t_MOST_FIGURES, PySem.W.mg_of X G g_MOST_FIGURES⟩,
    c_MOST_STRETCHES := ⟨t_MOST_STRETCHES, PySem.W.mg_of X G g_MOST_STRETCHES⟩,
    c_SIGNS := ⟨t_SIGNS, PySem.W.mg_of X G g_SIGNS⟩,
    er := erTxt_mk e_all (fun e => by cases e <;> first | exact PySem.W.mg_of X G g_NoBase | exact PySem.W.mg_of X G g_NoNumber | exact PySem.W.mg_of X G g_NoFigures | exact PySem.W.mg_of X G g_NoRule | exact PySem.W.mg_of X G g_NoStand | exact PySem.W.mg_of X G g_NoGood | exact PySem.W.mg_of X G g_Endless | exact PySem.W.mg_of X G g_NoRules | exact PySem.W.mg_of X G g_NoStretch | exact PySem.W.mg_of X G g_TooMany | exact PySem.W.mg_of X G g_NoText | exact PySem.W.mg_of X G g_NoName | exact PySem.W.mg_of X G g_NoRow) (PySem.W.mg_of X G g_LackError),
    z_ValueError := PySem.W.mg_none_of X G z_ValueError,
    z_abs := PySem.W.mg_none_of X G z_abs,
    z_bool := PySem.W.mg_none_of X G z_bool,
    z_int := PySem.W.mg_none_of X G z_int,
    z_isinstance := PySem.W.mg_none_of X G z_isinstance,
    z_len := PySem.W.mg_none_of X G z_len,
    z_list := PySem.W.mg_none_of X G z_list,
    z_max := PySem.W.mg_none_of X G z_max,
    z_min := PySem.W.mg_none_of X G z_min,
    z_range := PySem.W.mg_none_of X G z_range,
    z_repr := PySem.W.mg_none_of X G z_repr,
    z_sorted := PySem.W.mg_none_of X G z_sorted,
    z_str := PySem.W.mg_none_of X G z_str,
    z_tuple := PySem.W.mg_none_of X G z_tuple }
  exact ⟨T.f_law.fd, fun s v => .of_eq rfl, fun base _ _ hbs => ok_law T hbs⟩
end My
open PySem PySem.W PyProof.Rows
set_option maxHeartbeats 0 in
theorem PySem.Challenge.cw_lackstretch_k38_texts_that_write_none_holds : PySem.Challenge.rw_lackstretch_k38_texts_that_write_none.Holds := by
  w_on; o_law; k_head; (case hw => w_witness2)
  k_fill
  refine My.walk_ofG (l := PySem.Challenge.rw_lackstretch_k38_texts_that_write_none) (n := 63) (k := 8) (x := "script") (CX := fun _ => L2.CX0) (sp := fun w => My.sp_law _) rfl (by decide) rfl ⟨rfl, by decide, by decide⟩ (by decide +kernel) (fun w h Y => PySem.W.kIn_of Y) ?F (fun _ _ a ns hl _ hS => ⟨a, ns, rfl, hS, My.law_true ns, fun _ => rfl⟩) (fun _ _ _ _ _ h => h)
  case F =>
    intro w mg fa h KX G hmg
    refine' My.all_mk KX G hmg ?a_is_whole ?l_is_whole ?c_is_whole ?k_is_whole ?a_is_base ?l_is_base ?c_is_base ?k_is_base ?a_is_figure ?l_is_figure ?c_is_figure ?k_is_figure ?a_are_figures ?l_are_figures ?c_are_figures ?k_are_figures ?a_need_base ?l_need_base ?c_need_base ?k_need_base ?a_worth ?l_worth ?c_worth ?k_worth ?a_number_by ?l_number_by ?c_number_by ?k_number_by ?a_read_figures ?l_read_figures ?c_read_figures ?k_read_figures ?a_read_number ?l_read_number ?c_read_number ?k_read_number ?a_is_stretch ?l_is_stretch ?c_is_stretch ?k_is_stretch ?a_is_rule ?l_is_rule ?c_is_rule ?k_is_rule ?a_read_rule ?l_read_rule ?c_read_rule ?k_read_rule ?a_need_from ?l_need_from ?c_need_from ?k_need_from ?a_written ?l_written ?c_written ?k_written ?a_figures_of ?l_figures_of ?c_figures_of ?k_figures_of ?a_figures_text ?l_figures_text ?c_figures_text ?k_figures_text ?a_show_number ?l_show_number ?c_show_number ?k_show_number ?a_show_rule ?l_show_rule ?c_show_rule ?k_show_rule ?a__law_asked ?l__law_asked ?c__law_asked ?k__law_asked ?a__law_bad ?l__law_bad ?c__law_bad ?k__law_bad ?a__law_cell ?l__law_cell ?c__law_cell ?k__law_cell ?a__law_figures ?l__law_figures ?c__law_figures ?k__law_figures ?a__law_mixed ?l__law_mixed ?c__law_mixed ?k__law_mixed ?a__law_number ?l__law_number ?c__law_number ?k__law_number ?a__law_odd ?l__law_odd ?c__law_odd ?k__law_odd ?a__law_rule ?l__law_rule ?c__law_rule ?k__law_rule ?a__law_text ?l__law_text ?c__law_text ?k__law_text ?a__law_given ?l__law_given ?c__law_given ?k__law_given ?a__law_writes_number ?l__law_writes_number ?c__law_writes_number ?k__law_writes_number ?a__law_writes_rule ?l__law_writes_rule ?c__law_writes_rule ?k__law_writes_rule ?a_law ?l_law ?c_law ?k_law ?g_LEAST_BASE ?g_MOST_BASE ?g_MOST_FIGURES ?g_MOST_STRETCHES ?g_SIGNS ?g_LackError ?g_NoBase ?g_NoNumber ?g_NoFigures ?g_NoRule ?g_NoStand ?g_NoGood ?g_Endless ?g_NoRules ?g_NoStretch ?g_TooMany ?g_NoText ?g_NoName ?g_NoRow ?e_all ?z_ValueError ?z_abs ?z_bool ?z_int ?z_isinstance ?z_len ?z_list ?z_max ?z_min ?z_range ?z_repr ?z_sorted ?z_str ?z_tuple
    (case a_is_whole => k_is); (case l_is_whole => k_is); (case c_is_whole => k_is); (case k_is_whole => k_is); (case a_is_base => k_is); (case l_is_base => k_is); (case c_is_base => k_is); (case k_is_base => k_is); (case a_is_figure => k_is); (case l_is_figure => k_is); (case c_is_figure => k_is); (case k_is_figure => k_is); (case a_are_figures => k_is); (case l_are_figures => k_is); (case c_are_figures => k_is); (case k_are_figures => k_is); (case a_need_base => k_is); (case l_need_base => k_is); (case c_need_base => k_is); (case k_need_base => k_is); (case a_worth => k_is); (case l_worth => k_is); (case c_worth => k_is); (case k_worth => k_is); (case a_number_by => k_is); (case l_number_by => k_is); (case c_number_by => k_is); (case k_number_by => k_is); (case a_read_figures => k_is); (case l_read_figures => k_is); (case c_read_figures => k_is); (case k_read_figures => k_is); (case a_read_number => k_is); (case l_read_number => k_is); (case c_read_number => k_is); (case k_read_number => k_is); (case a_is_stretch => k_is); (case l_is_stretch => k_is); (case c_is_stretch => k_is); (case k_is_stretch => k_is); (case a_is_rule => k_is); (case l_is_rule => k_is); (case c_is_rule => k_is); (case k_is_rule => k_is); (case a_read_rule => k_is); (case l_read_rule => k_is); (case c_read_rule => k_is); (case k_read_rule => k_is); (case a_need_from => k_is); (case l_need_from => k_is); (case c_need_from => k_is); (case k_need_from => k_is); (case a_written => k_is); (case l_written => k_is); (case c_written => k_is); (case k_written => k_is); (case a_figures_of => k_is); (case l_figures_of => k_is); (case c_figures_of => k_is); (case k_figures_of => k_is); (case a_figures_text => k_is); (case l_figures_text => k_is); (case c_figures_text => k_is); (case k_figures_text => k_is); (case a_show_number => k_is); (case l_show_number => k_is); (case c_show_number => k_is); (case k_show_number => k_is); (case a_show_rule => k_is); (case l_show_rule => k_is); (case c_show_rule => k_is); (case k_show_rule => k_is); (case a__law_asked => k_is); (case l__law_asked => k_is); (case c__law_asked => k_is); (case k__law_asked => k_is); (case a__law_bad => k_is); (case l__law_bad => k_is); (case c__law_bad => k_is); (case k__law_bad => k_is); (case a__law_cell => k_is); (case l__law_cell => k_is); (case c__law_cell => k_is); (case k__law_cell => k_is); (case a__law_figures => k_is); (case l__law_figures => k_is); (case c__law_figures => k_is); (case k__law_figures => k_is); (case a__law_mixed => k_is); (case l__law_mixed => k_is); (case c__law_mixed => k_is); (case k__law_mixed => k_is); (case a__law_number => k_is); (case l__law_number => k_is); (case c__law_number => k_is); (case k__law_number => k_is); (case a__law_odd => k_is); (case l__law_odd => k_is); (case c__law_odd => k_is); (case k__law_odd => k_is); (case a__law_rule => k_is); (case l__law_rule => k_is); (case c__law_rule => k_is); (case k__law_rule => k_is); (case a__law_text => k_is); (case l__law_text => k_is); (case c__law_text => k_is); (case k__law_text => k_is); (case a__law_given => k_is); (case l__law_given => k_is); (case c__law_given => k_is); (case k__law_given => k_is); (case a__law_writes_number => k_is); (case l__law_writes_number => k_is); (case c__law_writes_number => k_is); (case k__law_writes_number => k_is); (case a__law_writes_rule => k_is); (case l__law_writes_rule => k_is); (case c__law_writes_rule => k_is); (case k__law_writes_rule => k_is); (case a_law => k_is); (case l_law => k_is); (case c_law => k_is); (case k_law => k_is); (case g_LEAST_BASE => k_is); (case g_MOST_BASE => k_is); (case g_MOST_FIGURES => k_is); (case g_MOST_STRETCHES => k_is); (case g_SIGNS => k_is); (case g_LackError => k_is); (case g_NoBase => k_is); (case g_NoNumber => k_is); (case g_NoFigures => k_is); (case g_NoRule => k_is); (case g_NoStand => k_is); (case g_NoGood => k_is); (case g_Endless => k_is); (case g_NoRules => k_is); (case g_NoStretch => k_is); (case g_TooMany => k_is); (case g_NoText => k_is); (case g_NoName => k_is); (case g_NoRow => k_is); (case e_all => kernel_rfl); (case z_ValueError => k_is); (case z_abs => k_is); (case z_bool => k_is); (case z_int => k_is); (case z_isinstance => k_is); (case z_len => k_is); (case z_list => k_is); (case z_max => k_is); (case z_min => k_is); (case z_range => k_is); (case z_repr => k_is); (case z_sorted => k_is); (case z_str => k_is); (case z_tuple => k_is)
