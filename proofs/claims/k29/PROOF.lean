import PyProof.Rows.All
import Wide.All
import OpenK.AllK
import Wide.FinOn
import HandS.ForMost
import HandS.Wide
import HandS.WideMore
import HandS.Style
import HandS.Evl
import HandS.Deep
import HandS.SortOrd
import HandS.IsInst
import HandS.TupLe
import HandS.TupAny
import HandS.Conv
import HandS.More
import KE.SortData
import KE.DataCmp
import HandS.Text
import HandS.Dict
import HandS.Iter
import PyProof.ReprRoads
import HandS.Exc
import HandS.ExcOwn
import HandS.ExcIs
import HandS.ExcValue
import HandS.WordsExc
import HandS.Walk
import HandS.Replace
import HandS.DictTup
import KE.KDictSum
import KE.KDictWalk
import PySem.Challenge.RW_lackstretch_k29_one_rule_of_several
set_option Elab.async false
set_option linter.all false
set_option maxRecDepth 100000
set_option maxHeartbeats 4000000
/-! ### my base: typed data in the heap -/
namespace My
open PySem PySem.Spec PyProof.Rows L2

/-! #### data that stands in a frozen heap -/
mutual
inductive RD (F : Hp) : V → PyData → Prop
  | non : RD F .non .none
  | bl (b : Bool) : RD F (.bl b) (.bool b)
  | int (i : Int) : RD F (.int i) (.int i)
  | str (x : Str) : RD F (.str x) (.str x)
  | lst {a : Addr} {us : List V} {ds : List PyData} : F a = some (.lst us) → RDs F us ds → RD F (.ref a) (.list ds)
  | tup {a : Addr} {us : List V} {ds : List PyData} : F a = some (.tup us) → RDs F us ds → RD F (.ref a) (.tuple ds)
  | dic {a : Addr} {kvs : List (Key × V)} {ds : List (PyData × PyData)} : F a = some (.dK kvs) → RKs F kvs ds → RD F (.ref a) (.dict ds)
inductive RDs (F : Hp) : List V → List PyData → Prop
  | nil : RDs F [] []
  | cons {v : V} {us : List V} {d : PyData} {ds : List PyData} : RD F v d → RDs F us ds → RDs F (v :: us) (d :: ds)
inductive RKs (F : Hp) : List (Key × V) → List (PyData × PyData) → Prop
  | nil : RKs F [] []
  | int {i : Int} {v : V} {d : PyData} {kvs : List (Key × V)} {ds : List (PyData × PyData)} : RD F v d → RKs F kvs ds → RKs F ((.inl i, v) :: kvs) ((.int i, d) :: ds)
  | str {x : Str} {v : V} {d : PyData} {kvs : List (Key × V)} {ds : List (PyData × PyData)} : RD F v d → RKs F kvs ds → RKs F ((.inr x, v) :: kvs) ((.str x, d) :: ds)
end

def Sub (F H : Hp) : Prop := ∀ a o, F a = some o → H a = some o
theorem Sub.refl (H : Hp) : Sub H H := fun _ _ h => h
theorem Sub.trans {H H1 H2 : Hp} (a : Sub H H1) (b : Sub H1 H2) : Sub H H2 := fun x o h => b x o (a x o h)
theorem Sub.new {H : Hp} {p : Addr} {o : HO} (h : H p = none) : Sub H (upd H p o) := fun a u e => by
  rw [upd_ne (ne_of_none e h)]; exact e
theorem Sub.upd {F H : Hp} {p : Addr} {o : HO} (s : Sub F H) : Sub (upd F p o) (upd H p o) := fun a u e => by
  by_cases h : a = p
  · subst h; rw [upd_same] at e ⊢; exact e
  · rw [upd_ne h] at e ⊢; exact s a u e
theorem Sub.mut {F H : Hp} {p : Addr} {o : HO} (s : Sub F H) (h : F p = none) : Sub F (L2.upd H p o) := fun a u e => by
  rw [upd_ne (ne_of_none e h)]; exact s a u e
theorem Sub.none {F H : Hp} {p : Addr} (s : Sub F H) (h : H p = none) : F p = none := by
  cases e : F p with
  | none => rfl
  | some o => rw [s p o e] at h; cases h

mutual
theorem RD.mono {F N : Hp} (s : Sub F N) : ∀ {d : PyData} {v : V}, RD F v d → RD N v d
  | _, _, .non => .non
  | _, _, .bl b => .bl b
  | _, _, .int i => .int i
  | _, _, .str x => .str x
  | _, _, .lst h r => .lst (s _ _ h) (RDs.mono s r)
  | _, _, .tup h r => .tup (s _ _ h) (RDs.mono s r)
  | _, _, .dic h r => .dic (s _ _ h) (RKs.mono s r)
theorem RDs.mono {F N : Hp} (s : Sub F N) : ∀ {ds : List PyData} {us : List V}, RDs F us ds → RDs N us ds
  | _, _, .nil => .nil
  | _, _, .cons h r => .cons (RD.mono s h) (RDs.mono s r)
theorem RKs.mono {F N : Hp} (s : Sub F N) : ∀ {ds : List (PyData × PyData)} {us : List (Key × V)}, RKs F us ds → RKs N us ds
  | _, _, .nil => .nil
  | _, _, .int h r => .int (RD.mono s h) (RKs.mono s r)
  | _, _, .str h r => .str (RD.mono s h) (RKs.mono s r)
end
mutual
theorem RD.dpL {F H : Hp} {K : PySem.W.Frag} (s : Sub F H) : ∀ {d : PyData} {v : V}, d.canLay0 = true → RD F v d → Dp K H v d
  | _, _, _, .non => .non
  | _, _, _, .bl b => .bl b
  | _, _, _, .int i => .int i
  | _, _, _, .str x => .str x
  | _, _, l, .lst h r => .lst (.inl (.inl (s _ _ h))) (RDs.dpL s (by simpa [PyData.canLay0] using l) r)
  | _, _, l, .tup h r => .tup (.inl (.inl (s _ _ h))) (RDs.dpL s (by simpa [PyData.canLay0] using l) r)
  | _, _, l, .dic h r => by simp [PyData.canLay0] at l
theorem RDs.dpL {F H : Hp} {K : PySem.W.Frag} (s : Sub F H) : ∀ {ds : List PyData} {us : List V}, PyData.canLayAll0 ds = true → RDs F us ds → DpAll K H us ds
  | _, _, _, .nil => .nil
  | _, _, l, .cons h r => by
    simp only [PyData.canLayAll0, Bool.and_eq_true] at l
    exact .cons (RD.dpL s l.1 h) (RDs.dpL s l.2 r)
end
theorem RDs.len {F : Hp} : ∀ {us : List V} {ds : List PyData}, RDs F us ds → us.length = ds.length
  | _, _, .nil => rfl
  | _, _, .cons _ r => by simp [RDs.len r]
theorem RDs.append {F : Hp} : ∀ {us ws : List V} {ds es : List PyData}, RDs F us ds → RDs F ws es → RDs F (us ++ ws) (ds ++ es)
  | _, _, _, _, .nil, s => s
  | _, _, _, _, .cons h r, s => .cons h (RDs.append r s)
theorem RDs.get {F : Hp} : ∀ {us : List V} {ds : List PyData} {i : Nat} {d : PyData}, RDs F us ds → ds[i]? = some d → ∃ u, us[i]? = some u ∧ RD F u d
  | _, _, _, _, .nil, e => by simp at e
  | _, _, 0, _, .cons h _, e => by simp at e; subst e; exact ⟨_, rfl, h⟩
  | _, _, i + 1, _, .cons _ r, e => by
    obtain ⟨u, h1, h2⟩ := RDs.get (i := i) r (by simpa using e)
    exact ⟨u, by simpa using h1, h2⟩
theorem RDs.get' {F : Hp} {us : List V} {ds : List PyData} {i : Nat} {u : V} (r : RDs F us ds) (e : us[i]? = some u) : ∃ d, ds[i]? = some d ∧ RD F u d := by
  have hl := r.len
  have h1 : i < us.length := (List.getElem?_eq_some_iff.mp e).1
  obtain ⟨u', e', h⟩ := r.get (i := i) (d := ds[i]'(by omega)) (List.getElem?_eq_getElem (by omega))
  rw [e] at e'; cases e'
  exact ⟨_, List.getElem?_eq_getElem (by omega), h⟩
theorem RDs.take {F : Hp} : ∀ {us : List V} {ds : List PyData} (n : Nat), RDs F us ds → RDs F (us.take n) (ds.take n)
  | _, _, 0, _ => by simp; exact .nil
  | _, _, _ + 1, .nil => .nil
  | _, _, n + 1, .cons h r => .cons h (RDs.take n r)
theorem RDs.drop {F : Hp} : ∀ {us : List V} {ds : List PyData} (n : Nat), RDs F us ds → RDs F (us.drop n) (ds.drop n)
  | _, _, 0, r => r
  | _, _, _ + 1, .nil => .nil
  | _, _, n + 1, .cons _ r => RDs.drop n r
theorem RDs.reverse {F : Hp} {us : List V} {ds : List PyData} (r : RDs F us ds) : RDs F us.reverse ds.reverse := by
  induction us generalizing ds with
  | nil => cases r; exact .nil
  | cons u us ih =>
    cases r with
    | cons h r => rw [List.reverse_cons, List.reverse_cons]; exact (ih r).append (.cons h .nil)
theorem RDs.set {F : Hp} : ∀ {us : List V} {ds : List PyData} {u : V} {d : PyData} (n : Nat), RDs F us ds → RD F u d → RDs F (us.set n u) (ds.set n d)
  | _, _, _, _, _, .nil, _ => .nil
  | _, _, _, _, 0, .cons _ r, h => .cons h r
  | _, _, _, _, n + 1, .cons h' r, h => .cons h' (RDs.set n r h)
theorem RDs.eraseIdx {F : Hp} : ∀ {us : List V} {ds : List PyData} (n : Nat), RDs F us ds → RDs F (us.eraseIdx n) (ds.eraseIdx n)
  | _, _, _, .nil => by simp; exact .nil
  | _, _, 0, .cons _ r => r
  | _, _, n + 1, .cons h r => .cons h (RDs.eraseIdx n r)

/-! #### typed data -/
class TD (α : Type) where
  d : α → PyData
/-- .. of a bounded depth, without dicts -/
class TB (α : Type) [TD α] where
  dep : Nat
  lay : ∀ x : α, (TD.d x).canLay0 = true
  dle : ∀ x : α, (TD.d x).depth ≤ dep
instance : TD Int := ⟨.int⟩
instance : TD Bool := ⟨.bool⟩
instance : TD Unit := ⟨fun _ => .none⟩
instance : TD Str := ⟨.str⟩
instance : TD PyData := ⟨fun x => x⟩
instance {α : Type} [TD α] : TD (List α) := ⟨fun xs => .list (xs.map TD.d)⟩
instance {α β : Type} [TD α] [TD β] : TD (α × β) := ⟨fun p => .tuple [TD.d p.1, TD.d p.2]⟩
instance {α : Type} [TD α] : TD (Option α) := ⟨fun o => match o with | some x => TD.d x | none => .none⟩
instance : TB Int := ⟨0, fun _ => by show PyData.canLay0 (.int _) = true; rfl, fun _ => by show PyData.depth (.int _) ≤ 0; exact Nat.zero_le _⟩
instance : TB Bool := ⟨0, fun _ => by show PyData.canLay0 (.bool _) = true; rfl, fun _ => by show PyData.depth (.bool _) ≤ 0; exact Nat.zero_le _⟩
instance : TB Unit := ⟨0, fun _ => by show PyData.canLay0 (.none) = true; rfl, fun _ => by show PyData.depth (.none) ≤ 0; exact Nat.zero_le _⟩
theorem layAll {α : Type} [TD α] [TB α] : ∀ xs : List α, PyData.canLayAll0 (xs.map TD.d) = true
  | [] => by simp [PyData.canLayAll0]
  | x :: xs => by simp [PyData.canLayAll0, TB.lay x, layAll xs]
theorem depAll {α : Type} [TD α] [TB α] : ∀ xs : List α, PyData.depthAll (xs.map TD.d) ≤ TB.dep α
  | [] => by simp [PyData.depthAll]
  | x :: xs => by
    have h1 := depAll xs
    have h2 := TB.dle x
    simp only [List.map_cons, PyData.depthAll]
    omega
instance {α : Type} [TD α] [TB α] : TB (List α) := ⟨TB.dep α + 1, fun xs => by show PyData.canLay0 (.list _) = true; simp only [PyData.canLay0]; exact layAll xs, fun xs => by
  have := depAll xs
  show PyData.depth (.list _) ≤ _
  simp only [PyData.depth]; omega⟩
instance {α β : Type} [TD α] [TB α] [TD β] [TB β] : TB (α × β) := ⟨TB.dep α + TB.dep β + 1, fun p => by show PyData.canLay0 (.tuple [_, _]) = true; simp [PyData.canLay0, PyData.canLayAll0, TB.lay], fun p => by
  have h1 := TB.dle p.1
  have h2 := TB.dle p.2
  show PyData.depth (.tuple [_, _]) ≤ _
  simp only [PyData.depth, PyData.depthAll]; omega⟩
instance {α : Type} [TD α] [TB α] : TB (Option α) := ⟨TB.dep α, fun o => by cases o; exact rfl; exact TB.lay (α := α) _, fun o => by cases o; exact Nat.zero_le _; exact TB.dle (α := α) _⟩
abbrev R {α : Type} [TD α] (F : Hp) (v : V) (x : α) : Prop := RD F v (TD.d x)
abbrev Rs {α : Type} [TD α] (F : Hp) (us : List V) (xs : List α) : Prop := RDs F us (xs.map TD.d)


theorem TD.shaped {α : Type} [TD α] [TB α] (h : TB.dep α ≤ 60) (x : α) : SeqAt.shaped (TD.d x) = true := by
  have h1 := TB.dle x
  show ((TD.d x).canLay0 && decide ((TD.d x).depth ≤ 64)) = true
  rw [Bool.and_eq_true]
  exact ⟨TB.lay x, decide_eq_true (by omega)⟩
class TE' (α : Type) [TD α] where
  eqv : ∀ x y : α, PyData.eqv (TD.d x) (TD.d y) = true ↔ x = y
def eqT {α : Type} [TD α] (x y : α) : Bool := PyData.eqv (TD.d x) (TD.d y)
def memT {α : Type} [TD α] (x : α) (xs : List α) : Bool := xs.any fun y => eqT y x
theorem eqT_iff {α : Type} [TD α] [TE' α] {x y : α} : eqT x y = true ↔ x = y := TE'.eqv x y
theorem eqT_no {α : Type} [TD α] [TE' α] {x y : α} : eqT x y = false ↔ x ≠ y := by rw [← Bool.not_eq_true, eqT_iff]
theorem memT_iff {α : Type} [TD α] [TE' α] {x : α} {xs : List α} : memT x xs = true ↔ x ∈ xs := by
  unfold memT
  rw [List.any_eq_true]
  exact ⟨fun ⟨y, h1, h2⟩ => by rw [← eqT_iff.mp h2]; exact h1, fun h => ⟨x, h, eqT_iff.mpr rfl⟩⟩
theorem memT_no {α : Type} [TD α] [TE' α] {x : α} {xs : List α} : memT x xs = false ↔ x ∉ xs := by rw [← Bool.not_eq_true, memT_iff]
theorem eqvT {α : Type} [TD α] (x y : α) : PyData.eqv (TD.d x) (TD.d y) = eqT x y := rfl
instance : TE' Int := ⟨fun x y => by show (x == y) = true ↔ _; simp⟩
instance : TE' Bool := ⟨fun x y => by show (x == y) = true ↔ _; simp⟩
instance : TE' Str := ⟨fun x y => by show (x == y) = true ↔ _; simp⟩
instance : TE' Unit := ⟨fun x y => by simp [TD.d, PyData.eqv]⟩
theorem eqvAll_map {α : Type} [TD α] [TE' α] : ∀ xs ys : List α, PyData.eqvAll (xs.map TD.d) (ys.map TD.d) = true ↔ xs = ys
  | [], [] => by simp [PyData.eqvAll]
  | [], y :: ys => by simp [PyData.eqvAll]
  | x :: xs, [] => by simp [PyData.eqvAll]
  | x :: xs, y :: ys => by
    simp only [List.map_cons, PyData.eqvAll, Bool.and_eq_true, eqvAll_map xs ys, TE'.eqv, List.cons.injEq]
instance {α : Type} [TD α] [TE' α] : TE' (List α) := ⟨fun xs ys => by
  show PyData.eqv (.list _) (.list _) = true ↔ _
  simp only [PyData.eqv]; exact eqvAll_map xs ys⟩
instance {α β : Type} [TD α] [TE' α] [TD β] [TE' β] : TE' (α × β) := ⟨fun p q => by
  show PyData.eqv (.tuple [_, _]) (.tuple [_, _]) = true ↔ _
  obtain ⟨a, b⟩ := p; obtain ⟨c, e⟩ := q
  simp [PyData.eqv, PyData.eqvAll, TE'.eqv]⟩
/-- data that is never None -/
class NN (α : Type) [TD α] where
  nn : ∀ x : α, (PyData.eqv (TD.d x) .none = false ∧ PyData.eqv .none (TD.d x) = false) ∧ TD.d x ≠ .none
instance : NN Int := ⟨fun _ => ⟨⟨rfl, rfl⟩, fun h => nomatch h⟩⟩
instance : NN Str := ⟨fun _ => ⟨⟨rfl, rfl⟩, fun h => nomatch h⟩⟩
instance : NN Bool := ⟨fun _ => ⟨⟨rfl, rfl⟩, fun h => nomatch h⟩⟩
instance {α : Type} [TD α] : NN (List α) := ⟨fun _ => ⟨⟨rfl, rfl⟩, fun h => nomatch h⟩⟩
instance {α β : Type} [TD α] [TD β] : NN (α × β) := ⟨fun _ => ⟨⟨rfl, rfl⟩, fun h => nomatch h⟩⟩
instance {α : Type} [TD α] [TE' α] [NN α] : TE' (Option α) := ⟨fun p q => by
  cases p with
  | none => cases q with
    | none => show PyData.eqv .none .none = true ↔ _; simp [PyData.eqv]
    | some y => show PyData.eqv .none (TD.d y) = true ↔ _; rw [(NN.nn y).1.2]; simp
  | some x => cases q with
    | none => show PyData.eqv (TD.d x) .none = true ↔ _; rw [(NN.nn x).1.1]; simp
    | some y => show PyData.eqv (TD.d x) (TD.d y) = true ↔ _; rw [TE'.eqv]; simp⟩

/-! #### how heaps grow -/
abbrev NA : Addr → Prop := fun _ => False
structure Gr (A : Addr → Prop) (F H N H' : Hp) : Prop where
  keep : ∀ a o, ¬ A a → H a = some o → H' a = some o
  there : ∀ a, H a ≠ none → H' a ≠ none
  ex : Sub F N
  sub : Sub N H'
  own : ∀ a, H a ≠ none → F a = none → N a = none
section
variable {A : Addr → Prop} {F0 H0 F H N H' : Hp} {p : Addr} {o : HO} {us : List V}
theorem Gr.refl (s : Sub F H) : Gr A F H F H := ⟨fun _ _ _ h => h, fun _ h => h, Sub.refl F, s, fun _ _ h => h⟩
theorem Gr.trans (G : Gr A F0 H0 F H) (g : Gr A F H N H') : Gr A F0 H0 N H' :=
  ⟨fun a o na h => g.keep a o na (G.keep a o na h), fun a h => g.there a (G.there a h), G.ex.trans g.ex, g.sub, fun a h f => g.own a (G.there a h) (G.own a h f)⟩
theorem Gr.na (g : Gr NA F H N H') : Gr A F H N H' := ⟨fun a o _ h => g.keep a o id h, g.there, g.ex, g.sub, g.own⟩
theorem Gr.step (G : Gr A F0 H0 F H) (g : Gr NA F H N H') : Gr A F0 H0 N H' := G.trans g.na
theorem Gr.fresh (G : Gr A F0 H0 F H) (hp : H p = none) : H0 p = none := by
  cases e : H0 p with
  | none => rfl
  | some o => exact absurd hp (G.there p (by rw [e]; exact (fun z => nomatch z)))
theorem Gr.new (s : Sub F H) (hp : H p = none) : Gr NA F H (upd F p o) (upd H p o) :=
  ⟨fun a u _ h => Sub.new hp a u h, fun a h => by
    cases e : H a with
    | none => exact absurd e h
    | some u => rw [Sub.new hp a u e]; exact (fun z => nomatch z), Sub.new (s.none hp), s.upd, fun a h f => by
    have : a ≠ p := fun z => by subst z; exact h hp
    rw [upd_ne this]; exact f⟩
theorem Gr.newO (s : Sub F H) (hp : H p = none) : Gr NA F H F (upd H p o) :=
  ⟨fun a u _ h => Sub.new hp a u h, fun a h => by
    cases e : H a with
    | none => exact absurd e h
    | some u => rw [Sub.new hp a u e]; exact (fun z => nomatch z), Sub.refl F, s.trans (Sub.new hp), fun a h f => f⟩
theorem Gr.mut (G : Gr A F0 H0 F H) (h0 : H0 p = none) (f : F p = none) : Gr A F0 H0 F (upd H p o) :=
  ⟨fun a u na h => by rw [upd_ne (ne_of_none h h0)]; exact G.keep a u na h, fun a h => by
    by_cases e : a = p
    · subst e; rw [upd_same]; exact (fun z => nomatch z)
    · rw [upd_ne e]; exact G.there a h, G.ex, G.sub.mut f, G.own⟩
theorem Gr.frz (G : Gr A F0 H0 F H) (ho : H p = some o) (h0 : H0 p = none) (f : F p = none) : Gr A F0 H0 (upd F p o) H :=
  ⟨G.keep, G.there, G.ex.trans (Sub.new f), fun a u e => by
    by_cases z : a = p
    · subst z; rw [upd_same] at e; cases e; exact ho
    · rw [upd_ne z] at e; exact G.sub a u e, fun a h e => by
    have : a ≠ p := fun z => by subst z; exact h h0
    rw [upd_ne this]; exact G.own a h e⟩
/-- a flat answer: the frozen part may stay as it was -/
theorem Gr.flat {Fc : Hp} (g : Gr NA Fc H N H') (s : Sub F H) : Gr NA F H F H' := ⟨g.keep, g.there, Sub.refl F, fun a o e => g.keep a o id (s a o e), fun _ _ f => f⟩
/-- an owned list -/
theorem Gr.flatA {Fc : Hp} (g : Gr A Fc H N H') (s : Sub F H) (nf : ∀ a, A a → F a = none) : Gr A F H F H' := ⟨g.keep, g.there, Sub.refl F, fun a o e => g.keep a o (fun h => by rw [nf a h] at e; exact nomatch e) (s a o e), fun _ _ f => f⟩
structure Ow (H0 F H : Hp) (p : Addr) (us : List V) : Prop where
  at_ : H p = some (.lst us)
  nf : F p = none
  n0 : H0 p = none
theorem Ow.new (G : Gr A F0 H0 F H) (hp : H p = none) : Ow H0 F (upd H p (.lst us)) p us := ⟨upd_same, G.sub.none hp, G.fresh hp⟩
theorem Ow.step (w : Ow H0 F H p us) (g : Gr NA F H N H') : Ow H0 N H' p us := ⟨g.keep p _ id w.at_, g.own p (by rw [w.at_]; exact (fun z => nomatch z)) w.nf, w.n0⟩
theorem Ow.mut {ws : List V} (w : Ow H0 F H p us) : Ow H0 F (upd H p (.lst ws)) p ws := ⟨upd_same, w.nf, w.n0⟩
theorem Ow.other {q : Addr} {ws : List V} (w : Ow H0 F H p us) (h : q ≠ p) : Ow H0 F (upd H q (.lst ws)) p us := ⟨by rw [upd_ne h.symm]; exact w.at_, w.nf, w.n0⟩
theorem Ow.ne_new {q : Addr} (w : Ow H0 F H p us) (hq : H q = none) : p ≠ q := ne_of_none w.at_ hq
theorem Ow.mutG (w : Ow H0 F H p us) (G : Gr A F0 H0 F H) : Gr A F0 H0 F (upd H p o) := G.mut w.n0 w.nf
theorem Ow.frz (w : Ow H0 F H p us) (G : Gr A F0 H0 F H) : Gr A F0 H0 (upd F p (.lst us)) H := G.frz w.at_ w.n0 w.nf
theorem Ow.sub (w : Ow H0 F H p us) (s : Sub F H) : Sub (upd F p (.lst us)) H := fun a u e => by
    by_cases z : a = p
    · subst z; rw [upd_same] at e; cases e; exact w.at_
    · rw [upd_ne z] at e; exact s a u e
theorem Ow.ex (w : Ow H0 F H p us) : Sub F (upd F p (.lst us)) := Sub.new w.nf
end

/-! #### taking facts apart -/
section
variable {α β : Type} [TD α] [TD β] {F H : Hp} {v : V}
theorem int_of {x : Int} (h : R F v x) : v = .int x := by cases h; rfl
theorem bl_of {x : Bool} (h : R F v x) : v = .bl x := by cases h; rfl
theorem non_of {x : Unit} (h : R F v x) : v = .non := by cases h; rfl
theorem lst_of {xs : List α} (h : R F v xs) : ∃ a us, v = .ref a ∧ F a = some (.lst us) ∧ Rs F us xs := by
  cases h with | lst h r => exact ⟨_, _, rfl, h, r⟩
theorem lst_ref {a : Addr} {xs : List α} (h : R F (.ref a) xs) : ∃ us, F a = some (.lst us) ∧ Rs F us xs := by
  obtain ⟨b, us, e, fa, fr⟩ := lst_of h
  cases e
  exact ⟨us, fa, fr⟩
theorem tup2_of {p : α × β} (h : R F v p) : ∃ a v1 v2, v = .ref a ∧ F a = some (.tup [v1, v2]) ∧ R F v1 p.1 ∧ R F v2 p.2 := by
  cases h with | tup h r => cases r with | cons h1 r => cases r with | cons h2 r => cases r; exact ⟨_, _, _, rfl, h, h1, h2⟩
theorem mk_lst {a : Addr} {us : List V} {xs : List α} (h : F a = some (.lst us)) (r : Rs F us xs) : R F (.ref a) xs := .lst h r
theorem mk_tup2 {a : Addr} {v1 v2 : V} {p : α × β} (h : F a = some (.tup [v1, v2])) (h1 : R F v1 p.1) (h2 : R F v2 p.2) : R F (.ref a) p := .tup h (.cons h1 (.cons h2 .nil))
theorem Rs_len {us : List V} {xs : List α} (r : Rs F us xs) : us.length = xs.length := by rw [r.len, List.length_map]
theorem Rs_nil : Rs (α := α) F [] [] := .nil
theorem Rs_cons {u : V} {us : List V} {x : α} {xs : List α} (h : R F u x) (r : Rs F us xs) : Rs F (u :: us) (x :: xs) := .cons h r
theorem Rs_app {us ws : List V} {xs ys : List α} (r : Rs F us xs) (s : Rs F ws ys) : Rs F (us ++ ws) (xs ++ ys) := by
  unfold Rs; rw [List.map_append]; exact r.append s
theorem Rs_snoc {us : List V} {u : V} {xs : List α} {x : α} (r : Rs F us xs) (h : R F u x) : Rs F (us ++ [u]) (xs ++ [x]) := Rs_app r (.cons h .nil)
theorem Rs_rev {us : List V} {xs : List α} (r : Rs F us xs) : Rs F us.reverse xs.reverse := by
  unfold Rs; rw [List.map_reverse]; exact r.reverse
theorem Rs_mono {N : Hp} {us : List V} {xs : List α} (s : Sub F N) (r : Rs F us xs) : Rs N us xs := RDs.mono s r
theorem Rs_int {us : List V} {xs : List Int} (r : Rs F us xs) : us = xs.map V.int := by
  induction xs generalizing us with
  | nil => cases r; rfl
  | cons x xs ih => cases r with | cons h r => cases h; rw [List.map_cons, ih r]
theorem int_Rs : ∀ xs : List Int, Rs F (xs.map V.int) xs
  | [] => .nil
  | x :: xs => .cons (.int x) (int_Rs xs)
end
/-- xs[i], the item and its fact -/
def ixOk {α : Type} (xs : List α) (i : Int) (x : α) : Prop := atI xs i = some x
theorem Rs_at {α : Type} [TD α] {F : Hp} {us : List V} {xs : List α} (r : Rs F us xs) {i : Int} {x : α} (h : atI xs i = some x) : ∃ u, atI us i = some u ∧ R F u x := by
  unfold atI at h ⊢
  rw [Rs_len r]
  cases e : ixN xs.length i with
  | none => rw [e] at h; cases h
  | some k =>
    rw [e] at h
    have h' : xs[k]? = some x := h
    obtain ⟨u, h1, h2⟩ := RDs.get (i := k) (d := TD.d x) r (by rw [List.getElem?_map, h']; rfl)
    exact ⟨u, h1, h2⟩

/-! #### mirrors: loops -/
def forK {S α ρ : Type} (f : S → α → (S → Option ρ) → Option ρ) : List α → S → (S → Option ρ) → Option ρ
  | [], s, K => K s
  | x :: xs, s, K => f s x fun s' => forK f xs s' K
def whileK {S ρ : Type} (f : S → (S → Option ρ) → Option ρ) : Nat → S → Option ρ
  | 0, _ => none
  | m + 1, s => f s (whileK f m)
def fuel : Nat := 1000000
theorem forK_c {S α ρ : Type} {f : S → α → (S → Option ρ) → Option ρ} {x : α} {xs : List α} {s : S} {K : S → Option ρ} {r : ρ} (h : forK f (x :: xs) s K = some r) : f s x (fun s' => forK f xs s' K) = some r := h
theorem forK_n {S α ρ : Type} {f : S → α → (S → Option ρ) → Option ρ} {s : S} {K : S → Option ρ} {r : ρ} (h : forK f [] s K = some r) : K s = some r := h
theorem whileK_s {S ρ : Type} {f : S → (S → Option ρ) → Option ρ} {m : Nat} {s : S} {r : ρ} (h : whileK f (m + 1) s = some r) : f s (whileK f m) = some r := h
def irange (lo hi : Int) : List Int := (List.range (hi - lo).toNat).map fun i : Nat => lo + (i : Int)
section
variable {α ρ : Type} {c : Prop} [Decidable c] {a b : Option ρ} {r : ρ}
theorem itep (h : (if c then a else b) = some r) (hc : c) : a = some r := by rw [if_pos hc] at h; exact h
theorem iten (h : (if c then a else b) = some r) (hc : ¬ c) : b = some r := by rw [if_neg hc] at h; exact h
theorem guardp (h : (if c then a else none) = some r) : c ∧ a = some r := by
  by_cases hc : c
  · exact ⟨hc, itep h hc⟩
  · rw [if_neg hc] at h; cases h
theorem bindp {x : Option α} {f : α → Option ρ} (h : x.bind f = some r) : ∃ y, x = some y ∧ f y = some r := by
  cases x with
  | none => cases h
  | some y => exact ⟨y, rfl, h⟩
theorem ifD {c : Bool} {A B : Prop} (h1 : c = true → A) (h2 : c = false → B) : if c = true then A else B := by
  cases c with
  | true => rw [if_pos rfl]; exact h1 rfl
  | false => rw [if_neg Bool.false_ne_true]; exact h2 rfl
theorem dT {c : Prop} [Decidable c] (h : decide c = true) : c := of_decide_eq_true h
theorem dF {c : Prop} [Decidable c] (h : decide c = false) : ¬ c := of_decide_eq_false h
theorem ndT {c : Prop} [Decidable c] (h : (!decide c) = true) : ¬ c := of_decide_eq_false (by rw [Bool.not_eq_true'] at h; exact h)
theorem ndF {c : Prop} [Decidable c] (h : (!decide c) = false) : c := of_decide_eq_true (by rw [Bool.not_eq_false'] at h; exact h)
theorem bF {c : Bool} (h : c = false) : ¬ c = true := by rw [h]; exact Bool.false_ne_true
end

/-! #### loops read -/
section
variable {K : PySem.W.Frag} {g : TG} {tb : TS} {D : Ends} {σ : L2.St} {H : Hp} {α : Type} [TD α]
theorem while_m {c : TT} (W : Nat → L2.St → Hp → Prop) (m : Nat) (h0 : W m σ H) (hz : ∀ σ H, ¬ W 0 σ H)
    (hs : ∀ m σ H, W (m + 1) σ H → c σ H fun b H1 => if b = true then tb { D with nx := W m, ct := W m, bk := D.nx } σ H1 else D.nx σ H1) (mono : ∀ σ H Q Q', (∀ b H1, Q b H1 → Q' b H1) → c σ H Q → c σ H Q') : tWhile c tb D σ H := by
  refine ⟨W, ⟨m, h0⟩, fun m σ H h => ?_⟩
  cases m with
  | zero => exact absurd h (hz σ H)
  | succ m =>
    refine mono σ H _ _ (fun b H1 q => ?_) (hs m σ H h)
    cases b with
    | true => exact ⟨W m, fun σ' H' h => ⟨m, Nat.lt_succ_self m, h⟩, q⟩
    | false => exact q
theorem while_n {c : TT} (W : Nat → L2.St → Hp → Prop) (m : Nat) (h0 : W m σ H) (hz : ∀ σ H, ¬ W 0 σ H)
    (hs : ∀ m σ H, W (m + 1) σ H → c σ H fun b H1 => if b = true then ∃ N : L2.St → Hp → Prop, (∀ σ' H', N σ' H' → ∃ m', m' < m + 1 ∧ W m' σ' H') ∧ tb { D with nx := N, ct := N, bk := D.nx } σ H1 else D.nx σ H1) : tWhile c tb D σ H := by
  refine ⟨W, ⟨m, h0⟩, fun m σ H h => ?_⟩
  cases m with
  | zero => exact absurd h (hz σ H)
  | succ m => exact hs m σ H h
theorem drop_cons {α : Type} {xs : List α} {i : Nat} {x : α} (h : xs[i]? = some x) : xs.drop i = x :: xs.drop (i + 1) := by
  obtain ⟨h1, h2⟩ := List.getElem?_eq_some_iff.mp h
  rw [← h2]; exact List.drop_eq_getElem_cons h1
theorem for_lst {a : Addr} {us : List V} {xs : List α} {F : Hp} (W : List α → L2.St → Hp → Prop) (fr : Rs F us xs) (h0 : W xs σ H) (hf : ∀ ts σ H, W ts σ H → H a = some (.lst us))
    (hs : ∀ x ts v σ H, R F v x → W (x :: ts) σ H → g v σ H fun σ2 H2 => tb { D with nx := W ts, ct := W ts, bk := D.nx } σ2 H2) (hd : ∀ σ H, W [] σ H → D.nx σ H) :
    ∃ W : Nat → Nat → L2.St → Hp → Prop, (∃ m, W 0 m σ H) ∧ ∀ i m σ H, W i m σ H →
      ((Itl K a).stop i H ∧ D.nx σ H) ∨ ((Itl K a).go i H ∧ ∃ N : L2.St → Hp → Prop, (∀ σ' H', N σ' H' → ∃ m', m' < m ∧ W (i + 1) m' σ' H') ∧ ∀ x H', (Itl K a).yld i H x H' → g x σ H' fun σ2 H2 => tb { D with nx := N, ct := N, bk := D.nx } σ2 H2) := by
  have hl := Rs_len fr
  refine for_list (xs := us) (fun i σ H => W (xs.drop i) σ H) (by rw [List.drop_zero]; exact h0) (fun i σ H _ h => .inl (.inl (hf _ σ H h))) (fun i v σ H e h => ?_) fun σ H h => ?_
  · obtain ⟨d, e1, e2⟩ := fr.get' e
    have h1 : i < xs.length := by have := (List.getElem?_eq_some_iff.mp e).1; omega
    have e3 : xs[i]? = some xs[i] := List.getElem?_eq_getElem h1
    rw [List.getElem?_map, e3] at e1
    cases e1
    have h' : W (xs.drop i) σ H := h
    rw [drop_cons e3] at h'
    exact hs _ _ v σ H e2 h'
  · have h' : W (xs.drop us.length) σ H := h
    rw [hl, List.drop_length] at h'
    exact hd σ H h'
theorem irange_len (lo hi : Int) : (irange lo hi).length = (hi - lo).toNat := by unfold irange; simp
theorem irange_get {lo hi : Int} {i : Nat} (h : i < (hi - lo).toNat) : (irange lo hi)[i]? = some (lo + i) := by unfold irange; simp [h]
def irangeC (lo hi c : Int) : List Int := (List.range (Builtin.Range.rangeSize lo hi c).toNat).map fun i : Nat => lo + (i : Int) * c
theorem irangeC_len (lo hi c : Int) : (irangeC lo hi c).length = (Builtin.Range.rangeSize lo hi c).toNat := by unfold irangeC; simp
theorem irangeC_get {lo hi c : Int} {i : Nat} (h : i < (Builtin.Range.rangeSize lo hi c).toNat) : (irangeC lo hi c)[i]? = some (lo + (i : Int) * c) := by unfold irangeC; simp [h]
def RgD (i j c : Int) : Prop := c ≠ 0 ∧ c.natAbs < 1073741824 ∧ Builtin.Range.small i j c = true ∧ 0 ≤ Builtin.Range.rangeSize i j c
instance (i j c : Int) : Decidable (RgD i j c) := inferInstanceAs (Decidable (_ ∧ _))
theorem RgD.ok {i j c : Int} (h : RgD i j c) : RgC i j c (Builtin.Range.rangeSize i j c).toNat := ⟨h.1, h.2.1, h.2.2.1, (Int.toNat_of_nonneg h.2.2.2).symm⟩
theorem for_rngC {lo hi c : Int} (W : List Int → L2.St → Hp → Prop) (h0 : W (irangeC lo hi c) σ H)
    (hs : ∀ x ts σ H, W (x :: ts) σ H → g (.int x) σ H fun σ2 H2 => tb { D with nx := W ts, ct := W ts, bk := D.nx } σ2 H2) (hd : ∀ σ H, W [] σ H → D.nx σ H) :
    ∃ W : Nat → Nat → L2.St → Hp → Prop, (∃ m, W 0 m σ H) ∧ ∀ i m σ H, W i m σ H →
      ((Itc lo c (Builtin.Range.rangeSize lo hi c).toNat).stop i H ∧ D.nx σ H) ∨ ((Itc lo c (Builtin.Range.rangeSize lo hi c).toNat).go i H ∧ ∃ N : L2.St → Hp → Prop, (∀ σ' H', N σ' H' → ∃ m', m' < m ∧ W (i + 1) m' σ' H') ∧ ∀ x H', (Itc lo c (Builtin.Range.rangeSize lo hi c).toNat).yld i H x H' → g x σ H' fun σ2 H2 => tb { D with nx := N, ct := N, bk := D.nx } σ2 H2) := by
  refine for_rangeC (fun i σ H => W ((irangeC lo hi c).drop i) σ H) (by rw [List.drop_zero]; exact h0) (fun i σ H hi' h => ?_) fun σ H h => ?_
  · have h' : W ((irangeC lo hi c).drop i) σ H := h
    rw [drop_cons (irangeC_get hi')] at h'
    exact hs _ _ σ H h'
  · have h' : W ((irangeC lo hi c).drop (Builtin.Range.rangeSize lo hi c).toNat) σ H := h
    rw [← irangeC_len, List.drop_length] at h'
    exact hd σ H h'
theorem for_rng {lo hi : Int} {n : Nat} (hn : n = (hi - lo).toNat) (W : List Int → L2.St → Hp → Prop) (h0 : W (irange lo hi) σ H)
    (hs : ∀ x ts σ H, W (x :: ts) σ H → g (.int x) σ H fun σ2 H2 => tb { D with nx := W ts, ct := W ts, bk := D.nx } σ2 H2) (hd : ∀ σ H, W [] σ H → D.nx σ H) :
    ∃ W : Nat → Nat → L2.St → Hp → Prop, (∃ m, W 0 m σ H) ∧ ∀ i m σ H, W i m σ H →
      ((Itr lo n).stop i H ∧ D.nx σ H) ∨ ((Itr lo n).go i H ∧ ∃ N : L2.St → Hp → Prop, (∀ σ' H', N σ' H' → ∃ m', m' < m ∧ W (i + 1) m' σ' H') ∧ ∀ x H', (Itr lo n).yld i H x H' → g x σ H' fun σ2 H2 => tb { D with nx := N, ct := N, bk := D.nx } σ2 H2) := by
  subst hn
  refine for_range (fun i σ H => W ((irange lo hi).drop i) σ H) (by rw [List.drop_zero]; exact h0) (fun i σ H hi' h => ?_) fun σ H h => ?_
  · have h' : W ((irange lo hi).drop i) σ H := h
    rw [drop_cons (irange_get hi')] at h'
    exact hs _ _ σ H h'
  · have h' : W ((irange lo hi).drop (hi - lo).toNat) σ H := h
    rw [← irange_len, List.drop_length] at h'
    exact hd σ H h'
variable {tt : TT} {te : TE} {vs : List Nat} {H1 : Hp} {Dl : Addr} {Qd : Hp → Prop}
theorem lc_lst {a : Addr} {us : List V} {xs : List α} {F : Hp} (W : List α → Hp → Prop) (fr : Rs F us xs) (h0 : W xs (upd H1 Dl (.lst []))) (hf : ∀ ts H, W ts H → H a = some (.lst us))
    (hs : ∀ x ts v H, R F v x → W (x :: ts) H → g v (wipe σ vs) H fun σ2 H2 => wipe σ2 vs = wipe σ vs ∧ tt σ2 H2 fun b H3 =>
        if b = true then te σ2 H3 fun y H4 => ∃ acc, H4 Dl = some (HO.lst acc) ∧ acc.length < sizeLine ∧ W ts (upd H4 Dl (HO.lst (acc ++ [y]))) else W ts H3) (hd : ∀ H, W [] H → Qd H) :
    ∃ W : Nat → Nat → Hp → Prop, (∃ m, W 0 m (upd H1 Dl (HO.lst []))) ∧ ∀ (i m : Nat) (H : Hp), W i m H → (Itl K a).stop i H ∧ Qd H ∨
      (Itl K a).go i H ∧ ∃ Nx : Hp → Prop, (∀ (H' : Hp), Nx H' → ∃ m', m' < m ∧ W (i + 1) m' H') ∧ ∀ (x : V) (H' : Hp), (Itl K a).yld i H x H' →
        g x (wipe σ vs) H' fun σ2 H2 => wipe σ2 vs = wipe σ vs ∧ tt σ2 H2 fun b H3 => if b = true then te σ2 H3 fun y H4 => ∃ acc, H4 Dl = some (HO.lst acc) ∧ acc.length < sizeLine ∧ Nx (upd H4 Dl (HO.lst (acc ++ [y]))) else Nx H3 := by
  have hl := Rs_len fr
  refine lc_list (xs := us) (fun i H => W (xs.drop i) H) (by rw [List.drop_zero]; exact h0) (fun i H _ h => .inl (.inl (hf _ H h))) (fun i v H e h => ?_) fun H h => ?_
  · obtain ⟨d, e1, e2⟩ := fr.get' e
    have h1 : i < xs.length := by have := (List.getElem?_eq_some_iff.mp e).1; omega
    have e3 : xs[i]? = some xs[i] := List.getElem?_eq_getElem h1
    rw [List.getElem?_map, e3] at e1
    cases e1
    have h' : W (xs.drop i) H := h
    rw [drop_cons e3] at h'
    exact hs _ _ v H e2 h'
  · have h' : W (xs.drop us.length) H := h
    rw [hl, List.drop_length] at h'
    exact hd H h'
/-- with which value it is -/
theorem lc_lstM {a : Addr} {us : List V} {xs : List α} {F : Hp} (W : List α → Hp → Prop) (fr : Rs F us xs) (h0 : W xs (upd H1 Dl (.lst []))) (hf : ∀ ts H, W ts H → H a = some (.lst us))
    (hs : ∀ x ts v H, R F v x → v ∈ us → W (x :: ts) H → g v (wipe σ vs) H fun σ2 H2 => wipe σ2 vs = wipe σ vs ∧ tt σ2 H2 fun b H3 =>
        if b = true then te σ2 H3 fun y H4 => ∃ acc, H4 Dl = some (HO.lst acc) ∧ acc.length < sizeLine ∧ W ts (upd H4 Dl (HO.lst (acc ++ [y]))) else W ts H3) (hd : ∀ H, W [] H → Qd H) :
    ∃ W : Nat → Nat → Hp → Prop, (∃ m, W 0 m (upd H1 Dl (HO.lst []))) ∧ ∀ (i m : Nat) (H : Hp), W i m H → (Itl K a).stop i H ∧ Qd H ∨
      (Itl K a).go i H ∧ ∃ Nx : Hp → Prop, (∀ (H' : Hp), Nx H' → ∃ m', m' < m ∧ W (i + 1) m' H') ∧ ∀ (x : V) (H' : Hp), (Itl K a).yld i H x H' →
        g x (wipe σ vs) H' fun σ2 H2 => wipe σ2 vs = wipe σ vs ∧ tt σ2 H2 fun b H3 => if b = true then te σ2 H3 fun y H4 => ∃ acc, H4 Dl = some (HO.lst acc) ∧ acc.length < sizeLine ∧ Nx (upd H4 Dl (HO.lst (acc ++ [y]))) else Nx H3 := by
  have hl := Rs_len fr
  refine lc_list (xs := us) (fun i H => W (xs.drop i) H) (by rw [List.drop_zero]; exact h0) (fun i H _ h => .inl (.inl (hf _ H h))) (fun i v H e h => ?_) fun H h => ?_
  · obtain ⟨d, e1, e2⟩ := fr.get' e
    have h1 : i < xs.length := by have := (List.getElem?_eq_some_iff.mp e).1; omega
    have e3 : xs[i]? = some xs[i] := List.getElem?_eq_getElem h1
    rw [List.getElem?_map, e3] at e1
    cases e1
    have h' : W (xs.drop i) H := h
    rw [drop_cons e3] at h'
    exact hs _ _ v H e2 (List.mem_of_getElem? e) h'
  · have h' : W (xs.drop us.length) H := h
    rw [hl, List.drop_length] at h'
    exact hd H h'
theorem lc_rng {lo hi : Int} {n : Nat} (hn : n = (hi - lo).toNat) (W : List Int → Hp → Prop) (h0 : W (irange lo hi) (upd H1 Dl (.lst [])))
    (hs : ∀ x ts H, W (x :: ts) H → g (.int x) (wipe σ vs) H fun σ2 H2 => wipe σ2 vs = wipe σ vs ∧ tt σ2 H2 fun b H3 =>
        if b = true then te σ2 H3 fun y H4 => ∃ acc, H4 Dl = some (HO.lst acc) ∧ acc.length < sizeLine ∧ W ts (upd H4 Dl (HO.lst (acc ++ [y]))) else W ts H3) (hd : ∀ H, W [] H → Qd H) :
    ∃ W : Nat → Nat → Hp → Prop, (∃ m, W 0 m (upd H1 Dl (HO.lst []))) ∧ ∀ (i m : Nat) (H : Hp), W i m H → (Itr lo n).stop i H ∧ Qd H ∨
      (Itr lo n).go i H ∧ ∃ Nx : Hp → Prop, (∀ (H' : Hp), Nx H' → ∃ m', m' < m ∧ W (i + 1) m' H') ∧ ∀ (x : V) (H' : Hp), (Itr lo n).yld i H x H' →
        g x (wipe σ vs) H' fun σ2 H2 => wipe σ2 vs = wipe σ vs ∧ tt σ2 H2 fun b H3 => if b = true then te σ2 H3 fun y H4 => ∃ acc, H4 Dl = some (HO.lst acc) ∧ acc.length < sizeLine ∧ Nx (upd H4 Dl (HO.lst (acc ++ [y]))) else Nx H3 := by
  subst hn
  refine lc_range (fun i H => W ((irange lo hi).drop i) H) (by rw [List.drop_zero]; exact h0) (fun i H hi' h => ?_) fun H h => ?_
  · have h' : W ((irange lo hi).drop i) H := h
    rw [drop_cons (irange_get hi')] at h'
    exact hs _ _ H h'
  · have h' : W ((irange lo hi).drop (hi - lo).toNat) H := h
    rw [← irange_len, List.drop_length] at h'
    exact hd H h'
end

/-! #### operators of my own -/
section
variable {X : Cx}
def rEqT (α : Type) [TD α] [TE' α] : R2 := fun x y H Q => ∃ (F : Hp) (a b : α), Sub F H ∧ R F x a ∧ R F y b ∧ Q (.bl (eqT a b)) H
def rNeT (α : Type) [TD α] [TE' α] : R2 := fun x y H Q => ∃ (F : Hp) (a b : α), Sub F H ∧ R F x a ∧ R F y b ∧ Q (.bl (!eqT a b)) H
theorem op_eqT {α : Type} [TD α] [TB α] [TE' α] (hd : TB.dep α ≤ 60) (hu : X.A.units + 64 < cLine) : OpR X (compareOp .Eq) (rEqT α) := by
  intro pins s σ H x y v u Q I rx ry h
  obtain ⟨F, a, b, sb, ha, hb, q⟩ := h
  exact op_eqD hu pins s σ H x y v u Q I rx ry ⟨_, _, ha.dpL sb (TB.lay a), hb.dpL sb (TB.lay b), TD.shaped hd a, TD.shaped hd b, by rw [eqvT]; exact q⟩
theorem op_neT {α : Type} [TD α] [TB α] [TE' α] (hd : TB.dep α ≤ 60) (hu : X.A.units + 64 < cLine) : OpR X (compareOp .NotEq) (rNeT α) := by
  intro pins s σ H x y v u Q I rx ry h
  obtain ⟨F, a, b, sb, ha, hb, q⟩ := h
  exact op_neD hu pins s σ H x y v u Q I rx ry ⟨_, _, ha.dpL sb (TB.lay a), hb.dpL sb (TB.lay b), TD.shaped hd a, TD.shaped hd b, by rw [eqvT]; exact q⟩
theorem any_eq {α : Type} [TD α] (x : α) (xs : List α) : ((xs.map TD.d).any fun z => PyData.eqv z (TD.d x)) = memT x xs := by
  unfold memT
  rw [List.any_map]
  rfl
def rInT (α : Type) [TD α] [TE' α] : R2 := fun x y H Q => ∃ (F : Hp) (a : α) (b : List α), Sub F H ∧ R F x a ∧ R F y b ∧ Q (.bl (memT a b)) H
def rNiT (α : Type) [TD α] [TE' α] : R2 := fun x y H Q => ∃ (F : Hp) (a : α) (b : List α), Sub F H ∧ R F x a ∧ R F y b ∧ Q (.bl (!memT a b)) H
theorem op_inT {α : Type} [TD α] [TB α] [TE' α] (hd : TB.dep α ≤ 50) (hu : X.A.units + 65 < cLine) : OpR X (compareOp .In) (rInT α) := by
  intro pins s σ H x y v u Q I rx ry h
  obtain ⟨F, a, b, sb, ha, hb, q⟩ := h
  exact op_inD hu pins s σ H x y v u Q I rx ry ⟨_, _, ha.dpL sb (TB.lay a), hb.dpL sb (TB.lay b), TD.shaped (by omega) a, TD.shaped (α := List α) (by show TB.dep α + 1 ≤ 60; omega) b, by rw [any_eq]; exact q⟩
theorem op_niT {α : Type} [TD α] [TB α] [TE' α] (hd : TB.dep α ≤ 50) (hu : X.A.units + 65 < cLine) : OpR X (compareOp .NotIn) (rNiT α) := by
  intro pins s σ H x y v u Q I rx ry h
  obtain ⟨F, a, b, sb, ha, hb, q⟩ := h
  exact op_notInD hu pins s σ H x y v u Q I rx ry ⟨_, _, ha.dpL sb (TB.lay a), hb.dpL sb (TB.lay b), TD.shaped (by omega) a, TD.shaped (α := List α) (by show TB.dep α + 1 ≤ 60; omega) b, by rw [any_eq]; exact q⟩
end
theorem hu64 {A : Around} {k : Nat} (hr : Room k A) : A.units + 64 < cLine := by have := hr.un; omega
theorem hu65 {A : Around} {k : Nat} (hr : Room k A) : A.units + 65 < cLine := by have := hr.un; omega
theorem szl {n : Nat} (h : n < 16777216) : n < sizeLine := by rw [sizeLine_eq]; exact h
theorem szle {n : Nat} (h : n ≤ 16777216) : n ≤ sizeLine := by rw [sizeLine_eq]; exact h

/-- a divisor, two factors that the model carries -/
def Dv (j : Int) : Prop := 0 < j ∧ j.natAbs.log2 < 9000
instance (j : Int) : Decidable (Dv j) := inferInstanceAs (Decidable (_ ∧ _))
theorem Dv.w {i j : Int} (h : Dv j) : CDivW i j := h
theorem Dv.p {j : Int} (h : Dv j) : 0 < j := h.1
theorem Dv.of {j : Int} (h : 0 < j) (h2 : j < 2 ^ 9000) : Dv j := by
  refine ⟨h, ?_⟩
  have e : j.natAbs < 2 ^ 9000 := by omega
  rw [Nat.log2_lt (by omega)]; exact e
def Mv (i j : Int) : Prop := i.natAbs.log2 + j.natAbs.log2 < 1000000
instance (i j : Int) : Decidable (Mv i j) := inferInstanceAs (Decidable (_ < _))
theorem Mv.w {i j : Int} (h : Mv i j) : CMulW i j := h


/-! #### readings opened one layer -/
section
variable {K : PySem.W.Frag} {σ : L2.St} {H : Hp} {D : Ends} {t u : TS} {te ta tb tc : TE} {tt tu : TT} {g : TG} {r r' : R2} {Q : VK} {QB : Bool → Hp → Prop} {QA : List V → Hp → Prop} {tA : TA}
theorem x_seq (h : t { D with nx := u D } σ H) : tSeq t u D σ H := h
theorem x_yes (h : QB true H) : tYes σ H QB := h
theorem x_nopart {QO : Option Int → Hp → Prop} (h : QO none H) : tNoPart σ H QO := h
theorem x_c {v : V} (h : Q v H) : tC v σ H Q := h
theorem x_gn {i : Nat} {v : V} {QS : L2.St → Hp → Prop} (h : QS (σ.set i (some v)) H) : gName i v σ H QS := h
theorem x_next (h : D.nx σ H) : tNext D σ H := h
theorem x_par {i j : Nat} (h : tA σ H fun vs H1 => ∃ v w, vs = [v, w] ∧ D.nx ((σ.set i (some v)).set j (some w)) H1) : tPar i j tA D σ H := h
theorem x_if (h : tt σ H fun b H1 => if b = true then t D σ H1 else u D σ H1) : tIfS tt t u D σ H := h
theorem x_asg (h : te σ H fun x H1 => g x σ H1 D.nx) : tAsg te g D σ H := h
theorem x_drop (h : te σ H fun _ H1 => D.nx σ H1) : tDrop te D σ H := h
theorem x_ret (h : te σ H D.rt) : tRet te D σ H := h
theorem x_op (h : ta σ H fun x H1 => tb σ H1 fun y H2 => r x y H2 Q) : tOp r ta tb σ H Q := h
theorem x_un {r : V → Hp → VK → Prop} (h : ta σ H fun x H1 => r x H1 Q) : tUn r ta σ H Q := h
theorem x_cmp {p : Int → Int → Bool} (h : ta σ H fun x H1 => tb σ H1 fun y H2 => ∃ i j, x = .int i ∧ y = .int j ∧ Q (.bl (p i j)) H2) : tCmp p ta tb σ H Q := h
theorem x_cons {tr : TA} (h : ta σ H fun x H1 => tr σ H1 fun xs H2 => QA (x :: xs) H2) : tCons ta tr σ H QA := h
theorem x_lst (h : tA σ H fun xs H1 => xs.length ≤ sizeLine ∧ ∀ p, H1 p = none → Q (.ref p) (upd H1 p (.lst xs))) : tLst tA σ H Q := h
theorem x_tup (h : tA σ H fun xs H1 => xs.length ≤ sizeLine ∧ ∀ p, H1 p = none → Q (.ref p) (upd H1 p (.tup xs))) : tTup tA σ H Q := h
theorem x_call {sp : Sp} {dvs : List V} {E : XK} (h : tA σ H fun vs H1 => sp (vs ++ dvs) H1 Q E) : tCall sp dvs E tA σ H Q := h
theorem x_cb {r : List V → Hp → VK → Prop} (h : tA σ H fun vs H1 => r vs H1 Q) : tCB r tA σ H Q := h
theorem x_B (h : te σ H fun x H1 => ∃ c, x = .bl c ∧ QB c H1) : tB te σ H QB := h
theorem x_test (h : te σ H fun x H1 => ∃ c, x = .bl c ∧ QB c H1) : tTest te σ H QB := h
theorem x_not (h : tt σ H fun c H1 => QB (!c) H1) : tNot tt σ H QB := h
theorem x_and (h : tt σ H fun c H1 => if c = true then tu σ H1 QB else QB false H1) : tAnd tt tu σ H QB := h
theorem x_or (h : tt σ H fun c H1 => if c = true then QB true H1 else tu σ H1 QB) : tOr tt tu σ H QB := h
theorem x_andV (h : ta σ H fun x H1 => ∃ c, x = .bl c ∧ if c = true then tb σ H1 Q else Q (.bl false) H1) : tAndV ta tb σ H Q := h
theorem x_orV (h : ta σ H fun x H1 => ∃ c, x = .bl c ∧ if c = true then Q (.bl true) H1 else tb σ H1 Q) : tOrV ta tb σ H Q := h
theorem x_notV (h : ta σ H fun x H1 => ∃ c, x = .bl c ∧ Q (.bl (!c)) H1) : tNotV ta σ H Q := h
theorem x_chain (h : ta σ H fun x H1 => tb σ H1 fun y H2 => r x y H2 fun z H3 => ∃ k, z = .bl k ∧ (if k = true then tc σ H3 fun w' H4 => r' y w' H4 Q else Q (.bl false) H3)) : tChain r r' ta tb tc σ H Q := h
theorem x_ife (h : tt σ H fun c H1 => if c = true then ta σ H1 Q else tb σ H1 Q) : tIf tt ta tb σ H Q := h
theorem x_sl {r : V → Option Int → Option Int → Hp → VK → Prop} {tl th : TO} (h : te σ H fun x H1 => tl σ H1 fun l H2 => th σ H2 fun u H3 => r x l u H3 Q) : tSl r te tl th σ H Q := h
theorem x_part {QO : Option Int → Hp → Prop} (h : te σ H fun x H1 => ∃ i, x = .int i ∧ QO (some i) H1) : tPart te σ H QO := h
theorem x_revL (h : te σ H fun x H1 => ∃ a xs, x = .ref a ∧ SqL K H1 a xs ∧ ∀ p, H1 p = none → Q (.ref p) (upd H1 p (.lst xs.reverse))) : tRevL K te σ H Q := h
theorem x_bm {T : String} {r : V → List V → Hp → VK → Prop} (h : te σ H fun x H1 => tyV K T x H1 ∧ tA σ H1 fun xs H2 => r x xs H2 Q) : tBM K T r te tA σ H Q := h
theorem x_bm0 {T : String} {r : V → List V → Hp → VK → Prop} (h : te σ H fun x H1 => tyV K T x H1 ∧ r x [] H1 Q) : tBM0 K T r te σ H Q := h
theorem x_isN (h : ta σ H fun x H1 => Q (.bl (decide (x = .non))) H1) : tIsN ta σ H Q := h
theorem x_notN (h : ta σ H fun x H1 => Q (.bl (!decide (x = .non))) H1) : tNotN ta σ H Q := h
theorem x_isN' (h : ta σ H fun x H1 => ∃ b, decide (x = .non) = b ∧ Q (.bl b) H1) : tIsN ta σ H Q := by
  have e : (fun (x : V) (H1 : Hp) => ∃ b, decide (x = .non) = b ∧ Q (.bl b) H1) = fun x H1 => Q (.bl (decide (x = .non))) H1 := funext fun x => funext fun H1 => propext ⟨fun ⟨b, e, q⟩ => by rw [e]; exact q, fun q => ⟨_, rfl, q⟩⟩
  rw [e] at h
  exact h
theorem x_notN' (h : ta σ H fun x H1 => ∃ b, (!decide (x = .non)) = b ∧ Q (.bl b) H1) : tNotN ta σ H Q := by
  have e : (fun (x : V) (H1 : Hp) => ∃ b, (!decide (x = .non)) = b ∧ Q (.bl b) H1) = fun x H1 => Q (.bl (!decide (x = .non))) H1 := funext fun x => funext fun H1 => propext ⟨fun ⟨b, e, q⟩ => by rw [e]; exact q, fun q => ⟨_, rfl, q⟩⟩
  rw [e] at h
  exact h
theorem x_rng1 {R : It → Hp → Prop} (h : tA σ H fun vs H1 => ∃ j : Int, vs = [.int j] ∧ -(2 ^ 62) ≤ j ∧ j < 2 ^ 62 ∧ R (Itr 0 j.toNat) H1) : iRng1 tA σ H R := h
theorem x_rng2 {R : It → Hp → Prop} (h : tA σ H fun vs H1 => ∃ i j : Int, vs = [.int i, .int j] ∧ (-(2 ^ 62) ≤ i ∧ i < 2 ^ 62 ∧ -(2 ^ 62) ≤ j ∧ j < 2 ^ 62) ∧ R (Itr i (j - i).toNat) H1) : iRng2 tA σ H R := h
theorem x_rng3 {R : It → Hp → Prop} (h : tA σ H fun vs H1 => ∃ (i j c : Int) (n : Nat), vs = [.int i, .int j, .int c] ∧ RgC i j c n ∧ R (Itc i c n) H1) : iRng3 tA σ H R := h
theorem x_iter {R : It → Hp → Prop} (h : te σ H fun x H1 => ∃ a, x = .ref a ∧ (∃ xs, SqL K H1 a xs) ∧ R (Itl K a) H1) : iList K te σ H R := h
theorem x_for {wi : TI} (h : wi σ H fun J H1 => ∃ W : Nat → Nat → L2.St → Hp → Prop, (∃ m, W 0 m σ H1) ∧ ∀ i m σ H, W i m σ H →
  (J.stop i H ∧ D.nx σ H) ∨ (J.go i H ∧ ∃ N : L2.St → Hp → Prop, (∀ σ' H', N σ' H' → ∃ m', m' < m ∧ W (i + 1) m' σ' H') ∧ ∀ x H', J.yld i H x H' → g x σ H' fun σ2 H2 => t { D with nx := N, ct := N, bk := D.nx } σ2 H2)) : tFor wi g t D σ H := h
theorem x_lc {wi : TI} {vs : List Nat} (h : wi σ H fun J H1 => ∀ Dl, H1 Dl = none → ∃ W : Nat → Nat → Hp → Prop, (∃ m, W 0 m (upd H1 Dl (.lst []))) ∧ ∀ i m H, W i m H → J.stop i H ∧ Q (.ref Dl) H ∨ J.go i H ∧ ∃ Nx : Hp → Prop, (∀ (H' : Hp), Nx H' → ∃ m', m' < m ∧ W (i + 1) m' H') ∧ ∀ (x : V) (H' : Hp), J.yld i H x H' →
        g x (wipe σ vs) H' fun σ2 H2 => wipe σ2 vs = wipe σ vs ∧ tt σ2 H2 fun b H3 => if b = true then te σ2 H3 fun y H4 => ∃ acc, H4 Dl = some (HO.lst acc) ∧ acc.length < sizeLine ∧ Nx (upd H4 Dl (HO.lst (acc ++ [y]))) else Nx H3) : tLc wi g tt te vs σ H Q := h
end

/-! #### order and sorted, of data of one type -/
class SO (α : Type) [TD α] where
  alike : ∀ x y : α, PySem.W.alike (TD.d x) (TD.d y) = true
  nn : ∀ x : α, TD.d x ≠ .none
  kind : (∀ x : α, ∃ y r, TD.d x = .tuple (y :: r)) ∨ ∀ (x : α) xs, TD.d x ≠ .tuple xs
instance : SO Int := ⟨fun _ _ => by simp [TD.d, PySem.W.alike], (fun _ h => nomatch h), .inr fun _ _ h => nomatch h⟩
theorem alikeAll_of {α : Type} [TD α] [SO α] : ∀ xs ys : List α, PySem.W.alikeAll (xs.map TD.d) (ys.map TD.d) = true
  | [], _ => by simp [PySem.W.alikeAll]
  | _ :: _, [] => by simp [PySem.W.alikeAll]
  | x :: xs, y :: ys => by
    rw [List.map_cons, List.map_cons, PySem.W.alikeAll, alikeAll_of xs ys, SO.alike]; rfl
instance {α : Type} [TD α] [SO α] : SO (List α) := ⟨fun xs ys => by
  show PySem.W.alike (.list _) (.list _) = true
  rw [PySem.W.alike]; exact alikeAll_of xs ys, (fun _ h => nomatch h), .inr fun _ _ h => nomatch h⟩
instance {α β : Type} [TD α] [SO α] [TD β] [SO β] : SO (α × β) := ⟨fun p q => by
  show PySem.W.alike (.tuple [_, _]) (.tuple [_, _]) = true
  simp [PySem.W.alike, PySem.W.alikeAll, SO.alike], (fun _ h => nomatch h), .inl fun p => ⟨_, _, rfl⟩⟩
def ltT {α : Type} [TD α] (x y : α) : Bool := PySem.W.dataLt (TD.d x) (TD.d y)
def sortT {α : Type} [TD α] (xs : List α) : List α := xs.mergeSort (PySem.W.dataLe false TD.d)
theorem sortT_len {α : Type} [TD α] (xs : List α) : (sortT xs).length = xs.length := List.length_mergeSort _
def rGeT (α : Type) [TD α] : R2 := fun x y H Q => ∃ (F : Hp) (a b : α), Sub F H ∧ R F x a ∧ R F y b ∧ Q (.bl (!ltT a b)) H
def rLeT' (α : Type) [TD α] : R2 := fun x y H Q => ∃ (F : Hp) (a b : α), Sub F H ∧ R F x a ∧ R F y b ∧ Q (.bl (!ltT b a)) H
def rLtT' (α : Type) [TD α] : R2 := fun x y H Q => ∃ (F : Hp) (a b : α), Sub F H ∧ R F x a ∧ R F y b ∧ Q (.bl (ltT a b)) H
def rGtT (α : Type) [TD α] : R2 := fun x y H Q => ∃ (F : Hp) (a b : α), Sub F H ∧ R F x a ∧ R F y b ∧ Q (.bl (ltT b a)) H
section
variable {X : Cx} {α : Type} [TD α] [TB α] [SO α]
theorem op_geT' (hd : TB.dep α ≤ 60) (hu : X.A.units + 64 < cLine) : OpR X (compareOp .GtE) (rGeT α) := by
  intro pins s σ H x y v u Q I rx ry h
  obtain ⟨F, a, b, sb, ha, hb, q⟩ := h
  obtain ⟨as, r1⟩ := Dp.reads I _ x v (ha.dpL (K := X.K) sb (TB.lay a)) rx
  obtain ⟨bs, r2⟩ := Dp.reads I _ y u (hb.dpL (K := X.K) sb (TB.lay b)) ry
  have h1 := TB.dle a
  exact PySem.W.ge_data r1 r2 (SO.alike a b) (SO.nn a) (by omega) ⟨.bl _, H, I, rfl, q⟩
theorem op_leT' (hd : TB.dep α ≤ 60) (hu : X.A.units + 64 < cLine) : OpR X (compareOp .LtE) (rLeT' α) := by
  intro pins s σ H x y v u Q I rx ry h
  obtain ⟨F, a, b, sb, ha, hb, q⟩ := h
  obtain ⟨as, r1⟩ := Dp.reads I _ x v (ha.dpL (K := X.K) sb (TB.lay a)) rx
  obtain ⟨bs, r2⟩ := Dp.reads I _ y u (hb.dpL (K := X.K) sb (TB.lay b)) ry
  have h1 := TB.dle a
  exact PySem.W.le_data r1 r2 (SO.alike a b) (SO.nn a) (by omega) ⟨.bl _, H, I, rfl, q⟩
theorem op_ltT' (hd : TB.dep α ≤ 60) (hu : X.A.units + 64 < cLine) : OpR X (compareOp .Lt) (rLtT' α) := by
  intro pins s σ H x y v u Q I rx ry h
  obtain ⟨F, a, b, sb, ha, hb, q⟩ := h
  obtain ⟨as, r1⟩ := Dp.reads I _ x v (ha.dpL (K := X.K) sb (TB.lay a)) rx
  obtain ⟨bs, r2⟩ := Dp.reads I _ y u (hb.dpL (K := X.K) sb (TB.lay b)) ry
  have h1 := TB.dle a
  exact PySem.W.lt_data r1 r2 (SO.alike a b) (SO.nn a) (by omega) ⟨.bl _, H, I, rfl, q⟩
theorem op_gtT' (hd : TB.dep α ≤ 60) (hu : X.A.units + 64 < cLine) : OpR X (compareOp .Gt) (rGtT α) := by
  intro pins s σ H x y v u Q I rx ry h
  obtain ⟨F, a, b, sb, ha, hb, q⟩ := h
  obtain ⟨as, r1⟩ := Dp.reads I _ x v (ha.dpL (K := X.K) sb (TB.lay a)) rx
  obtain ⟨bs, r2⟩ := Dp.reads I _ y u (hb.dpL (K := X.K) sb (TB.lay b)) ry
  have h1 := TB.dle a
  exact PySem.W.gt_data r1 r2 (SO.alike a b) (SO.nn a) (by omega) ⟨.bl _, H, I, rfl, q⟩
/-- the values stand for the items -/
theorem each_of {F : Hp} : ∀ {us : List V} {vs : List Value} {xs : List α}, Vals us vs → Rs F us xs → PySem.W.EachIs (fun v x => ∃ u, RelV u v ∧ R F u x) vs xs
  | _, _, [], r, q => by
    cases q
    cases r; exact .nil
  | _, _, x :: xs, r, q => by
    cases q with
    | cons h1 h2 => cases r with | cons r1 r2 => exact .cons ⟨_, r1, h1⟩ (each_of r2 h2)
theorem of_each {F : Hp} : ∀ {vs : List Value} {xs : List α}, PySem.W.EachIs (fun v x => ∃ u, RelV u v ∧ R F u x) vs xs → ∃ us, Vals us vs ∧ Rs F us xs
  | _, _, .nil => ⟨[], .nil, .nil⟩
  | _, _, .cons ⟨u, h1, h2⟩ t => by
    obtain ⟨us, a, b⟩ := of_each t
    exact ⟨u :: us, .cons h1 a, .cons h2 b⟩
def rSortedT (α : Type) [TD α] : List V → Hp → VK → Prop := fun vs H Q => ∃ (a : Addr) (us : List V) (F : Hp) (xs : List α), vs = [.ref a] ∧ H a = some (.lst us) ∧ Sub F H ∧ Rs F us xs ∧ xs.length ≤ 16777216 ∧
  ∀ p ws, H p = none → Rs F ws (sortT xs) → Q (.ref p) (upd H p (.lst ws))
theorem call_sortedT (hd : TB.dep α ≤ 60) (hu : X.A.units + 200 < cLine) : CallR X (.builtin "sorted") (rSortedT α) := by
  intro pins s σ H vs us0 Q I r h
  obtain ⟨a, us, F, xs, rfl, ha, sb, hr, hl, q⟩ := h
  have hS : SqL X.K H a us := .inl (.inl ha)
  obtain ⟨its, rv, hli, _⟩ := I.list hS
  rw [Vals.ref1 r]
  have e1 := each_of rv hr
  have reads : PySem.W.EachIs (fun v x => ∃ as, Reads s.heap v (TD.d x) as) its xs := e1.mono fun v x ⟨u, r1, r2⟩ => Dp.reads I _ u v (r2.dpL (K := X.K) sb (TB.lay x)) r1
  refine PySem.W.sorted_data (enc := TD.d) (R := fun v x => ∃ u, RelV u v ∧ R F u x) hli.isList e1 reads (PySem.W.AllAlike.of SO.alike) ?_ (by rw [sizeLine_eq]; exact hl) (fun x _ => ?_) fun out hlen eo => ?_
  · rcases SO.kind (α := α) with k | k
    · exact PySem.W.Sortable.tuples k
    · exact PySem.W.Sortable.others fun x => ⟨SO.nn x, k x⟩
  · have h1 := TB.dle x
    omega
  · obtain ⟨ws, w1, w2⟩ := of_each eo
    obtain ⟨ep, he'⟩ := PyProof.Rows.sortedAll_at s.heap its out.toArray
    have hz : ws.length ≤ sizeLine := by rw [Rs_len w2, sizeLine_eq]; show (sortT xs).length ≤ _; rw [sortT_len]; exact hl
    exact ⟨.ref _, upd H (s.heap.objs.size + 1) (.lst ws), I.laid (t' := s.toks) (fun _ _ => PyProof.Rows.sortedAll_old) (Nat.le_succ _) ⟨hz, out, ep, w1, he'⟩, rfl, q _ ws (I.hok.fresh (Nat.le_succ _)) w2⟩
end
theorem hu200 {A : Around} {k : Nat} (hr : Room (k + 1) A) : A.units + 200 < cLine := by have := hr.un; omega
theorem hu200' {A : Around} {k : Nat} (hr : Room k A) : A.units + 200 < cLine := by have := hr.un; omega

/-! #### readings at a K that is written -/
section
variable {X : Cx}
def rLenT (K : PySem.W.Frag) : List V → Hp → VK → Prop := fun xs H Q => ∃ p ys, xs = [V.ref p] ∧ (SqL K H p ys ∨ SqT K H p ys) ∧ Q (.int ys.length) H
theorem call_lenT : CallR X (.builtin "len") (rLenT X.K) := call_len_seq
def rListT (K : PySem.W.Frag) : List V → Hp → VK → Prop := fun xs H Q => ∃ p ys, xs = [V.ref p] ∧ (SqL K H p ys ∨ SqT K H p ys) ∧ ∀ l, H l = none → Q (.ref l) (upd H l (.lst ys))
theorem call_listT : CallR X (.type "list") (rListT X.K) := call_list_of
end

/-! #### simple expressions by a term -/
theorem gr_ex {F H H2 : Hp} (s : Sub F H) (e : Evl.Ex H H2) : Gr NA F H F H2 :=
  ⟨fun a o _ h => e a o h, fun a h => by
    cases q : H a with
    | none => exact absurd q h
    | some o => rw [e a o q]; exact (fun z => nomatch z), Sub.refl F, s.trans e, fun _ _ f => f⟩
theorem useEv {te : TE} {σ : L2.St} {H : Hp} {Q : VK} (v : V) (h : Evl.Ev te σ H v) (k : ∀ H2, Evl.Ex H H2 → Q v H2) : te σ H Q := h H (Evl.Ex.refl H) Q k
theorem useT {tt : TT} {σ : L2.St} {H : Hp} {Q : Bool → Hp → Prop} (b : Bool) (h : Evl.EvT tt σ H b) (k : ∀ H2, Evl.Ex H H2 → Q b H2) : tt σ H Q := h H (Evl.Ex.refl H) Q k
section
variable {K : PySem.W.Frag} {σ : L2.St} {H F : Hp} {ta tb : TE} {α : Type} [TD α]
theorem ev_cmp {p : Int → Int → Bool} {i j : Int} (ha : Evl.Ev ta σ H (.int i)) (hb : Evl.Ev tb σ H (.int j)) : Evl.Ev (tCmp p ta tb) σ H (.bl (p i j)) := fun H1 e Q q =>
  ha H1 e _ fun H2 e2 => hb H2 (e.trans e2) _ fun H3 e3 => ⟨i, j, rfl, rfl, q H3 (e2.trans e3)⟩
theorem isN_opt [NN α] {v : V} {o : Option α} (h : R F v o) : decide (v = .non) = o.isNone := by
  cases o with
  | none => cases (show RD F v .none from h); rfl
  | some x =>
    have h' : RD F v (TD.d x) := h
    have hn : v ≠ .non := fun e => by
      subst e
      generalize hd : TD.d x = d at h'
      cases h'
      exact (NN.nn x).2 hd
    rw [decide_eq_false hn]; rfl
theorem ev_isN [NN α] {v : V} {o : Option α} (ha : Evl.Ev ta σ H v) (h : R F v o) : Evl.Ev (tIsN ta) σ H (.bl o.isNone) := fun H1 e Q q =>
  ha H1 e _ fun H2 e2 => by
    show Q (.bl (decide (v = .non))) H2
    rw [isN_opt h]; exact q H2 e2
theorem ev_notN [NN α] {v : V} {o : Option α} (ha : Evl.Ev ta σ H v) (h : R F v o) : Evl.Ev (tNotN ta) σ H (.bl (!o.isNone)) := fun H1 e Q q =>
  ha H1 e _ fun H2 e2 => by
    show Q (.bl (!decide (v = .non))) H2
    rw [isN_opt h]; exact q H2 e2
theorem ev_eqVar [TE' α] {v w : V} {x y : α} (ha : Evl.Ev ta σ H v) (hb : Evl.Ev tb σ H w) (hx : R H v x) (hy : R H w y) : Evl.Ev (tOp (rEqT α) ta tb) σ H (.bl (eqT x y)) := fun H1 e Q q =>
  ha H1 e _ fun H2 e2 => hb H2 (e.trans e2) _ fun H3 e3 => ⟨H3, x, y, Sub.refl _, hx.mono ((e.trans e2).trans e3), hy.mono ((e.trans e2).trans e3), q H3 (e2.trans e3)⟩
theorem ev_neqVar [TE' α] {v w : V} {x y : α} (ha : Evl.Ev ta σ H v) (hb : Evl.Ev tb σ H w) (hx : R H v x) (hy : R H w y) : Evl.Ev (tOp (rNeT α) ta tb) σ H (.bl (!eqT x y)) := fun H1 e Q q =>
  ha H1 e _ fun H2 e2 => hb H2 (e.trans e2) _ fun H3 e3 => ⟨H3, x, y, Sub.refl _, hx.mono ((e.trans e2).trans e3), hy.mono ((e.trans e2).trans e3), q H3 (e2.trans e3)⟩
theorem ev_eqNil [TE' α] {v : V} {x : List α} (ha : Evl.Ev ta σ H v) (hx : R H v x) : Evl.Ev (tOp (rEqT (List α)) ta (tLst tNil)) σ H (.bl (eqT x [])) := fun H1 e Q q =>
  ha H1 e _ fun H2 e2 => ⟨Nat.zero_le _, fun p hp => ⟨_, x, [], Sub.refl _, hx.mono ((e.trans e2).trans (Evl.Ex.new hp)), mk_lst upd_same Rs_nil, q _ (e2.trans (Evl.Ex.new hp))⟩⟩
theorem ev_neqNil [TE' α] {v : V} {x : List α} (ha : Evl.Ev ta σ H v) (hx : R H v x) : Evl.Ev (tOp (rNeT (List α)) ta (tLst tNil)) σ H (.bl (!eqT x [])) := fun H1 e Q q =>
  ha H1 e _ fun H2 e2 => ⟨Nat.zero_le _, fun p hp => ⟨_, x, [], Sub.refl _, hx.mono ((e.trans e2).trans (Evl.Ex.new hp)), mk_lst upd_same Rs_nil, q _ (e2.trans (Evl.Ex.new hp))⟩⟩
theorem ev_lenT {a : Addr} {us : List V} {xs : List α} (ha : Evl.Ev ta σ H (.ref a)) (h : H a = some (.lst us)) (r : Rs F us xs) :
    Evl.Ev (tCB (rLenT K) (tCons ta tNil)) σ H (.int (xs.length : Int)) := fun H1 e Q q =>
  ha H1 e _ fun H2 e2 => ⟨a, us, rfl, .inl (.inl (.inl (e2 _ _ (e _ _ h)))), by rw [Rs_len r]; exact q H2 e2⟩
end
section
variable {A : Addr → Prop} {F0 H0 F H N H' : Hp} {p : Addr} {o : HO} {us : List V}
theorem Ow.frzo {q : Addr} {ws : List V} (w : Ow H0 F H p us) (h : p ≠ q) (x : Ow H0 F H q ws) : Ow H0 (upd F q (.lst ws)) H p us := ⟨w.at_, by rw [upd_ne h]; exact w.nf, w.n0⟩
end
/-! #### slices, stores -/
def cutT {α : Type} (xs : List α) (lo hi : Option Int) : List α := (xs.drop (HT.sIx xs.length 0 lo)).take (HT.sIx xs.length xs.length hi - HT.sIx xs.length 0 lo)
section
variable {F : Hp} {α : Type} [TD α] {us : List V} {xs : List α}
theorem Rs_take (n : Nat) (r : Rs F us xs) : Rs F (us.take n) (xs.take n) := by unfold Rs; rw [List.map_take]; exact r.take n
theorem Rs_drop (n : Nat) (r : Rs F us xs) : Rs F (us.drop n) (xs.drop n) := by unfold Rs; rw [List.map_drop]; exact r.drop n
theorem Rs_cut {lo hi : Option Int} (r : Rs F us xs) : Rs F (cutV us lo hi) (cutT xs lo hi) := by
  unfold cutV cutT; rw [Rs_len r]; exact Rs_take _ (Rs_drop _ r)
theorem Rs_set {u : V} {x : α} {j : Nat} (r : Rs F us xs) (h : R F u x) : Rs F (us.set j u) (xs.set j x) := by unfold Rs; rw [List.map_set]; exact r.set j h
theorem Rs_ins {u : V} {x : α} {n : Nat} (r : Rs F us xs) (h : R F u x) : Rs F (us.take n ++ [u] ++ us.drop n) (xs.take n ++ [x] ++ xs.drop n) := Rs_app (Rs_app (Rs_take n r) (Rs_cons h Rs_nil)) (Rs_drop n r)
theorem Rs_rep (r : Rs F us xs) : ∀ {n : Nat}, Rs F (List.replicate n us).flatten (List.replicate n xs).flatten
  | 0 => .nil
  | n + 1 => by rw [List.replicate_succ, List.replicate_succ, List.flatten_cons, List.flatten_cons]; exact Rs_app r (Rs_rep r)
end
def Rg1 (j : Int) : Prop := -(2 ^ 62) ≤ j ∧ j < 2 ^ 62
instance (j : Int) : Decidable (Rg1 j) := inferInstanceAs (Decidable (_ ∧ _))
theorem Rg1.lo {j : Int} (h : Rg1 j) : -(2 ^ 62) ≤ j := h.1
theorem Rg1.hi {j : Int} (h : Rg1 j) : j < 2 ^ 62 := h.2
def Rg2 (i j : Int) : Prop := -(2 ^ 62) ≤ i ∧ i < 2 ^ 62 ∧ -(2 ^ 62) ≤ j ∧ j < 2 ^ 62
instance (i j : Int) : Decidable (Rg2 i j) := inferInstanceAs (Decidable (_ ∧ _))
theorem Rg2.ok {i j : Int} (h : Rg2 i j) : -(2 ^ 62) ≤ i ∧ i < 2 ^ 62 ∧ -(2 ^ 62) ≤ j ∧ j < 2 ^ 62 := h
def InsOk (n : Nat) (i : Int) : Prop := n < 16777216 ∧ 0 ≤ i ∧ i < 2 ^ 63
instance (n : Nat) (i : Int) : Decidable (InsOk n i) := inferInstanceAs (Decidable (_ ∧ _))
theorem InsOk.a {n : Nat} {i : Int} (h : InsOk n i) : n < 16777216 := h.1
theorem InsOk.b {n : Nat} {i : Int} (h : InsOk n i) : 0 ≤ i := h.2.1
theorem InsOk.c {n : Nat} {i : Int} (h : InsOk n i) : i < 2 ^ 63 := h.2.2
def Rv (n : Nat) (k : Int) : Prop := (-(2 ^ 63) ≤ k ∧ k < 2 ^ 63) ∧ n * k.toNat ≤ 16777216
instance (n : Nat) (k : Int) : Decidable (Rv n k) := inferInstanceAs (Decidable (_ ∧ _))
theorem Rv.lo {n : Nat} {k : Int} (h : Rv n k) : -(2 ^ 63) ≤ k := h.1.1
theorem Rv.hi {n : Nat} {k : Int} (h : Rv n k) : k < 2 ^ 63 := h.1.2
theorem Rv.sz {n : Nat} {k : Int} (h : Rv n k) : n * k.toNat ≤ 16777216 := h.2
theorem no_none {P : Prop} {α : Type} {r : α} (h : none = some r) : P := nomatch h
theorem ret_true {b : Bool} {Q : VK} {H : Hp} (hm : some b = some true) (q : ∀ H', Q (.bl true) H') : Q (.bl b) H := by cases hm; exact q H
theorem pairp {α β : Type} {a c : α} {b d : β} (h : some (a, b) = some (c, d)) : a = c ∧ b = d := by cases h; exact ⟨rfl, rfl⟩

/-! #### a fresh answer is ours -/
def Fz (H : Hp) (v : V) : Prop := ∀ a, v = .ref a → H a = none
theorem own_of {A B : Addr → Prop} {α : Type} [TD α] {F0 H0 F H N H2 : Hp} {a : Addr} {us : List V} {xs : List α} (G : Gr A F0 H0 F H) (g : Gr B F H N H2) (z : H a = none) (h : N a = some (.lst us)) : Ow H0 F H2 a us :=
  ⟨g.sub _ _ h, G.sub.none z, G.fresh z⟩
theorem Rs_flatI {N F : Hp} {us : List V} {xs : List Int} (r : Rs N us xs) : Rs F us xs := by rw [Rs_int r]; exact int_Rs xs
theorem Rs_flatB {N F : Hp} : ∀ {us : List V} {xs : List Bool}, Rs N us xs → Rs F us xs
  | _, [], r => by cases r; exact .nil
  | _, x :: xs, r => by cases r with | cons h r => cases h; exact .cons (.bl _) (Rs_flatB r)

/-! #### a fresh answer with a list within -/
def NestFz (H N : Hp) (v : V) : Prop := ∀ t b p, v = .ref t → N t = some (.tup [b, .ref p]) → H p = none
def eraseP (N : Hp) (p : Addr) : Hp := fun a => if a = p then none else N a
theorem eraseP_ne {N : Hp} {p a : Addr} (h : a ≠ p) : eraseP N p a = N a := if_neg h
theorem eraseP_same {N : Hp} {p : Addr} : eraseP N p p = none := if_pos rfl
theorem Gr.eraseP {A : Addr → Prop} {F H N H2 : Hp} {p : Addr} (g : Gr A F H N H2) (s : Sub F H) (z : H p = none) : Gr A F H (eraseP N p) H2 :=
  ⟨g.keep, g.there, fun a o e => by
    have : a ≠ p := fun q => by rw [q, s.none z] at e; exact nomatch e
    rw [eraseP_ne this]; exact g.ex a o e, fun a o e => by
    by_cases q : a = p
    · rw [q, eraseP_same] at e; exact nomatch e
    · rw [eraseP_ne q] at e; exact g.sub a o e, fun a h f => by
    by_cases q : a = p
    · rw [q]; exact eraseP_same
    · rw [eraseP_ne q]; exact g.own a h f⟩
theorem own_ofN {A B : Addr → Prop} {F0 H0 F H N H2 : Hp} {a : Addr} {us : List V} (G : Gr A F0 H0 F H) (g : Gr B F H N H2) (z : H a = none) (h : N a = some (.lst us)) : Ow H0 (eraseP N a) H2 a us :=
  ⟨g.sub _ _ h, eraseP_same, G.fresh z⟩
theorem eraseP_tup {N : Hp} {p t : Addr} {us xs : List V} (h : N t = some (.tup xs)) (k : N p = some (.lst us)) : eraseP N p t = some (.tup xs) := by
  rw [eraseP_ne (fun q => by rw [q, k] at h; exact nomatch h)]; exact h
theorem Rs_eraseP {N : Hp} {p : Addr} {us : List V} {xs : List (List Int)} (k : N p = some (.lst us)) (r : Rs N us xs) : Rs (eraseP N p) us xs := by
  have one : ∀ (u : V) (x : List Int), u ∈ us → R N u x → R (eraseP N p) u x := by
    intro u x hu h
    obtain ⟨a, ws, rfl, fa, fr⟩ := lst_of h
    have e := Rs_int fr
    have hne : a ≠ p := fun q => by
      rw [q, k] at fa
      have fa : us = ws := by cases fa; rfl
      rw [fa, e] at hu
      obtain ⟨i, _, hi⟩ := List.mem_map.mp hu
      exact nomatch hi
    exact mk_lst (by rw [eraseP_ne hne]; exact fa) (Rs_flatI fr)
  have all : ∀ (vs : List V) (ys : List (List Int)), (∀ u ∈ vs, u ∈ us) → Rs N vs ys → Rs (eraseP N p) vs ys := by
    intro vs ys
    induction ys generalizing vs with
    | nil => intro _ r; cases r; exact .nil
    | cons y ys ih =>
      intro hs r
      cases r with
      | cons h r => exact Rs_cons (one _ _ (hs _ List.mem_cons_self) h) (ih _ (fun u hu => hs u (List.mem_cons_of_mem _ hu)) r)
  exact all us xs (fun u h => h) r
def PopOk (n : Nat) (i : Int) : Prop := 0 ≤ i ∧ i < n ∧ i < 2 ^ 63
instance (n : Nat) (i : Int) : Decidable (PopOk n i) := inferInstanceAs (Decidable (_ ∧ _))
theorem PopOk.ix {n : Nat} {i : Int} (h : PopOk n i) : seqIndex? i n = some i.toNat := by
  obtain ⟨h0, h1, _⟩ := h
  unfold seqIndex?
  simp [h0, h1] <;> omega
theorem PopOk.get {i : Int} {us : List V} (h : PopOk us.length i) : ∃ y, us[i.toNat]? = some y := ⟨_, List.getElem?_eq_getElem (by have := h.1; have := h.2.1; omega)⟩
theorem PopOk.lo {n : Nat} {i : Int} (h : PopOk n i) : -(2 ^ 63) ≤ i := by have := h.1; omega
theorem Rs_popAt {α : Type} [TD α] {F : Hp} {us : List V} {xs : List α} (r : Rs F us xs) {k : Nat} : Rs F (us.eraseIdx k) (xs.eraseIdx k) := by
  rw [List.eraseIdx_eq_take_drop_succ, List.eraseIdx_eq_take_drop_succ]
  exact Rs_app (Rs_take _ r) (Rs_drop _ r)

/-! #### the deck of the laws' draws -/
abbrev DkS := List (Int × Int × Int) × Int
def Deck (A : Addr → Prop) (H : Hp) (dk : Addr) (st : DkS) : Prop := ∃ (P : Addr) (pas : List Addr), H dk = some (.lst [.ref P, .int st.2]) ∧ H P = some (.lst (pas.map V.ref)) ∧
  Paired (fun pa (p : Int × Int × Int) => H pa = some (.lst [.int p.1, .int p.2.1, .int p.2.2])) pas st.1 ∧ (∀ a, A a ↔ a = dk ∨ a = P ∨ a ∈ pas) ∧ dk ≠ P ∧ dk ∉ pas ∧ P ∉ pas ∧ pas.Nodup
theorem paired_mono {α β : Type} {F G : α → β → Prop} {l : List α} {m : List β} (p : Paired F l m) (f : ∀ a b, a ∈ l → F a b → G a b) : Paired G l m := by
  induction p with
  | nil => exact .nil
  | cons h _ ih => exact .cons (f _ _ List.mem_cons_self h) (ih fun a b ha => f a b (List.mem_cons_of_mem _ ha))
theorem Deck.keep {A : Addr → Prop} {H H' : Hp} {dk : Addr} {st : DkS} (d : Deck A H dk st) (k : ∀ a o, A a → H a = some o → H' a = some o) : Deck A H' dk st := by
  obtain ⟨P, pas, h1, h2, h3, hA, r⟩ := d
  exact ⟨P, pas, k _ _ ((hA _).mpr (.inl rfl)) h1, k _ _ ((hA _).mpr (.inr (.inl rfl))) h2, paired_mono h3 fun a b ha h => k _ _ ((hA _).mpr (.inr (.inr ha))) h, hA, r⟩
theorem paired_left {α β : Type} {F : α → β → Prop} : ∀ {l : List α} {m : List β} {a : α}, Paired F l m → a ∈ l → ∃ b, F a b
  | _, _, _, .nil, h => nomatch h
  | _, _, a, .cons (a := x) h t, hm => by
    rcases List.mem_cons.mp hm with e | e
    · subst e; exact ⟨_, h⟩
    · exact paired_left t e
theorem Deck.there {A : Addr → Prop} {H : Hp} {dk a : Addr} {st : DkS} (d : Deck A H dk st) (h : A a) : H a ≠ none := by
  obtain ⟨P, pas, h1, h2, h3, hA, r⟩ := d
  rcases (hA a).mp h with e | e | e
  · subst e; rw [h1]; exact (fun z => nomatch z)
  · subst e; rw [h2]; exact (fun z => nomatch z)
  · obtain ⟨p, hp⟩ := paired_left h3 e
    rw [hp]; exact (fun z => nomatch z)
structure DkAt (A : Addr → Prop) (H0 F H : Hp) (dk : Addr) (st : DkS) : Prop where
  at_ : Deck A H dk st
  nf : ∀ a, A a → F a = none
  n0 : ∀ a, A a → H0 a ≠ none
section
variable {A : Addr → Prop} {F0 H0 F H N H' : Hp} {p dk : Addr} {o : HO} {us : List V} {st st2 : DkS}
theorem DkAt.mk0 (h : Deck A H dk st) (f : ∀ a, A a → F a = none) : DkAt A H F H dk st := ⟨h, f, fun _ => h.there⟩
theorem DkAt.step (d : DkAt A H0 F H dk st) (g : Gr NA F H N H') : DkAt A H0 N H' dk st := ⟨d.at_.keep fun a o _ h => g.keep a o id h, fun a h => g.own a (d.at_.there h) (d.nf a h), d.n0⟩
theorem DkAt.stepA (d : DkAt A H0 F H dk st) (g : Gr A F H N H') (x : Deck A H' dk st2) : DkAt A H0 N H' dk st2 := ⟨x, fun a h => g.own a (d.at_.there h) (d.nf a h), d.n0⟩
theorem DkAt.out (d : DkAt A H0 F H dk st) (w : Ow H0 F H p us) : ¬ A p := fun h => d.n0 p h w.n0
theorem DkAt.mut {ws : List V} (d : DkAt A H0 F H dk st) (w : Ow H0 F H p us) : DkAt A H0 F (upd H p (.lst ws)) dk st :=
  ⟨d.at_.keep fun a o h e => by rw [upd_ne (show a ≠ p from fun z => d.out w (by rw [← z]; exact h))]; exact e, d.nf, d.n0⟩
theorem DkAt.frz (d : DkAt A H0 F H dk st) (w : Ow H0 F H p us) : DkAt A H0 (upd F p (.lst us)) H dk st :=
  ⟨d.at_, fun a h => by rw [upd_ne (show a ≠ p from fun z => d.out w (by rw [← z]; exact h))]; exact d.nf a h, d.n0⟩
theorem Ow.stepA (w : Ow H0 F H p us) (g : Gr A F H N H') (h : ¬ A p) : Ow H0 N H' p us := ⟨g.keep p _ h w.at_, g.own p (by rw [w.at_]; exact (fun z => nomatch z)) w.nf, w.n0⟩
theorem Gr.mutA (G : Gr A F0 H0 F H) (h : A p) (f : F p = none) : Gr A F0 H0 F (upd H p o) :=
  ⟨fun a u na e => by rw [upd_ne (show a ≠ p from fun z => na (by rw [z]; exact h))]; exact G.keep a u na e, fun a e => by
    by_cases z : a = p
    · subst z; rw [upd_same]; exact (fun z => nomatch z)
    · rw [upd_ne z]; exact G.there a e, G.ex, G.sub.mut f, G.own⟩
end
/-! #### a list that is handed in and grown -/
abbrev HdS := List (Option (List Int) × Option (List Int))
def Held {α : Type} [TD α] (A : Addr → Prop) (F H : Hp) (dk : Addr) (st : List α) : Prop := (∃ us, H dk = some (.lst us) ∧ Rs F us st) ∧ F dk = none ∧ ∀ a, A a ↔ a = dk
structure HdAt {α : Type} [TD α] (A : Addr → Prop) (H0 F H : Hp) (dk : Addr) (st : List α) : Prop where
  at_ : ∃ us, H dk = some (.lst us) ∧ Rs F us st
  nf : F dk = none
  n0 : H0 dk ≠ none
  ia : ∀ a, A a ↔ a = dk
section
variable {A : Addr → Prop} {F0 H0 F H N H' : Hp} {p q dk : Addr} {o : HO} {us : List V} {α : Type} [TD α] {st : List α}
theorem HdAt.mk0 (h : Held A F H dk st) : HdAt A H F H dk st := ⟨h.1, h.2.1, by obtain ⟨⟨us, e, _⟩, _⟩ := h; rw [e]; exact (fun z => nomatch z), h.2.2⟩
theorem HdAt.held (h : HdAt A H0 F H dk st) : Held A F H dk st := ⟨h.at_, h.nf, h.ia⟩
theorem HdAt.step (d : HdAt A H0 F H dk st) (g : Gr NA F H N H') : HdAt A H0 N H' dk st := by
  obtain ⟨us, e, r⟩ := d.at_
  exact ⟨⟨us, g.keep dk _ id e, Rs_mono g.ex r⟩, g.own dk (by rw [e]; exact (fun z => nomatch z)) d.nf, d.n0, d.ia⟩
theorem HdAt.out (d : HdAt A H0 F H dk st) (w : Ow H0 F H p us) : p ≠ dk := fun e => d.n0 (by rw [← e]; exact w.n0)
theorem HdAt.mut {ws : List V} (d : HdAt A H0 F H dk st) (w : Ow H0 F H p us) : HdAt A H0 F (upd H p (.lst ws)) dk st := by
  obtain ⟨us, e, r⟩ := d.at_
  exact ⟨⟨us, by rw [upd_ne (d.out w).symm]; exact e, r⟩, d.nf, d.n0, d.ia⟩
theorem HdAt.frz (d : HdAt A H0 F H dk st) (w : Ow H0 F H p us) : HdAt A H0 (upd F p (.lst us)) H dk st := by
  obtain ⟨vs, e, r⟩ := d.at_
  exact ⟨⟨vs, e, Rs_mono w.ex r⟩, by rw [upd_ne (d.out w).symm]; exact d.nf, d.n0, d.ia⟩
theorem HdAt.app {v : V} {x : α} (d : HdAt A H0 F H dk st) (r : Rs F us st) (h : R F v x) : HdAt A H0 F (upd H dk (.lst (us ++ [v]))) dk (st ++ [x]) :=
  ⟨⟨_, upd_same, Rs_snoc r h⟩, d.nf, d.n0, d.ia⟩
theorem Gr.transO (G : Gr A F0 H0 F H) (g : Gr (fun a => a = p) F H N H') (h0 : H0 p = none) : Gr A F0 H0 N H' :=
  ⟨fun a o na e => g.keep a o (fun z => by rw [z, h0] at e; exact nomatch e) (G.keep a o na e), fun a e => g.there a (G.there a e), G.ex.trans g.ex, g.sub, fun a e f => g.own a (G.there a e) (G.own a e f)⟩
theorem DkAt.stepO {st : DkS} (d : DkAt A H0 F H dk st) (g : Gr (fun a => a = p) F H N H') (h0 : H0 p = none) : DkAt A H0 N H' dk st :=
  ⟨d.at_.keep fun a o h e => g.keep a o (fun z => d.n0 a h (by rw [z]; exact h0)) e, fun a h => g.own a (d.at_.there h) (d.nf a h), d.n0⟩
theorem Fz.up {v : V} (G : Gr A F0 H0 F H) (z : Fz H v) : Fz H0 v := fun a e => G.fresh (z a e)
end
theorem nonO_of {α : Type} [TD α] {F : Hp} {v : V} (h : R F v (none : Option α)) : v = .non := by cases (show RD F v .none from h); rfl
def optE {α ρ : Type} (o : Option α) (n : Option ρ) (s : α → Option ρ) : Option ρ := match o with | none => n | some x => s x
theorem optE_cases {α ρ : Type} {o : Option α} {n : Option ρ} {s : α → Option ρ} {z : ρ} (h : optE o n s = some z) : (o = none ∧ n = some z) ∨ ∃ x, o = some x ∧ s x = some z := by
  cases o with
  | none => exact .inl ⟨rfl, h⟩
  | some x => exact .inr ⟨x, rfl, h⟩

/-! #### a deck and a list that is handed in and grown, together -/
def AH (A : Addr → Prop) (h : Addr) : Addr → Prop := fun a => A a ∨ a = h
def HeldQ (A : Addr → Prop) (F H : Hp) (hd : Addr) (st : HdS) : Prop := (∃ us, H hd = some (.lst us) ∧ Rs F us st) ∧ F hd = none ∧ ¬ A hd
/-- the list that was handed in: it is changed in place, and stood ahead -/
structure OwP (A : Addr → Prop) (H0 F H : Hp) (p : Addr) (us : List V) : Prop where
  at_ : H p = some (.lst us)
  nf : F p = none
  n0 : H0 p ≠ none
  na : ¬ A p
section
variable {A : Addr → Prop} {F0 H0 F H N H' : Hp} {p q dk : Addr} {o : HO} {us ws : List V} {st st2 : DkS}
theorem OwP.step (w : OwP A H0 F H p us) (g : Gr NA F H N H') : OwP A H0 N H' p us := ⟨g.keep p _ id w.at_, g.own p (by rw [w.at_]; exact (fun z => nomatch z)) w.nf, w.n0, w.na⟩
theorem OwP.stepA (w : OwP A H0 F H p us) (g : Gr A F H N H') : OwP A H0 N H' p us := ⟨g.keep p _ w.na w.at_, g.own p (by rw [w.at_]; exact (fun z => nomatch z)) w.nf, w.n0, w.na⟩
theorem OwP.mut {xs : List V} (w : OwP A H0 F H p us) : OwP A H0 F (upd H p (.lst xs)) p xs := ⟨upd_same, w.nf, w.n0, w.na⟩
theorem OwP.other {xs : List V} (w : OwP A H0 F H p us) (h : q ≠ p) : OwP A H0 F (upd H q (.lst xs)) p us := ⟨by rw [upd_ne h.symm]; exact w.at_, w.nf, w.n0, w.na⟩
theorem OwP.ne_new (w : OwP A H0 F H p us) (hq : H q = none) : p ≠ q := ne_of_none w.at_ hq
theorem OwP.ne (w : OwP A H0 F H p us) (x : Ow H0 F H q ws) : p ≠ q := fun e => w.n0 (by rw [e]; exact x.n0)
theorem OwP.mutG (w : OwP A H0 F H p us) (G : Gr (AH A p) F0 H0 F H) : Gr (AH A p) F0 H0 F (upd H p o) := G.mutA (.inr rfl) w.nf
theorem OwP.frzo (w : OwP A H0 F H p us) (x : Ow H0 F H q ws) : OwP A H0 (upd F q (.lst ws)) H p us := ⟨w.at_, by rw [upd_ne (w.ne x)]; exact w.nf, w.n0, w.na⟩
theorem OwP.mk0 {hst : HdS} (h : HeldQ A F H p hst) : ∃ us, OwP A H F H p us ∧ Rs F us hst := by
  obtain ⟨⟨us, e, r⟩, nf, na⟩ := h
  exact ⟨us, ⟨e, nf, by rw [e]; exact (fun z => nomatch z), na⟩, r⟩
theorem OwP.held {hst : HdS} (w : OwP A H0 F H p us) (r : Rs F us hst) : HeldQ A F H p hst := ⟨⟨us, w.at_, r⟩, w.nf, w.na⟩
theorem Gr.wid (g : Gr A F H N H') : Gr (AH A p) F H N H' := ⟨fun a o na h => g.keep a o (fun z => na (.inl z)) h, g.there, g.ex, g.sub, g.own⟩
theorem Gr.widR (g : Gr (fun a => a = p) F H N H') : Gr (AH A p) F H N H' := ⟨fun a o na h => g.keep a o (fun z => na (.inr z)) h, g.there, g.ex, g.sub, g.own⟩
theorem Gr.transAH (G : Gr A F0 H0 F H) (g : Gr (AH A p) F H N H') (h0 : H0 p = none) : Gr A F0 H0 N H' :=
  ⟨fun a o na e => g.keep a o (fun z => z.elim na fun z => by rw [z, h0] at e; exact nomatch e) (G.keep a o na e), fun a e => g.there a (G.there a e), G.ex.trans g.ex, g.sub, fun a e f => g.own a (G.there a e) (G.own a e f)⟩
theorem DkAt.mutP {xs : List V} (d : DkAt A H0 F H dk st) (w : OwP A H0 F H p us) : DkAt A H0 F (upd H p (.lst xs)) dk st :=
  ⟨d.at_.keep fun a o h e => by rw [upd_ne (show a ≠ p from fun z => w.na (by rw [← z]; exact h))]; exact e, d.nf, d.n0⟩
theorem DkAt.stepP (d : DkAt A H0 F H dk st) (g : Gr (fun a => a = p) F H N H') (na : ¬ A p) : DkAt A H0 N H' dk st :=
  ⟨d.at_.keep fun a o h e => g.keep a o (fun z => na (by rw [← z]; exact h)) e, fun a h => g.own a (d.at_.there h) (d.nf a h), d.n0⟩
theorem DkAt.stepAH (d : DkAt A H0 F H dk st) (g : Gr (AH A p) F H N H') (x : Deck A H' dk st2) : DkAt A H0 N H' dk st2 := ⟨x, fun a h => g.own a (d.at_.there h) (d.nf a h), d.n0⟩
end
/-! #### sorted, and which values it is of -/
def rSortedM (α : Type) [TD α] : List V → Hp → VK → Prop := fun vs H Q => ∃ (a : Addr) (us : List V) (F : Hp) (xs : List α), vs = [.ref a] ∧ H a = some (.lst us) ∧ Sub F H ∧ Rs F us xs ∧ xs.length ≤ 16777216 ∧
  ∀ p ws, H p = none → Rs F ws (sortT xs) → (∀ w ∈ ws, w ∈ us) → Q (.ref p) (upd H p (.lst ws))

section
variable {X : Cx} {α : Type} [TD α] [TB α] [SO α]
theorem each_ofM {F : Hp} {ms : List V} : ∀ {us : List V} {vs : List Value} {xs : List α}, (∀ u ∈ us, u ∈ ms) → Vals us vs → Rs F us xs → PySem.W.EachIs (fun v x => ∃ u, RelV u v ∧ R F u x ∧ u ∈ ms) vs xs
  | _, _, [], _, r, q => by
    cases q
    cases r; exact .nil
  | _, _, x :: xs, hm, r, q => by
    cases q with
    | cons h1 h2 => cases r with | cons r1 r2 => exact .cons ⟨_, r1, h1, hm _ List.mem_cons_self⟩ (each_ofM (fun u hu => hm u (List.mem_cons_of_mem _ hu)) r2 h2)
theorem of_eachM {F : Hp} {ms : List V} : ∀ {vs : List Value} {xs : List α}, PySem.W.EachIs (fun v x => ∃ u, RelV u v ∧ R F u x ∧ u ∈ ms) vs xs → ∃ us, Vals us vs ∧ Rs F us xs ∧ ∀ u ∈ us, u ∈ ms
  | _, _, .nil => ⟨[], .nil, .nil, fun _ h => absurd h List.not_mem_nil⟩
  | _, _, .cons ⟨u, h1, h2, h3⟩ t => by
    obtain ⟨us, a, b, c⟩ := of_eachM t
    exact ⟨u :: us, .cons h1 a, .cons h2 b, fun w hw => (List.mem_cons.mp hw).elim (fun e => by rw [e]; exact h3) (c w)⟩
theorem call_sortedM (hd : TB.dep α ≤ 60) (hu : X.A.units + 200 < cLine) : CallR X (.builtin "sorted") (rSortedM α) := by
  intro pins s σ H vs us0 Q I r h
  obtain ⟨a, us, F, xs, rfl, ha, sb, hr, hl, q⟩ := h
  have hS : SqL X.K H a us := .inl (.inl ha)
  obtain ⟨its, rv, hli, _⟩ := I.list hS
  rw [Vals.ref1 r]
  have e1 := each_ofM (ms := us) (fun _ h => h) rv hr
  have reads : PySem.W.EachIs (fun v x => ∃ as, Reads s.heap v (TD.d x) as) its xs := e1.mono fun v x ⟨u, r1, r2, _⟩ => Dp.reads I _ u v (r2.dpL (K := X.K) sb (TB.lay x)) r1
  refine PySem.W.sorted_data (enc := TD.d) (R := fun v x => ∃ u, RelV u v ∧ R F u x ∧ u ∈ us) hli.isList e1 reads (PySem.W.AllAlike.of SO.alike) ?_ (by rw [sizeLine_eq]; exact hl) (fun x _ => ?_) fun out hlen eo => ?_
  · rcases SO.kind (α := α) with k | k
    · exact PySem.W.Sortable.tuples k
    · exact PySem.W.Sortable.others fun x => ⟨SO.nn x, k x⟩
  · have h1 := TB.dle x
    omega
  · obtain ⟨ws, w1, w2, w3⟩ := of_eachM eo
    obtain ⟨ep, he'⟩ := PyProof.Rows.sortedAll_at s.heap its out.toArray
    have hz : ws.length ≤ sizeLine := by rw [Rs_len w2, sizeLine_eq]; show (sortT xs).length ≤ _; rw [sortT_len]; exact hl
    exact ⟨.ref _, upd H (s.heap.objs.size + 1) (.lst ws), I.laid (t' := s.toks) (fun _ _ => PyProof.Rows.sortedAll_old) (Nat.le_succ _) ⟨hz, out, ep, w1, he'⟩, rfl, q _ ws (I.hok.fresh (Nat.le_succ _)) w2 w3⟩
end

/-- one draw -/
def mixD (x t many : Int) : Int :=
  let a := (x % 99999999977 + 700001 * t) % 99999999947
  let b := a * a % 99999999821
  let c := b * (b + 19) % 9999999967
  c / 13 % many
def _law_draw (st : DkS) (many : Int) : Option (Int × DkS) :=
  if Dv many then
    (st.1[(st.2 % (st.1.length : Int)).toNat]?).bind fun p =>
      if p.2.1 = 1 ∧ 0 < p.1 then some (p.1 % many, (st.1.set (st.2 % (st.1.length : Int)).toNat (p.1 / many, p.2.1, p.2.2), st.2 + 1))
      else some (mixD p.1 (p.2.2 + 1) many, (st.1.set (st.2 % (st.1.length : Int)).toNat (p.1, p.2.1, p.2.2 + 1), st.2 + 1))
  else none
def poolOf (cells : List Int) (k : Nat) : Int × Int × Int :=
  let cell := cells.getD k 0
  (cell, (if decide ((10 : Int) ^ (18 : Int).toNat ≤ cell) = true then 1 else 0), 31 * (k : Int))
def deckLen (cells : List Int) : Nat := max 1 (min 63 cells.length)
def mkDeck (cells : List Int) : DkS := ((List.range (deckLen cells)).map (poolOf cells), 0)

/-! #### a constant of the module -/
structure CAt (mg : Str → Option Value) (nm : Str) (i : Int) where
  t : Tok
  g : mg nm = some (.int i t)

/-! #### a def of the text, where it stands -/
structure FnAt (K : PySem.W.Frag) (mg : Str → Option Value) (nm : Str) (st : Stmt) (ps : List Str) where
  f : Addr
  fd : FuncData
  F : Fun K nm nm st f fd
  g : mg nm = some (.ref f)
  b : Binds K fd ps []
end My

namespace My
open PySem PySem.Spec PyProof.Rows L2
/-! #### data whose lists are all new -/
mutual
inductive RN (H0 F : Hp) : V → PyData → Prop
  | non : RN H0 F .non .none
  | bl (b : Bool) : RN H0 F (.bl b) (.bool b)
  | int (i : Int) : RN H0 F (.int i) (.int i)
  | str (x : Str) : RN H0 F (.str x) (.str x)
  | lst {a : Addr} {us : List V} {ds : List PyData} : H0 a = none → F a = some (.lst us) → RNs H0 F us ds → RN H0 F (.ref a) (.list ds)
  | tup {a : Addr} {us : List V} {ds : List PyData} : F a = some (.tup us) → RNs H0 F us ds → RN H0 F (.ref a) (.tuple ds)
inductive RNs (H0 F : Hp) : List V → List PyData → Prop
  | nil : RNs H0 F [] []
  | cons {v : V} {us : List V} {d : PyData} {ds : List PyData} : RN H0 F v d → RNs H0 F us ds → RNs H0 F (v :: us) (d :: ds)
end
mutual
theorem RN.rd {H0 F : Hp} : ∀ {d : PyData} {v : V}, RN H0 F v d → RD F v d
  | _, _, .non => .non
  | _, _, .bl b => .bl b
  | _, _, .int i => .int i
  | _, _, .str x => .str x
  | _, _, .lst _ h r => .lst h (RNs.rds r)
  | _, _, .tup h r => .tup h (RNs.rds r)
theorem RNs.rds {H0 F : Hp} : ∀ {ds : List PyData} {us : List V}, RNs H0 F us ds → RDs F us ds
  | _, _, .nil => .nil
  | _, _, .cons h r => .cons (RN.rd h) (RNs.rds r)
end
mutual
theorem RN.mono {H0 F N : Hp} (s : Sub F N) : ∀ {d : PyData} {v : V}, RN H0 F v d → RN H0 N v d
  | _, _, .non => .non
  | _, _, .bl b => .bl b
  | _, _, .int i => .int i
  | _, _, .str x => .str x
  | _, _, .lst n h r => .lst n (s _ _ h) (RNs.mono s r)
  | _, _, .tup h r => .tup (s _ _ h) (RNs.mono s r)
theorem RNs.mono {H0 F N : Hp} (s : Sub F N) : ∀ {ds : List PyData} {us : List V}, RNs H0 F us ds → RNs H0 N us ds
  | _, _, .nil => .nil
  | _, _, .cons h r => .cons (RN.mono s h) (RNs.mono s r)
end
mutual
/-- new ahead of a later heap, new ahead of an earlier one -/
theorem RN.up {H1 H0 F : Hp} (s : ∀ a, H1 a = none → H0 a = none) : ∀ {d : PyData} {v : V}, RN H1 F v d → RN H0 F v d
  | _, _, .non => .non
  | _, _, .bl b => .bl b
  | _, _, .int i => .int i
  | _, _, .str x => .str x
  | _, _, .lst n h r => .lst (s _ n) h (RNs.up s r)
  | _, _, .tup h r => .tup h (RNs.up s r)
theorem RNs.up {H1 H0 F : Hp} (s : ∀ a, H1 a = none → H0 a = none) : ∀ {ds : List PyData} {us : List V}, RNs H1 F us ds → RNs H0 F us ds
  | _, _, .nil => .nil
  | _, _, .cons h r => .cons (RN.up s h) (RNs.up s r)
end
theorem RNs.append {H0 F : Hp} : ∀ {us ws : List V} {ds es : List PyData}, RNs H0 F us ds → RNs H0 F ws es → RNs H0 F (us ++ ws) (ds ++ es)
  | _, _, _, _, .nil, s => s
  | _, _, _, _, .cons h r, s => .cons h (RNs.append r s)
mutual
theorem RN.of {H0 F : Hp} : ∀ {d d' : PyData} {v : V}, RN H0 F v d' → RD F v d → RN H0 F v d
  | _, _, _, .non, r => by cases r; exact .non
  | _, _, _, .bl b, r => by cases r; exact .bl b
  | _, _, _, .int i, r => by cases r; exact .int i
  | _, _, _, .str x, r => by cases r; exact .str x
  | _, _, _, .lst n h q, r => by
    cases r with
    | lst h' q' => rw [h] at h'; cases h'; exact .lst n h (RNs.of q q')
    | tup h' q' => rw [h] at h'; cases h'
    | dic h' q' => rw [h] at h'; cases h'
  | _, _, _, .tup h q, r => by
    cases r with
    | dic h' q' => rw [h] at h'; cases h'
    | lst h' q' => rw [h] at h'; cases h'
    | tup h' q' => rw [h] at h'; cases h'; exact .tup h (RNs.of q q')
theorem RNs.of {H0 F : Hp} : ∀ {ds ds' : List PyData} {us : List V}, RNs H0 F us ds' → RDs F us ds → RNs H0 F us ds
  | _, _, _, .nil, r => by cases r; exact .nil
  | _, _, _, .cons h q, r => by cases r with | cons h' q' => exact .cons (RN.of h h') (RNs.of q q')
end
theorem RNs.mem {H0 F : Hp} : ∀ {us : List V} {ds : List PyData} {u : V}, RNs H0 F us ds → u ∈ us → ∃ d, RN H0 F u d
  | _, _, _, .nil, h => absurd h List.not_mem_nil
  | _, _, u, .cons h r, hm => by
    rcases List.mem_cons.mp hm with e | e
    · subst e; exact ⟨_, h⟩
    · exact RNs.mem r e
theorem RNs.sub {H0 F : Hp} {us : List V} {ds : List PyData} (r : RNs H0 F us ds) : ∀ {ws : List V} {es : List PyData}, (∀ w ∈ ws, w ∈ us) → RDs F ws es → RNs H0 F ws es
  | _, _, _, .nil => .nil
  | _, _, k, .cons h q => by
    obtain ⟨d, hd⟩ := r.mem (k _ List.mem_cons_self)
    exact .cons (hd.of h) (RNs.sub r (fun w hw => k w (List.mem_cons_of_mem _ hw)) q)
abbrev NR {α : Type} [TD α] (H0 F : Hp) (v : V) (x : α) : Prop := RN H0 F v (TD.d x)
abbrev NRs {α : Type} [TD α] (H0 F : Hp) (us : List V) (xs : List α) : Prop := RNs H0 F us (xs.map TD.d)
section
variable {α β : Type} [TD α] [TD β] {H0 F N : Hp} {v u : V} {us ws : List V} {xs ys : List α} {x : α}
theorem NR_lst_of (h : NR H0 F v xs) : ∃ a us, v = .ref a ∧ F a = some (.lst us) ∧ NRs H0 F us xs ∧ H0 a = none := by
  cases h with | lst n h r => exact ⟨_, _, rfl, h, r, n⟩
theorem NR_tup2_of {p : α × β} (h : NR H0 F v p) : ∃ a v1 v2, v = .ref a ∧ F a = some (.tup [v1, v2]) ∧ NR H0 F v1 p.1 ∧ NR H0 F v2 p.2 := by
  cases h with | tup h r => cases r with | cons h1 r => cases r with | cons h2 r => cases r; exact ⟨_, _, _, rfl, h, h1, h2⟩
theorem NRs_nil : NRs (α := α) H0 F [] [] := .nil
theorem NRs_cons (h : NR H0 F u x) (r : NRs H0 F us xs) : NRs H0 F (u :: us) (x :: xs) := .cons h r
theorem NRs_snoc (r : NRs H0 F us xs) (h : NR H0 F u x) : NRs H0 F (us ++ [u]) (xs ++ [x]) := by
  unfold NRs; rw [List.map_append]; exact RNs.append r (.cons h .nil)
theorem NRs_mono (s : Sub F N) (r : NRs H0 F us xs) : NRs H0 N us xs := RNs.mono s r
theorem NRs_rs (r : NRs H0 F us xs) : Rs F us xs := RNs.rds r
theorem NR_r (r : NR H0 F v x) : R F v x := RN.rd r
theorem NRs_sub (r : NRs H0 F us xs) (k : ∀ w ∈ ws, w ∈ us) (q : Rs F ws ys) : NRs H0 F ws ys := RNs.sub r k q
theorem NRs_mem (r : NRs H0 F us xs) (k : u ∈ us) (q : R F u x) : NR H0 F u x := by
  obtain ⟨d, hd⟩ := RNs.mem r k
  exact hd.of q
theorem NRs_flatI {us : List V} {xs : List Int} (r : Rs F us xs) : NRs H0 F us xs := by
  induction xs generalizing us with
  | nil => cases r; exact .nil
  | cons x xs ih => cases r with | cons h r => cases h; exact .cons (.int _) (ih r)
theorem mkN_lst {a : Addr} (n : H0 a = none) (h : F a = some (.lst us)) (r : NRs H0 F us xs) : NR H0 F (.ref a) xs := .lst n h r
theorem mkN_tup2 {a : Addr} {v1 v2 : V} {p : α × β} (h : F a = some (.tup [v1, v2])) (h1 : NR H0 F v1 p.1) (h2 : NR H0 F v2 p.2) : NR H0 F (.ref a) p := .tup h (.cons h1 (.cons h2 .nil))
theorem NRs_cut {lo hi : Option Int} (r : NRs H0 F us xs) : NRs H0 F (cutV us lo hi) (cutT xs lo hi) :=
  NRs_sub r (fun w hw => by unfold cutV at hw; exact List.mem_of_mem_drop (List.mem_of_mem_take hw)) (Rs_cut (NRs_rs r))
end

/-! #### a list of lists that is all ours -/
structure OwL (H0 F H : Hp) (p : Addr) (as : List Addr) (xs : List (List Int)) : Prop where
  at_ : H p = some (.lst (as.map V.ref))
  it : Paired (fun a (x : List Int) => H a = some (.lst (x.map V.int))) as xs
  nd : (p :: as).Nodup
  nf : ∀ a ∈ p :: as, F a = none
  n0 : ∀ a ∈ p :: as, H0 a = none
theorem prd_mono {α β : Type} {F G : α → β → Prop} {l : List α} {m : List β} (p : Paired F l m) (f : ∀ a b, a ∈ l → F a b → G a b) : Paired G l m := paired_mono p f
theorem prd_get {α β : Type} {F : α → β → Prop} : ∀ {l : List α} {m : List β} {i : Nat} {b : β}, Paired F l m → m[i]? = some b → ∃ a, l[i]? = some a ∧ F a b
  | _, _, _, _, .nil, e => by simp at e
  | _, _, 0, _, .cons h _, e => by simp at e; subst e; exact ⟨_, rfl, h⟩
  | _, _, i + 1, _, .cons _ t, e => by
    obtain ⟨a, h1, h2⟩ := prd_get (i := i) t (by simpa using e)
    exact ⟨a, by simpa using h1, h2⟩
theorem prd_getL {α β : Type} {F : α → β → Prop} : ∀ {l : List α} {m : List β} {i : Nat} {a : α}, Paired F l m → l[i]? = some a → ∃ b, m[i]? = some b ∧ F a b
  | _, _, _, _, .nil, e => by simp at e
  | _, _, 0, _, .cons h _, e => by simp at e; subst e; exact ⟨_, rfl, h⟩
  | _, _, i + 1, _, .cons _ t, e => by
    obtain ⟨a, h1, h2⟩ := prd_getL (i := i) t (by simpa using e)
    exact ⟨a, by simpa using h1, h2⟩
theorem prd_len {α β : Type} {F : α → β → Prop} : ∀ {l : List α} {m : List β}, Paired F l m → l.length = m.length
  | _, _, .nil => rfl
  | _, _, .cons _ t => by simp [prd_len t]
theorem prd_left {α β : Type} {F : α → β → Prop} : ∀ {l : List α} {m : List β} {a : α}, Paired F l m → a ∈ l → ∃ b, b ∈ m ∧ F a b
  | _, _, _, .nil, h => absurd h List.not_mem_nil
  | _, _, a, .cons h t, hm => by
    rcases List.mem_cons.mp hm with e | e
    · subst e; exact ⟨_, List.mem_cons_self, h⟩
    · obtain ⟨b, hb, hf⟩ := prd_left t e
      exact ⟨b, List.mem_cons_of_mem _ hb, hf⟩
theorem prd_set {α β : Type} {F G : α → β → Prop} : ∀ {l : List α} {m : List β} {i : Nat} {a : α} {b : β}, Paired F l m → l[i]? = some a → l.Nodup → (∀ a' b', a' ∈ l → a' ≠ a → F a' b' → G a' b') → G a b → Paired G l (m.set i b)
  | _, _, _, _, _, .nil, e, _, _, _ => by simp at e
  | _, _, 0, a, b, .cons (a := x) h t, e, nd, f, g => by
    simp at e; subst e
    refine .cons g ?_
    have nd' := List.nodup_cons.mp nd
    exact paired_mono t fun a' b' ha hF => f a' b' (List.mem_cons_of_mem _ ha) (fun z => nd'.1 (z ▸ ha)) hF
  | _, _, i + 1, a, b, .cons (a := x) h t, e, nd, f, g => by
    have nd' := List.nodup_cons.mp nd
    have e' := e
    simp at e'
    refine .cons (f _ _ List.mem_cons_self (fun z => ?_) h) (prd_set (i := i) t e' nd'.2 (fun a' b' ha => f a' b' (List.mem_cons_of_mem _ ha)) g)
    rw [z] at nd'
    exact nd'.1 (List.mem_of_getElem? e')
theorem prd_snoc {α β : Type} {F : α → β → Prop} {a : α} {b : β} : ∀ {l : List α} {m : List β}, Paired F l m → F a b → Paired F (l ++ [a]) (m ++ [b])
  | _, _, .nil, h => .cons h .nil
  | _, _, .cons g t, h => .cons g (prd_snoc t h)
theorem map_int_inj {x y : List Int} (h : x.map V.int = y.map V.int) : x = y := by
  induction x generalizing y with
  | nil => cases y with
    | nil => rfl
    | cons => cases h
  | cons a x ih => cases y with
    | nil => cases h
    | cons b y =>
      rw [List.map_cons, List.map_cons, List.cons.injEq] at h
      obtain ⟨h1, h2⟩ := h
      cases h1
      rw [ih h2]
theorem addrs_of {H0 F : Hp} : ∀ {us : List V} {xs : List (List Int)}, NRs H0 F us xs → ∃ as : List Addr, us = as.map V.ref ∧ Paired (fun a (x : List Int) => F a = some (.lst (x.map V.int)) ∧ H0 a = none) as xs
  | _, [], r => by cases r; exact ⟨[], rfl, .nil⟩
  | _, x :: xs, r => by
    cases r with
    | cons h r =>
      obtain ⟨as, rfl, p⟩ := addrs_of (xs := xs) r
      obtain ⟨a, ws, rfl, fa, fr, n⟩ := NR_lst_of h
      exact ⟨a :: as, rfl, .cons ⟨by rw [fa, Rs_int (NRs_rs fr)], n⟩ p⟩
theorem nodup_prd {F : Hp} {H0 : Hp} : ∀ {as : List Addr} {xs : List (List Int)}, Paired (fun a (x : List Int) => F a = some (.lst (x.map V.int)) ∧ H0 a = none) as xs → xs.Nodup → as.Nodup
  | _, _, .nil, _ => List.nodup_nil
  | _, _, .cons h t, nd => by
    have nd' := List.nodup_cons.mp nd
    refine List.nodup_cons.mpr ⟨fun hm => ?_, nodup_prd t nd'.2⟩
    obtain ⟨y, hy, e, _⟩ := prd_left t hm
    rw [h.1] at e
    have e2 := HO.lst.inj (Option.some.inj e)
    rw [map_int_inj e2] at nd'
    exact nd'.1 hy
section
variable {A B : Addr → Prop} {F0 H0 F H N H' : Hp} {p q dk : Addr} {as : List Addr} {us ws : List V} {xs : List (List Int)} {x y : List Int} {st st2 : DkS} {o : HO}
theorem OwL.of (G : Gr A F0 H0 F H) (g : Gr B F H N H') (r : NR H N (.ref p) xs) (nd : xs.Nodup) : ∃ as, OwL H0 F H' p as xs ∧ ∀ a ∈ p :: as, H a = none := by
  obtain ⟨p', us, e, fa, fr, np⟩ := NR_lst_of r
  cases e
  obtain ⟨as, rfl, pr⟩ := addrs_of fr
  have fz : ∀ a ∈ p :: as, H a = none := fun a ha => by
    rcases List.mem_cons.mp ha with e | e
    · rw [e]; exact np
    · obtain ⟨_, _, _, n⟩ := prd_left pr e
      exact n
  refine ⟨as, ⟨g.sub _ _ fa, paired_mono pr fun a x _ h => g.sub _ _ h.1, List.nodup_cons.mpr ⟨fun hm => ?_, nodup_prd pr nd⟩, fun a ha => G.sub.none (fz a ha), fun a ha => G.fresh (fz a ha)⟩, fz⟩
  obtain ⟨x, _, e, _⟩ := prd_left pr hm
  rw [fa] at e
  have e2 := HO.lst.inj (Option.some.inj e)
  cases as with
  | nil => exact absurd hm List.not_mem_nil
  | cons b as =>
    cases x with
    | nil => cases e2
    | cons i x => cases (List.cons.inj e2).1
theorem OwL.mem (w : OwL H0 F H p as xs) {a : Addr} (h : a ∈ as) : ∃ x : List Int, H a = some (.lst (x.map V.int)) := by
  obtain ⟨x, _, e⟩ := prd_left w.it h
  exact ⟨x, e⟩
theorem OwL.some_ (w : OwL H0 F H p as xs) : ∀ a ∈ p :: as, H a ≠ none := fun a ha => by
  rcases List.mem_cons.mp ha with e | e
  · rw [e, w.at_]; exact (fun z => nomatch z)
  · obtain ⟨x, e⟩ := w.mem e
    rw [e]; exact (fun z => nomatch z)
theorem OwL.len (w : OwL H0 F H p as xs) : as.length = xs.length := prd_len w.it
theorem OwL.keep (w : OwL H0 F H p as xs) (k : ∀ a o, a ∈ p :: as → H a = some o → H' a = some o) (nf : ∀ a ∈ p :: as, N a = none) : OwL H0 N H' p as xs :=
  ⟨k _ _ List.mem_cons_self w.at_, paired_mono w.it fun a x ha h => k _ _ (List.mem_cons_of_mem _ ha) h, w.nd, nf, w.n0⟩
theorem OwL.step (w : OwL H0 F H p as xs) (g : Gr NA F H N H') : OwL H0 N H' p as xs := w.keep (fun a o _ h => g.keep a o id h) fun a ha => g.own a (w.some_ a ha) (w.nf a ha)
theorem OwL.stepA (w : OwL H0 F H p as xs) (g : Gr A F H N H') (h : ∀ a ∈ p :: as, ¬ A a) : OwL H0 N H' p as xs := w.keep (fun a o ha e => g.keep a o (h a ha) e) fun a ha => g.own a (w.some_ a ha) (w.nf a ha)
theorem OwL.other (w : OwL H0 F H p as xs) (h : q ∉ p :: as) : OwL H0 F (upd H q (.lst ws)) p as xs := w.keep (fun a o ha e => by rw [upd_ne (show a ≠ q from fun z => h (by rw [← z]; exact ha))]; exact e) w.nf
theorem OwL.frzo (w : OwL H0 F H p as xs) (h : q ∉ p :: as) (x : Ow H0 F H q ws) : OwL H0 (upd F q (.lst ws)) H p as xs := w.keep (fun _ _ _ e => e) fun a ha => by rw [upd_ne (show a ≠ q from fun z => h (by rw [← z]; exact ha))]; exact w.nf a ha
theorem OwL.ne_new (w : OwL H0 F H p as xs) (hq : H q = none) : q ∉ p :: as := fun h => w.some_ q h hq
theorem Gr.subN (g : Gr NA F H N H') : Sub H H' := fun a o e => g.keep a o id e
theorem OwL.ne_push {r : Addr} (h : r ∉ p :: as) (k : r ≠ q) : r ∉ p :: (as ++ [q]) := fun hm => by
  rcases List.mem_cons.mp hm with e | e
  · exact h (by rw [e]; exact List.mem_cons_self)
  · rcases List.mem_append.mp e with e | e
    · exact h (List.mem_cons_of_mem _ e)
    · exact k (List.mem_singleton.mp e)
theorem Ow.ne_fz {l : List Addr} (w : Ow H0 F H q us) (fz : ∀ a ∈ l, H a = none) : q ∉ l := fun h => by have := fz q h; rw [w.at_] at this; cases this
theorem OwP.ne_l {hd : Addr} (w : OwP A H0 F H hd us) (x : OwL H0 N H' p as xs) : hd ∉ p :: as := fun h => w.n0 (x.n0 hd h)
theorem DkAt.outL (d : DkAt A H0 F H dk st) (w : OwL H0 F H p as xs) : ∀ a ∈ p :: as, ¬ A a := fun a ha h => d.n0 a h (w.n0 a ha)
theorem OwL.read (w : OwL H0 F H p as xs) : Rs H (as.map V.ref) xs := by
  have : ∀ {as : List Addr} {xs : List (List Int)}, Paired (fun a (x : List Int) => H a = some (.lst (x.map V.int))) as xs → Rs H (as.map V.ref) xs := by
    intro as xs pr
    induction pr with
    | nil => exact .nil
    | cons h _ ih => exact .cons (mk_lst h (int_Rs _)) ih
  exact this w.it
theorem OwL.rd (w : OwL H0 F H p as xs) : R H (.ref p) xs := mk_lst w.at_ w.read
theorem OwL.item (w : OwL H0 F H p as xs) {j : Nat} {a : Addr} (ha : as[j]? = some a) (hx : xs[j]? = some x) : H a = some (.lst (x.map V.int)) := by
  obtain ⟨b, e, h⟩ := prd_get w.it hx
  rw [ha] at e; cases e; exact h
theorem OwL.ix (w : OwL H0 F H p as xs) {i : Int} (h : atI xs i = some x) : ∃ (j : Nat) (a : Addr), ixN xs.length i = some j ∧ xs[j]? = some x ∧ as[j]? = some a ∧ atI (as.map V.ref) i = some (.ref a) := by
  unfold atI at h
  cases e : ixN xs.length i with
  | none => rw [e] at h; cases h
  | some j =>
    rw [e] at h
    have h' : xs[j]? = some x := h
    obtain ⟨a, e2, _⟩ := prd_get w.it h'
    refine ⟨j, a, rfl, h', e2, ?_⟩
    unfold atI
    rw [List.length_map, w.len, e]
    show (as.map V.ref)[j]? = _
    rw [List.getElem?_map, e2]; rfl
theorem OwL.ix2 (w : OwL H0 F H p as xs) {i : Int} (h : atI xs i = some x) : ∃ a : Addr, xs[(ixN xs.length i).getD 0]? = some x ∧ as[(ixN xs.length i).getD 0]? = some a ∧ atI (as.map V.ref) i = some (.ref a) := by
  obtain ⟨j, a, e, h1, h2, h3⟩ := w.ix h
  exact ⟨a, by rw [e]; exact h1, by rw [e]; exact h2, h3⟩
theorem OwL.set_get (w : OwL H0 F H p as xs) {j : Nat} {a : Addr} (ha : as[j]? = some a) : (xs.set j y)[j]? = some y := by
  have h := (List.getElem?_eq_some_iff.mp ha).1
  rw [w.len] at h
  rw [List.getElem?_set_self h]
theorem OwL.cut {lo hi : Option Int} (w : OwL H0 F (upd H q (.lst (cutV (as.map V.ref) lo hi))) p as xs) : R (upd H q (.lst (cutV (as.map V.ref) lo hi))) (.ref q) (cutT xs lo hi) := mk_lst upd_same (Rs_cut w.read)
theorem OwL.memA {j : Nat} {a : Addr} (ha : as[j]? = some a) : a ∈ p :: as := List.mem_cons_of_mem _ (List.mem_of_getElem? ha)
theorem OwL.put (w : OwL H0 F H p as xs) {j : Nat} {a : Addr} (ha : as[j]? = some a) (hu : us = y.map V.int) : OwL H0 F (upd H a (.lst us)) p as (xs.set j y) := by
  subst hu
  have nd := List.nodup_cons.mp w.nd
  have hm := List.mem_of_getElem? ha
  refine ⟨by rw [upd_ne (show p ≠ a from fun z => nd.1 (by rw [z]; exact hm))]; exact w.at_, prd_set w.it ha nd.2 (fun a' b' _ ne h => by rw [upd_ne ne]; exact h) upd_same, w.nd, w.nf, w.n0⟩
theorem OwL.mutG (w : OwL H0 F H p as xs) {a : Addr} (ha : a ∈ p :: as) (G : Gr A F0 H0 F H) : Gr A F0 H0 F (upd H a o) := G.mut (w.n0 a ha) (w.nf a ha)
theorem OwL.ne_it {a : Addr} (h : q ∉ p :: as) (ha : a ∈ p :: as) : a ≠ q := fun z => h (by rw [← z]; exact ha)
theorem OwL.push (w : OwL H0 F H p as xs) (x : Ow H0 F H q us) (h : q ∉ p :: as) (r : Rs N us y) : OwL H0 F (upd H p (.lst (as.map V.ref ++ [.ref q]))) p (as ++ [q]) (xs ++ [y]) := by
  have nd := List.nodup_cons.mp w.nd
  have hq := x.at_
  rw [Rs_int r] at hq
  have mm : ∀ a, a ∈ p :: (as ++ [q]) → a ∈ p :: as ∨ a = q := fun a ha => by
    rcases List.mem_cons.mp ha with e | e
    · exact .inl (by rw [e]; exact List.mem_cons_self)
    · rcases List.mem_append.mp e with e | e
      · exact .inl (List.mem_cons_of_mem _ e)
      · exact .inr (List.mem_singleton.mp e)
  have hpq : q ≠ p := fun z => h (by rw [z]; exact List.mem_cons_self)
  have hqa : q ∉ as := fun z => h (List.mem_cons_of_mem _ z)
  refine ⟨by rw [upd_same, List.map_append]; rfl, prd_snoc (paired_mono w.it fun a b ha e => by rw [upd_ne (show a ≠ p from fun z => nd.1 (by rw [← z]; exact ha))]; exact e) (by rw [upd_ne hpq]; exact hq), ?_, fun a ha => (mm a ha).elim (w.nf a) fun e => by rw [e]; exact x.nf, fun a ha => (mm a ha).elim (w.n0 a) fun e => by rw [e]; exact x.n0⟩
  refine List.nodup_cons.mpr ⟨fun hm => ?_, List.nodup_append.mpr ⟨nd.2, by simp, fun a ha b hb e => hqa (by rw [← List.mem_singleton.mp hb, ← e]; exact ha)⟩⟩
  rcases List.mem_append.mp hm with e | e
  · exact nd.1 e
  · exact hpq (List.mem_singleton.mp e).symm
theorem OwL.clear (w : OwL H0 F H p as xs) : OwL H0 F (upd H p (.lst [])) p [] [] :=
  ⟨upd_same, .nil, by simp, fun a ha => w.nf a (by rw [List.mem_singleton.mp ha]; exact List.mem_cons_self), fun a ha => w.n0 a (by rw [List.mem_singleton.mp ha]; exact List.mem_cons_self)⟩
theorem DkAt.mutL (d : DkAt A H0 F H dk st) (w : OwL H0 F H p as xs) {a : Addr} (ha : a ∈ p :: as) : DkAt A H0 F (upd H a (.lst ws)) dk st :=
  ⟨d.at_.keep fun b o h e => by rw [upd_ne (show b ≠ a from fun z => d.outL w a ha (by rw [← z]; exact h))]; exact e, d.nf, d.n0⟩
end
section
variable {K : PySem.W.Frag} {g : TG} {tb : TS} {D : Ends} {σ : L2.St} {H : Hp}
theorem range_get {n j : Nat} (h : j < n) : (List.range n)[j]? = some j := by simp [h]
theorem for_ll {a : Addr} {as : List Addr} (W : List Nat → L2.St → Hp → Prop) (h0 : W (List.range as.length) σ H) (hf : ∀ ts σ H, W ts σ H → H a = some (.lst (as.map V.ref)))
    (hs : ∀ j ts b σ H, as[j]? = some b → W (j :: ts) σ H → g (.ref b) σ H fun σ2 H2 => tb { D with nx := W ts, ct := W ts, bk := D.nx } σ2 H2) (hd : ∀ σ H, W [] σ H → D.nx σ H) :
    ∃ W : Nat → Nat → L2.St → Hp → Prop, (∃ m, W 0 m σ H) ∧ ∀ i m σ H, W i m σ H →
      ((Itl K a).stop i H ∧ D.nx σ H) ∨ ((Itl K a).go i H ∧ ∃ N : L2.St → Hp → Prop, (∀ σ' H', N σ' H' → ∃ m', m' < m ∧ W (i + 1) m' σ' H') ∧ ∀ x H', (Itl K a).yld i H x H' → g x σ H' fun σ2 H2 => tb { D with nx := N, ct := N, bk := D.nx } σ2 H2) := by
  refine for_list (xs := as.map V.ref) (fun i σ H => W ((List.range as.length).drop i) σ H) (by rw [List.drop_zero]; exact h0) (fun i σ H _ h => .inl (.inl (hf _ σ H h))) (fun i v σ H e h => ?_) fun σ H h => ?_
  · rw [List.getElem?_map] at e
    cases e2 : as[i]? with
    | none => rw [e2] at e; cases e
    | some b =>
      rw [e2] at e
      cases e
      have hi := (List.getElem?_eq_some_iff.mp e2).1
      have h' : W ((List.range as.length).drop i) σ H := h
      rw [drop_cons (range_get hi)] at h'
      exact hs i _ b σ H e2 h'
  · have h' : W ((List.range as.length).drop (as.map V.ref).length) σ H := h
    rw [List.length_map, List.drop_of_length_le (by rw [List.length_range]; exact Nat.le_refl _)] at h'
    exact hd σ H h'
variable {tt : TT} {te : TE} {vs : List Nat} {H1 : Hp} {Dl : Addr} {Qd : Hp → Prop}
theorem lc_ll {a : Addr} {as : List Addr} (W : List Nat → Hp → Prop) (h0 : W (List.range as.length) (upd H1 Dl (.lst []))) (hf : ∀ ts H, W ts H → H a = some (.lst (as.map V.ref)))
    (hs : ∀ j ts b H, as[j]? = some b → W (j :: ts) H → g (.ref b) (wipe σ vs) H fun σ2 H2 => wipe σ2 vs = wipe σ vs ∧ tt σ2 H2 fun b H3 =>
        if b = true then te σ2 H3 fun y H4 => ∃ acc, H4 Dl = some (HO.lst acc) ∧ acc.length < sizeLine ∧ W ts (upd H4 Dl (HO.lst (acc ++ [y]))) else W ts H3) (hd : ∀ H, W [] H → Qd H) :
    ∃ W : Nat → Nat → Hp → Prop, (∃ m, W 0 m (upd H1 Dl (HO.lst []))) ∧ ∀ (i m : Nat) (H : Hp), W i m H → (Itl K a).stop i H ∧ Qd H ∨
      (Itl K a).go i H ∧ ∃ Nx : Hp → Prop, (∀ (H' : Hp), Nx H' → ∃ m', m' < m ∧ W (i + 1) m' H') ∧ ∀ (x : V) (H' : Hp), (Itl K a).yld i H x H' →
        g x (wipe σ vs) H' fun σ2 H2 => wipe σ2 vs = wipe σ vs ∧ tt σ2 H2 fun b H3 => if b = true then te σ2 H3 fun y H4 => ∃ acc, H4 Dl = some (HO.lst acc) ∧ acc.length < sizeLine ∧ Nx (upd H4 Dl (HO.lst (acc ++ [y]))) else Nx H3 := by
  refine lc_list (xs := as.map V.ref) (fun i H => W ((List.range as.length).drop i) H) (by rw [List.drop_zero]; exact h0) (fun i H _ h => .inl (.inl (hf _ H h))) (fun i v H e h => ?_) fun H h => ?_
  · rw [List.getElem?_map] at e
    cases e2 : as[i]? with
    | none => rw [e2] at e; cases e
    | some b =>
      rw [e2] at e
      cases e
      have hi := (List.getElem?_eq_some_iff.mp e2).1
      have h' : W ((List.range as.length).drop i) H := h
      rw [drop_cons (range_get hi)] at h'
      exact hs i _ b H e2 h'
  · have h' : W ((List.range as.length).drop (as.map V.ref).length) H := h
    rw [List.length_map, List.drop_of_length_le (by rw [List.length_range]; exact Nat.le_refl _)] at h'
    exact hd H h'
end

/-! #### the frozen part by a name -/
section
variable {A : Addr → Prop} {F0 H0 F F' H : Hp} {p q dk : Addr} {o : HO} {us ws : List V} {as : List Addr} {xs : List (List Int)}
theorem Gr.newE (s : Sub F H) (hp : H p = none) : ∃ F', Gr NA F H F' (upd H p o) ∧ F' p = some o := ⟨_, Gr.new s hp, upd_same⟩
theorem Ow.frzE (w : Ow H0 F H p us) (G : Gr A F0 H0 F H) : ∃ F', Gr A F0 H0 F' H ∧ Sub F F' ∧ F' p = some (.lst us) ∧ ∀ q, q ≠ p → F q = none → F' q = none := ⟨_, w.frz G, w.ex, upd_same, fun q h e => by rw [upd_ne h]; exact e⟩
theorem Ow.frzN (w : Ow H0 F H q us) (h : q ≠ p) (nf : ∀ q, q ≠ p → F q = none → F' q = none) : Ow H0 F' H q us := ⟨w.at_, nf _ h w.nf, w.n0⟩
theorem OwP.frzN (w : OwP A H0 F H q us) (x : Ow H0 F H p ws) (nf : ∀ q, q ≠ p → F q = none → F' q = none) : OwP A H0 F' H q us := ⟨w.at_, nf _ (w.ne x) w.nf, w.n0, w.na⟩
theorem OwL.frzN (w : OwL H0 F H q as xs) (h : p ∉ q :: as) (nf : ∀ q, q ≠ p → F q = none → F' q = none) : OwL H0 F' H q as xs :=
  ⟨w.at_, w.it, w.nd, fun a ha => nf a (fun z => h (by rw [← z]; exact ha)) (w.nf a ha), w.n0⟩
theorem DkAt.frzN {st : DkS} (d : DkAt A H0 F H dk st) (w : Ow H0 F H p us) (_ : Sub F F') (nf : ∀ q, q ≠ p → F q = none → F' q = none) : DkAt A H0 F' H dk st :=
  ⟨d.at_, fun a h => nf a (fun z => d.out w (by rw [← z]; exact h)) (d.nf a h), d.n0⟩
theorem HdAt.frzN {α : Type} [TD α] {st : List α} (d : HdAt A H0 F H dk st) (w : Ow H0 F H p us) (ex : Sub F F') (nf : ∀ q, q ≠ p → F q = none → F' q = none) : HdAt A H0 F' H dk st := by
  obtain ⟨vs, e, r⟩ := d.at_
  exact ⟨⟨vs, e, Rs_mono ex r⟩, nf _ (d.out w).symm d.nf, d.n0, d.ia⟩
end

/-! #### slots written out -/
theorem x_gnE {i : Nat} {v : V} {σ σ' : L2.St} {H : Hp} {QS : L2.St → Hp → Prop} (e : σ.set i (some v) = σ') (h : QS σ' H) : gName i v σ H QS := by
  show QS (σ.set i (some v)) H
  rw [e]; exact h
theorem x_start {t : TS} {D : Ends} {σ σ' : L2.St} {H : Hp} (e : σ = σ') (h : t D σ' H) : t D σ H := by rw [e]; exact h
theorem x_parE {i j : Nat} {tA : TA} {D : Ends} {σ : L2.St} {H : Hp} (h : tA σ H fun vs H1 => ∃ v w σ', vs = [v, w] ∧ (σ.set i (some v)).set j (some w) = σ' ∧ D.nx σ' H1) : tPar i j tA D σ H := by
  have e : (fun (vs : List V) (H1 : Hp) => ∃ v w σ', vs = [v, w] ∧ (σ.set i (some v)).set j (some w) = σ' ∧ D.nx σ' H1) = fun vs H1 => ∃ v w, vs = [v, w] ∧ D.nx ((σ.set i (some v)).set j (some w)) H1 :=
    funext fun vs => funext fun H1 => propext ⟨fun ⟨v, w, σ', a, b, c⟩ => ⟨v, w, a, by rw [b]; exact c⟩, fun ⟨v, w, a, c⟩ => ⟨v, w, _, a, rfl, c⟩⟩
  rw [e] at h
  exact h
theorem x_augE {i : Nat} {te : TE} {ti : TIp} {D : Ends} {σ : L2.St} {H : Hp} (h : ∃ x, σ[i]? = some (some x) ∧ te σ H fun y H1 => ti x y H1 fun z H2 => ∃ σ', σ.set i (some z) = σ' ∧ D.nx σ' H2) : tAug i te ti D σ H := by
  have e : (fun (z : V) (H2 : Hp) => ∃ σ', σ.set i (some z) = σ' ∧ D.nx σ' H2) = fun z H2 => D.nx (σ.set i (some z)) H2 :=
    funext fun z => funext fun H2 => propext ⟨fun ⟨σ', a, b⟩ => by rw [a]; exact b, fun b => ⟨_, rfl, b⟩⟩
  rw [e] at h
  exact h
end My

namespace My
open PySem PySem.Spec PyProof.Rows L2
/-! ### data of any kind -/
def isTupD : PyData → Bool | .tuple _ => true | _ => false
def isLstD : PyData → Bool | .list _ => true | _ => false
def isIntD : PyData → Bool | .int _ => true | .bool _ => true | _ => false
def isBlD : PyData → Bool | .bool _ => true | _ => false
def isStrD : PyData → Bool | .str _ => true | _ => false
def isNonD : PyData → Bool | .none => true | _ => false
def asInt : PyData → Option Int | .int i => some i | _ => none
def asBl : PyData → Option Bool | .bool i => some i | _ => none
def asStr : PyData → Option Str | .str i => some i | _ => none
def asLst : PyData → Option (List PyData) | .list xs => some xs | _ => none
def asSeq : PyData → Option (List PyData) | .list xs => some xs | .tuple xs => some xs | _ => none
def asPair : PyData → Option (PyData × PyData) | .tuple [a, b] => some (a, b) | _ => none
section
variable {K : PySem.W.Frag} {F H : Hp} {v : V} {d : PyData}
theorem asInt_of {i : Int} (h : RD F v d) (e : asInt d = some i) : v = .int i := by
  cases h <;> first | (cases e; rfl) | exact nomatch e
theorem asBl_of {i : Bool} (h : RD F v d) (e : asBl d = some i) : v = .bl i := by
  cases h <;> first | (cases e; rfl) | exact nomatch e
theorem asStr_of {i : Str} (h : RD F v d) (e : asStr d = some i) : v = .str i := by
  cases h <;> first | (cases e; rfl) | exact nomatch e
theorem any_id (xs : List PyData) : xs.map TD.d = xs := List.map_id' xs
theorem R_anyL {xs : List PyData} (h : R F v xs) : R (α := PyData) F v (PyData.list xs) := by
  have h' : RD F v (.list (xs.map TD.d)) := h
  rw [any_id] at h'
  exact h'
theorem asLst_of {xs : List PyData} (h : RD F v d) (e : asLst d = some xs) : R F v xs := by
  cases h with
  | lst h r => cases e; exact .lst h (by rw [any_id]; exact r)
  | _ => exact nomatch e
theorem asPair_of {p : PyData × PyData} (h : RD F v d) (e : asPair d = some p) : R F v p := by
  cases h with
  | tup h r =>
    cases r with
    | nil => exact nomatch e
    | cons h1 r =>
      cases r with
      | nil => exact nomatch e
      | cons h2 r =>
        cases r with
        | nil => cases e; exact .tup h (.cons h1 (.cons h2 .nil))
        | cons => exact nomatch e
  | _ => exact nomatch e
/-- a list or a tuple, read -/
theorem asSeq_of {xs : List PyData} (s : Sub F H) (h : RD F v d) (e : asSeq d = some xs) : ∃ a us, v = .ref a ∧ (SqL K H a us ∨ SqT K H a us) ∧ us.length = xs.length ∧ RDs F us xs := by
  cases h with
  | lst h r => cases e; exact ⟨_, _, rfl, .inl (.inl (.inl (s _ _ h))), r.len, r⟩
  | tup h r => cases e; exact ⟨_, _, rfl, .inr (.inl (.inl (s _ _ h))), r.len, r⟩
  | _ => exact nomatch e
theorem ixD {xs : List PyData} {i : Int} {x : PyData} (s : Sub F H) (h : RD F v d) (e : asSeq d = some xs) (hx : atI xs i = some x) : ∃ u, RD F u x ∧ ∀ Q : VK, Q u H → rIx K v (.int i) H Q := by
  obtain ⟨a, us, rfl, hq, hl, r⟩ := asSeq_of (K := K) s h e
  have r' : Rs F us xs := by unfold Rs; rw [any_id]; exact r
  obtain ⟨u, hu, hr⟩ := Rs_at r' hx
  refine ⟨u, hr, fun Q q => ?_⟩
  rcases hq with hq | hq
  · exact .inl ⟨_, _, _, _, rfl, rfl, hq, hu, q⟩
  · exact .inr (.inl ⟨_, _, _, _, rfl, rfl, hq, hu, q⟩)
theorem lenD {xs : List PyData} (s : Sub F H) (h : RD F v d) (e : asSeq d = some xs) (Q : VK) (q : Q (.int (xs.length : Int)) H) : rLenT K [v] H Q := by
  obtain ⟨a, us, rfl, hq, hl, r⟩ := asSeq_of (K := K) s h e
  exact ⟨_, _, rfl, hq, by rw [hl]; exact q⟩
theorem isi_of {T : String} {f : PyData → Bool} (s : Sub F H) (h : RD F v d)
    (k : kitB "NoneType" T = some (f .none) ∧ (∀ b, kitB "bool" T = some (f (.bool b))) ∧ (∀ i, kitB "int" T = some (f (.int i))) ∧ (∀ x, kitB "str" T = some (f (.str x))) ∧ (∀ x, kitB "list" T = some (f (.list x))) ∧ (∀ x, kitB "tuple" T = some (f (.tuple x))) ∧ ∀ x, kitB "dict" T = some (f (.dict x)))
    (Q : VK) (q : Q (.bl (f d)) H) : rIsi K [v, .ty T] H Q := by
  obtain ⟨k1, k2, k3, k4, k5, k6, k7⟩ := k
  cases h with
  | non => exact ⟨_, _, _, _, _, rfl, ClsV.ty _, TyX.base .non, kit_ty k1, q⟩
  | bl b => exact ⟨_, _, _, _, _, rfl, ClsV.ty _, TyX.base (.bl b), kit_ty (k2 b), q⟩
  | int i => exact ⟨_, _, _, _, _, rfl, ClsV.ty _, TyX.base (.int i), kit_ty (k3 i), q⟩
  | str x => exact ⟨_, _, _, _, _, rfl, ClsV.ty _, TyX.base (.str x), kit_ty (k4 x), q⟩
  | lst h r => exact ⟨_, _, _, _, _, rfl, ClsV.ty _, TyX.base (.lst (s _ _ h)), kit_ty (k5 _), q⟩
  | tup h r => exact ⟨_, _, _, _, _, rfl, ClsV.ty _, TyX.base (.tup (s _ _ h)), kit_ty (k6 _), q⟩
  | dic h r => exact ⟨_, _, _, _, _, rfl, ClsV.ty _, TyX.base (.dK (s _ _ h)), kit_ty (k7 _), q⟩
theorem isi_tuple (s : Sub F H) (h : RD F v d) (Q : VK) (q : Q (.bl (isTupD d)) H) : rIsi K [v, .ty "tuple"] H Q := isi_of s h ⟨(by show kitB "NoneType" "tuple" = some false; decide +kernel), fun _ => (by show kitB "bool" "tuple" = some false; decide +kernel), fun _ => (by show kitB "int" "tuple" = some false; decide +kernel), fun _ => (by show kitB "str" "tuple" = some false; decide +kernel), fun _ => (by show kitB "list" "tuple" = some false; decide +kernel), fun _ => (by show kitB "tuple" "tuple" = some true; decide +kernel), fun _ => (by show kitB "dict" "tuple" = some false; decide +kernel)⟩ Q q
theorem isi_list (s : Sub F H) (h : RD F v d) (Q : VK) (q : Q (.bl (isLstD d)) H) : rIsi K [v, .ty "list"] H Q := isi_of s h ⟨(by show kitB "NoneType" "list" = some false; decide +kernel), fun _ => (by show kitB "bool" "list" = some false; decide +kernel), fun _ => (by show kitB "int" "list" = some false; decide +kernel), fun _ => (by show kitB "str" "list" = some false; decide +kernel), fun _ => (by show kitB "list" "list" = some true; decide +kernel), fun _ => (by show kitB "tuple" "list" = some false; decide +kernel), fun _ => (by show kitB "dict" "list" = some false; decide +kernel)⟩ Q q
theorem isi_int (s : Sub F H) (h : RD F v d) (Q : VK) (q : Q (.bl (isIntD d)) H) : rIsi K [v, .ty "int"] H Q := isi_of s h ⟨(by show kitB "NoneType" "int" = some false; decide +kernel), fun _ => (by show kitB "bool" "int" = some true; decide +kernel), fun _ => (by show kitB "int" "int" = some true; decide +kernel), fun _ => (by show kitB "str" "int" = some false; decide +kernel), fun _ => (by show kitB "list" "int" = some false; decide +kernel), fun _ => (by show kitB "tuple" "int" = some false; decide +kernel), fun _ => (by show kitB "dict" "int" = some false; decide +kernel)⟩ Q q
theorem isi_bool (s : Sub F H) (h : RD F v d) (Q : VK) (q : Q (.bl (isBlD d)) H) : rIsi K [v, .ty "bool"] H Q := isi_of s h ⟨(by show kitB "NoneType" "bool" = some false; decide +kernel), fun _ => (by show kitB "bool" "bool" = some true; decide +kernel), fun _ => (by show kitB "int" "bool" = some false; decide +kernel), fun _ => (by show kitB "str" "bool" = some false; decide +kernel), fun _ => (by show kitB "list" "bool" = some false; decide +kernel), fun _ => (by show kitB "tuple" "bool" = some false; decide +kernel), fun _ => (by show kitB "dict" "bool" = some false; decide +kernel)⟩ Q q
theorem isi_str (s : Sub F H) (h : RD F v d) (Q : VK) (q : Q (.bl (isStrD d)) H) : rIsi K [v, .ty "str"] H Q := isi_of s h ⟨(by show kitB "NoneType" "str" = some false; decide +kernel), fun _ => (by show kitB "bool" "str" = some false; decide +kernel), fun _ => (by show kitB "int" "str" = some false; decide +kernel), fun _ => (by show kitB "str" "str" = some true; decide +kernel), fun _ => (by show kitB "list" "str" = some false; decide +kernel), fun _ => (by show kitB "tuple" "str" = some false; decide +kernel), fun _ => (by show kitB "dict" "str" = some false; decide +kernel)⟩ Q q
theorem isN_D (h : RD F v d) : decide (v = .non) = isNonD d := by cases h <;> first | rfl | exact decide_eq_false (fun z => nomatch z)
theorem Rs_any {α : Type} [TD α] {us : List V} {xs : List α} (r : Rs F us xs) : Rs (α := PyData) F us (xs.map TD.d) := by
  unfold Rs; rw [any_id]; exact r
theorem Rs_anyL {us : List V} {xs : List (List PyData)} (r : Rs F us xs) : Rs (α := PyData) F us (xs.map fun z => PyData.list z) := by
  have e : (TD.d : List PyData → PyData) = fun z => PyData.list z := funext fun z => congrArg PyData.list (any_id z)
  have h : RDs F us (xs.map TD.d) := r
  rw [e] at h
  unfold Rs; rw [any_id]; exact h
theorem str_of {x : Str} (h : R F v x) : v = .str x := by cases h; rfl
end
/-- data that the order of Python is sure of -/
def LtOk (a b : PyData) : Prop := (PySem.W.alike a b && !isNonD a && a.canLay0 && b.canLay0 && decide (a.depth ≤ 64)) = true
instance (a b : PyData) : Decidable (LtOk a b) := inferInstanceAs (Decidable (_ = true))
def EqOk (a b : PyData) : Prop := (SeqAt.shaped a && SeqAt.shaped b) = true
instance (a b : PyData) : Decidable (EqOk a b) := inferInstanceAs (Decidable (_ = true))
def rCmpD (f : PyData → PyData → Bool) : R2 := fun x y H Q => ∃ (F : Hp) (a b : PyData), Sub F H ∧ RD F x a ∧ RD F y b ∧ LtOk a b ∧ Q (.bl (f a b)) H
def rEqD' (f : Bool → Bool) : R2 := fun x y H Q => ∃ (F : Hp) (a b : PyData), Sub F H ∧ RD F x a ∧ RD F y b ∧ EqOk a b ∧ Q (.bl (f (PyData.eqv a b))) H
section
variable {X : Cx}
theorem LtOk.parts {a b : PyData} (h : LtOk a b) : PySem.W.alike a b = true ∧ a ≠ .none ∧ a.canLay0 = true ∧ b.canLay0 = true ∧ a.depth ≤ 64 := by
  unfold LtOk at h
  simp only [Bool.and_eq_true, decide_eq_true_eq, Bool.not_eq_true'] at h
  exact ⟨h.1.1.1.1, (fun e => by rw [e] at h; exact nomatch h.1.1.1.2), h.1.1.2, h.1.2, h.2⟩
theorem op_geA (hu : X.A.units + 64 < cLine) : OpR X (compareOp .GtE) (rCmpD fun a b => !PySem.W.dataLt a b) := by
  intro pins s σ H x y v u Q I rx ry h
  obtain ⟨F, a, b, sb, ha, hb, k, q⟩ := h
  obtain ⟨k1, k2, k3, k4, k5⟩ := k.parts
  obtain ⟨as, r1⟩ := Dp.reads I _ x v (ha.dpL (K := X.K) sb k3) rx
  obtain ⟨bs, r2⟩ := Dp.reads I _ y u (hb.dpL (K := X.K) sb k4) ry
  exact PySem.W.ge_data r1 r2 k1 k2 (by omega) ⟨.bl _, H, I, rfl, q⟩
theorem op_ltA (hu : X.A.units + 64 < cLine) : OpR X (compareOp .Lt) (rCmpD fun a b => PySem.W.dataLt a b) := by
  intro pins s σ H x y v u Q I rx ry h
  obtain ⟨F, a, b, sb, ha, hb, k, q⟩ := h
  obtain ⟨k1, k2, k3, k4, k5⟩ := k.parts
  obtain ⟨as, r1⟩ := Dp.reads I _ x v (ha.dpL (K := X.K) sb k3) rx
  obtain ⟨bs, r2⟩ := Dp.reads I _ y u (hb.dpL (K := X.K) sb k4) ry
  exact PySem.W.lt_data r1 r2 k1 k2 (by omega) ⟨.bl _, H, I, rfl, q⟩
theorem op_eqA (hu : X.A.units + 64 < cLine) : OpR X (compareOp .Eq) (rEqD' id) := by
  intro pins s σ H x y v u Q I rx ry h
  obtain ⟨F, a, b, sb, ha, hb, k, q⟩ := h
  unfold EqOk at k
  rw [Bool.and_eq_true] at k
  exact op_eqD hu pins s σ H x y v u Q I rx ry ⟨_, _, ha.dpL sb (SeqAt.canLay_of_shaped k.1), hb.dpL sb (SeqAt.canLay_of_shaped k.2), k.1, k.2, q⟩
theorem op_neA (hu : X.A.units + 64 < cLine) : OpR X (compareOp .NotEq) (rEqD' not) := by
  intro pins s σ H x y v u Q I rx ry h
  obtain ⟨F, a, b, sb, ha, hb, k, q⟩ := h
  unfold EqOk at k
  rw [Bool.and_eq_true] at k
  exact op_neD hu pins s σ H x y v u Q I rx ry ⟨_, _, ha.dpL sb (SeqAt.canLay_of_shaped k.1), hb.dpL sb (SeqAt.canLay_of_shaped k.2), k.1, k.2, q⟩
/-- texts -/
def rEqS (f : Bool → Bool) : R2 := fun x y H Q => ∃ a b : Str, x = .str a ∧ y = .str b ∧ Q (.bl (f (decide (a = b)))) H
theorem dec_strV {a b : Str} : decide (V.str a = V.str b) = decide (a = b) := by
  rw [Bool.eq_iff_iff, decide_eq_true_iff, decide_eq_true_iff]
  exact ⟨fun h => V.str.inj h, fun h => by rw [h]⟩
theorem op_eqS : OpR X (compareOp .Eq) (rEqS id) := by
  intro pins s σ H x y v u Q I rx ry h
  obtain ⟨a, b, rfl, rfl, q⟩ := h
  exact op_eq pins s σ H _ _ v u Q I rx ry ⟨rfl, by rw [dec_strV]; exact q⟩
theorem op_neS : OpR X (compareOp .NotEq) (rEqS not) := by
  intro pins s σ H x y v u Q I rx ry h
  obtain ⟨a, b, rfl, rfl, q⟩ := h
  exact op_ne pins s σ H _ _ v u Q I rx ry ⟨rfl, by rw [dec_strV]; exact q⟩
end

/-- xs == [], whatever stands in xs -/
def rNil (K : PySem.W.Frag) (f : Bool → Bool) : R2 := fun x y H Q => ∃ (p q : Addr) (us : List V), x = .ref p ∧ y = .ref q ∧ SqL K H p us ∧ SqL K H q [] ∧ Q (.bl (f us.isEmpty)) H
theorem emp_len {α β : Type} {us : List α} {xs : List β} (h : us.length = xs.length) : us.isEmpty = xs.isEmpty := by cases us <;> cases xs <;> first | rfl | exact nomatch h
section
variable {X : Cx}
theorem op_eqNil (hu : X.A.units + 64 < cLine) : OpR X (compareOp .Eq) (rNil X.K id) := by
  intro pins s σ H x y v u Q I rx ry h
  obtain ⟨p, q, us, rfl, rfl, hp, hq, k⟩ := h
  cases rx
  cases ry
  obtain ⟨its, rv, pl, _⟩ := I.list hp
  obtain ⟨jts, rw', ql, _⟩ := I.list hq
  cases rw'
  have fin : ∀ b : Bool, b = us.isEmpty → EP X pins σ Q (Value.bool b) s := fun b e => ⟨.bl b, H, I, rfl, by rw [e]; exact k⟩
  cases us with
  | nil =>
    cases rv
    exact PySem.SeqAt.RcAt.lists (e := fun _ => true) pl.isList ql.isList rfl (by omega) (fun j h1 _ => absurd h1 (Nat.not_lt_zero _)) _ _ _ _ (fin _ rfl)
  | cons a us =>
    cases rv
    exact PySem.SeqAt.RcAt.lists_lengths pl.isList ql.isList (by simp) (by omega) _ _ _ _ (fin _ rfl)
theorem op_neNil (hu : X.A.units + 64 < cLine) : OpR X (compareOp .NotEq) (rNil X.K not) := by
  intro pins s σ H x y v u Q I rx ry h
  obtain ⟨p, q, us, rfl, rfl, hp, hq, k⟩ := h
  cases rx
  cases ry
  obtain ⟨its, rv, pl, _⟩ := I.list hp
  obtain ⟨jts, rw', ql, _⟩ := I.list hq
  cases rw'
  have fin : ∀ b : Bool, b = !us.isEmpty → EP X pins σ Q (Value.bool b) s := fun b e => ⟨.bl b, H, I, rfl, by rw [e]; exact k⟩
  cases us with
  | nil =>
    cases rv
    exact PySem.SeqAt.RcNeAt.lists (e := fun _ => true) pl.isList ql.isList rfl (by omega) (fun j h1 _ => absurd h1 (Nat.not_lt_zero _)) _ _ _ _ (fin _ rfl)
  | cons a us =>
    cases rv
    exact PySem.SeqAt.RcNeAt.lists_lengths pl.isList ql.isList (by simp) (by omega) _ _ _ _ (fin _ rfl)
end
/-- a tuple of the items of a list -/
def rTupL (K : PySem.W.Frag) : List V → Hp → VK → Prop := fun xs H Q => ∃ p ys, xs = [.ref p] ∧ ((SqL K H p ys ∧ ∀ l, H l = none → Q (.ref l) (upd H l (.tup ys))) ∨ (SqT K H p ys ∧ Q (.ref p) H))
theorem call_tupL {X : Cx} : CallR X (.type "tuple") (rTupL X.K) := call_tuple_of
/-! #### for i, x in enumerate(xs) -/
theorem x_nil {σ : L2.St} {H : Hp} {QA : List V → Hp → Prop} (h : QA [] H) : tNil σ H QA := h
theorem x_enum {K : PySem.W.Frag} {tA : TA} {σ : L2.St} {H : Hp} {R : It → Hp → Prop} (h : tA σ H fun vs H1 => ∃ a xs, vs = [.ref a] ∧ SqL K H1 a xs ∧ R (Ite K a) H1) : iEnum K tA σ H R := h
theorem for_enum {K : PySem.W.Frag} {g : TG} {tb : TS} {D : Ends} {σ : L2.St} {H : Hp} {α : Type} [TD α] {a : Addr} {us : List V} {xs : List α} {F : Hp} (W : Nat → List α → L2.St → Hp → Prop) (fr : Rs F us xs) (h0 : W 0 xs σ H) (hf : ∀ i ts σ H, W i ts σ H → H a = some (.lst us))
    (hs : ∀ i x ts v T σ H, R F v x → W i (x :: ts) σ H → H T = none → g (.ref T) σ (upd H T (.tup [.int (i : Int), v])) fun σ2 H2 => tb { D with nx := W (i + 1) ts, ct := W (i + 1) ts, bk := D.nx } σ2 H2) (hd : ∀ i σ H, W i [] σ H → D.nx σ H) :
    ∃ W : Nat → Nat → L2.St → Hp → Prop, (∃ m, W 0 m σ H) ∧ ∀ i m σ H, W i m σ H →
      ((Ite K a).stop i H ∧ D.nx σ H) ∨ ((Ite K a).go i H ∧ ∃ N : L2.St → Hp → Prop, (∀ σ' H', N σ' H' → ∃ m', m' < m ∧ W (i + 1) m' σ' H') ∧ ∀ x H', (Ite K a).yld i H x H' → g x σ H' fun σ2 H2 => tb { D with nx := N, ct := N, bk := D.nx } σ2 H2) := by
  have hl := Rs_len fr
  refine ⟨fun i m σ H => m = xs.length - i ∧ i ≤ xs.length ∧ W i (xs.drop i) σ H, ⟨xs.length, rfl, Nat.zero_le _, by rw [List.drop_zero]; exact h0⟩, ?_⟩
  rintro i m σ H ⟨rfl, hi, w⟩
  have q : SqL K H a us := .inl (.inl (hf _ _ _ _ w))
  by_cases hlt : i < xs.length
  · have e3 : xs[i]? = some xs[i] := List.getElem?_eq_getElem hlt
    have e4 : us[i]? = some us[i] := List.getElem?_eq_getElem (by omega)
    refine .inr ⟨⟨us, us[i], q, e4⟩, fun σ' H' => W (i + 1) (xs.drop (i + 1)) σ' H', fun σ' H' p' => ⟨xs.length - (i + 1), by omega, rfl, hlt, p'⟩, fun x H' y => ?_⟩
    obtain ⟨T, z, rfl, nT, rfl, hz⟩ := y
    have ez := hz us q
    rw [e4] at ez
    cases ez
    obtain ⟨d, e1, e2⟩ := fr.get' e4
    rw [List.getElem?_map, e3] at e1
    cases e1
    rw [drop_cons e3] at w
    exact hs i _ _ _ T σ H e2 w nT
  · have e : i = xs.length := by omega
    subst e
    rw [List.drop_length] at w
    exact .inl ⟨⟨us, q, by omega⟩, hd _ σ H w⟩
section
variable {K : PySem.W.Frag} {F H : Hp} {Q : VK} {p q : Addr} {us : List V} {b : Bool} {x y : V}
theorem eqNil_use (h : SqL K H p us) (k : SqL K H q []) (e : us.isEmpty = b) (z : Q (.bl b) H) : rNil K id (.ref p) (.ref q) H Q := ⟨_, _, _, rfl, rfl, h, k, by rw [e]; exact z⟩
theorem neNil_use (h : SqL K H p us) (k : SqL K H q []) (e : us.isEmpty = b) (z : Q (.bl (!b)) H) : rNil K not (.ref p) (.ref q) H Q := ⟨_, _, _, rfl, rfl, h, k, by rw [e]; exact z⟩
theorem eqS_use {a b : Str} (z : Q (.bl (decide (a = b))) H) : rEqS id (.str a) (.str b) H Q := ⟨_, _, rfl, rfl, z⟩
theorem neS_use {a b : Str} (z : Q (.bl (!decide (a = b))) H) : rEqS not (.str a) (.str b) H Q := ⟨_, _, rfl, rfl, z⟩
theorem eqA_use {a b : PyData} (s : Sub F H) (h : RD F x a) (k : RD F y b) (c : EqOk a b) (z : Q (.bl (PyData.eqv a b)) H) : rEqD' id x y H Q := ⟨_, _, _, s, h, k, c, z⟩
theorem neA_use {a b : PyData} (s : Sub F H) (h : RD F x a) (k : RD F y b) (c : EqOk a b) (z : Q (.bl (!PyData.eqv a b)) H) : rEqD' not x y H Q := ⟨_, _, _, s, h, k, c, z⟩
theorem geA_use {a b : PyData} (s : Sub F H) (h : RD F x a) (k : RD F y b) (c : LtOk a b) (z : Q (.bl (!PySem.W.dataLt a b)) H) : rCmpD (fun a b => !PySem.W.dataLt a b) x y H Q := ⟨_, _, _, s, h, k, c, z⟩
theorem ltA_use {a b : PyData} (s : Sub F H) (h : RD F x a) (k : RD F y b) (c : LtOk a b) (z : Q (.bl (PySem.W.dataLt a b)) H) : rCmpD (fun a b => PySem.W.dataLt a b) x y H Q := ⟨_, _, _, s, h, k, c, z⟩
end
/-! #### repr -/
def ShowOk (d : PyData) : Prop := (d.showable && decide (d.depth ≤ 60) && decide (d.shown.length ≤ 16777216)) = true
instance (d : PyData) : Decidable (ShowOk d) := inferInstanceAs (Decidable (_ = true))
theorem ShowOk.parts {d : PyData} (h : ShowOk d) : d.showable = true ∧ d.depth ≤ 60 ∧ d.shown.length ≤ 16777216 := by
  unfold ShowOk at h
  simp only [Bool.and_eq_true, decide_eq_true_eq] at h
  exact ⟨h.1.1, h.1.2, h.2⟩
section
variable {X : Cx} {pins : List (Addr × Obj)} {σ : L2.St} {H F : Hp} {s : Shared}
theorem ne_sys (I : Inv X pins σ H s) (hb : (X.base.get? sysModules).isSome = true) {a : Addr} {o : HO} (h : H a = some o) : a ≠ sysModules := fun e => by
  obtain ⟨u, hu⟩ := Option.isSome_iff_exists.mp hb
  have := (I.bs _ _ hu).2
  rw [← e, h] at this
  cases this
mutual
theorem RD.reads (I : Inv X pins σ H s) (hb : (X.base.get? sysModules).isSome = true) (sb : Sub F H) : ∀ {d : PyData} {v : V} {u : Value}, RD F v d → RelV v u → ∃ as, Reads s.heap u d as ∧ sysModules ∉ as
  | _, _, _, .non, r => by cases r; exact ⟨_, .none, by simp⟩
  | _, _, _, .bl b, r => by cases r; exact ⟨_, .bool b, by simp⟩
  | _, _, _, .int i, r => by obtain ⟨t, rfl⟩ := r; exact ⟨_, .int i t, by simp⟩
  | _, _, _, .str x, r => by obtain ⟨t, rfl⟩ := r; exact ⟨_, .str x t, by simp⟩
  | _, _, _, .lst (a := a) (us := us) h q, r => by
    cases r
    obtain ⟨_, its, n, vr, e⟩ := I.hok a _ (sb _ _ h)
    obtain ⟨as, ra, na⟩ := RDs.reads I hb sb q vr
    refine ⟨_, .list (vs := its.toArray) e rfl rfl ra, fun hm => ?_⟩
    rcases List.mem_cons.mp hm with z | z
    · exact ne_sys I hb (sb _ _ h) z.symm
    · exact na z
  | _, _, _, .tup (a := a) (us := us) h q, r => by
    cases r
    obtain ⟨_, its, vr, o, e, ec, n, ed⟩ := I.hok a _ (sb _ _ h)
    obtain ⟨as, ra, na⟩ := RDs.reads I hb sb q vr
    exact ⟨_, .tuple (vs := its.toArray) e ec ed ra, na⟩
  | _, _, _, .dic (a := a) (kvs := kvs) h q, r => by
    cases r
    obtain ⟨_, hs, vs, kv, o, es, ep, e, ex, ed, _, pr, _⟩ := I.hok a _ (sb _ _ h)
    obtain ⟨as, bs, r1, r2, n1, n2⟩ := RKs.reads I hb sb q kv pr
    refine ⟨_, .dict e ex.1 ed r1 r2, fun hm => ?_⟩
    rcases List.mem_append.mp hm with z | z
    · rcases List.mem_cons.mp z with z | z
      · exact beq_eq_false_iff_ne.mp hs z.symm
      · exact n1 z
    · exact n2 z
theorem RDs.reads (I : Inv X pins σ H s) (hb : (X.base.get? sysModules).isSome = true) (sb : Sub F H) : ∀ {ds : List PyData} {us : List V} {vs : List Value}, RDs F us ds → Vals us vs → ∃ as, ReadsAll s.heap vs ds as ∧ sysModules ∉ as
  | _, _, _, .nil, r => by cases r; exact ⟨_, .nil, by simp⟩
  | _, _, _, .cons h q, r => by
    cases r with
    | cons r1 r2 =>
      obtain ⟨as, a1, a2⟩ := RD.reads I hb sb h r1
      obtain ⟨bs, b1, b2⟩ := RDs.reads I hb sb q r2
      exact ⟨_, .cons a1 b1, fun hm => (List.mem_append.mp hm).elim a2 b2⟩
theorem RKs.reads (I : Inv X pins σ H s) (hb : (X.base.get? sysModules).isSome = true) (sb : Sub F H) : ∀ {ds : List (PyData × PyData)} {kvs : List (Key × V)} {vs : List (Key × Value)} {es : List DictEntry}, RKs F kvs ds → KV kvs vs → Pairs (mixKind X.prog X.w) es vs →
    ∃ as bs, ReadsAll s.heap (es.map (·.key)) (ds.map (·.1)) as ∧ ReadsAll s.heap (es.map (·.val)) (ds.map (·.2)) bs ∧ sysModules ∉ as ∧ sysModules ∉ bs
  | _, _, _, _, .nil, k, p => by cases k; cases p; exact ⟨_, _, .nil, .nil, by simp, by simp⟩
  | _, _, _, _, .int (i := i) h q, k, p => by
    cases k with
    | cons k1 k2 =>
      cases p with
      | cons p1 p2 p3 =>
        obtain ⟨e1, e2⟩ := k1
        rw [← e1] at p1
        have p1' : keyIs (.inl i) _ = true := p1
        rcases keyIs_shape p1' with ⟨j, t, z, ek⟩ | ⟨x, t, z, ek⟩
        · cases z
          obtain ⟨as, a1, a2⟩ := RD.reads I hb sb h e2
          obtain ⟨cs, bs, c1, c2, n1, n2⟩ := RKs.reads I hb sb q k2 p3
          exact ⟨[] ++ cs, as ++ bs, .cons (by show Reads _ (DictEntry.key _) _ _; rw [ek]; exact .int i t) c1, .cons (by show Reads _ (DictEntry.val _) _ _; rw [p2]; exact a1) c2, n1, fun hm => (List.mem_append.mp hm).elim a2 n2⟩
        · cases z
  | _, _, _, _, .str (x := x) h q, k, p => by
    cases k with
    | cons k1 k2 =>
      cases p with
      | cons p1 p2 p3 =>
        obtain ⟨e1, e2⟩ := k1
        rw [← e1] at p1
        have p1' : keyIs (.inr x) _ = true := p1
        rcases keyIs_shape p1' with ⟨j, t, z, ek⟩ | ⟨y, t, z, ek⟩
        · cases z
        · cases z
          obtain ⟨as, a1, a2⟩ := RD.reads I hb sb h e2
          obtain ⟨cs, bs, c1, c2, n1, n2⟩ := RKs.reads I hb sb q k2 p3
          exact ⟨[] ++ cs, as ++ bs, .cons (by show Reads _ (DictEntry.key _) _ _; rw [ek]; exact .str x t) c1, .cons (by show Reads _ (DictEntry.val _) _ _; rw [p2]; exact a1) c2, n1, fun hm => (List.mem_append.mp hm).elim a2 n2⟩
end
def rReprD : List V → Hp → VK → Prop := fun xs H Q => ∃ (x : V) (d : PyData) (F : Hp), xs = [x] ∧ Sub F H ∧ RD F x d ∧ ShowOk d ∧ Q (.str d.shown) H
end
theorem call_reprD {X : Cx} (hg : X.A.guards = some []) (hb : (X.base.get? sysModules).isSome = true) (hu : X.A.units + 200 < cLine) : CallR X (.builtin "repr") rReprD := by
  intro pins s σ H xs us Q I r h
  obtain ⟨x, d, F, rfl, sb, hd, ok, q⟩ := h
  obtain ⟨u, rfl, rx⟩ := vals1 r
  obtain ⟨k1, k2, k3⟩ := ok.parts
  have hz : d.shown.length ≤ sizeLine := by rw [sizeLine_eq]; exact k3
  have hd' := hd
  obtain ⟨as, ra, na⟩ := RD.reads I hb sb hd rx
  cases hd' with
  | non => cases rx; exact PySem.P.repr_of_none ⟨.str _, H, I.tok _, ⟨_, rfl⟩, q⟩
  | bl b => cases rx; exact PySem.P.repr_of_bool ⟨.str _, H, I.tok _, ⟨_, rfl⟩, q⟩
  | int i =>
    obtain ⟨t, rfl⟩ := rx
    have hi : i.natAbs.log2 < 1920 := by simpa [PyData.showable] using k1
    exact PySem.P.repr_of_int hi ⟨.str _, H, I.tok _, ⟨_, rfl⟩, q⟩
  | str x => obtain ⟨t, rfl⟩ := rx; exact PySem.P.repr_of_str ⟨.str _, H, I.tok _, ⟨_, rfl⟩, q⟩ hz
  | lst h r2 => cases rx; exact PySem.repr_of_reads' ra k1 (fun _ => na) hg (by omega) (fun _ _ e => e) (fun h' u tk kk => ⟨.str _, H, I.kept (t' := tk) kk, ⟨_, rfl⟩, q⟩) hz
  | tup h r2 => cases rx; exact PySem.repr_of_reads' ra k1 (fun _ => na) hg (by omega) (fun _ _ e => e) (fun h' u tk kk => ⟨.str _, H, I.kept (t' := tk) kk, ⟨_, rfl⟩, q⟩) hz
  | dic h r2 => cases rx; exact PySem.repr_of_reads' ra k1 (fun _ => na) hg (by omega) (fun _ _ e => e) (fun h' u tk kk => ⟨.str _, H, I.kept (t' := tk) kk, ⟨_, rfl⟩, q⟩) hz

/-! #### defs that want to know that no repr is under way, and where the table of modules stands -/
/-- as FnOk, where nothing is being shown around the call -/
structure FnOkG (P : Program) (w : World) (K : PySem.W.Frag) (mg : Str → Option Value) (base : Heap) (CX : CXT) (k : Nat) (f : Addr) (fd : FuncData) (ps : List Str) (sp : Sp) : Prop where
  len : ∀ vs H Q E, sp vs H Q E → vs.length = ps.length
  run : ∀ (A : Around) (outer : List Env) (s : Shared) (H : Hp) (args : Args) (us : List Value) (vs : List V) (Q : VK) (E : XK), A.guards = some [] → Room k A → Env0 P w K mg base A outer s H → BindsTo s fd args (ps.zip us) →
    Vals vs us → sp vs H Q E → codeAny (model P w) A (.call (.ref f) args) (CR CX outer P w H s Q E) s
section
variable {P : Program} {w : World} {K : PySem.W.Frag} {mg : Str → Option Value} {base : Heap} {CX : CXT} {k : Nat} {f : Addr} {fd : FuncData} {ps : List Str} {sp : Sp}
/-- a def of the text, by its body -/
theorem okG_of {x qual : Str} {st : Stmt} {N : List Str} (F : Fun K x qual st f fd) (S : FnScope N ps (defScope st)) (len : ∀ vs H Q E, sp vs H Q E → vs.length = ps.length)
    (hbody : ∀ (cdv : Value) (A : Around) (outer : List Env) (s : Shared) (H : Hp) (vs : List V) (Q : VK) (E : XK), A.guards = some [] → Room k (A.deeper (envOfC qual (defScope st) s.heap.objs.size f cdv)) → sp vs H Q E →
      ∃ t, PSs (cxOf CX P w K mg base N qual (defScope st) f cdv A outer s H E) (defBody st) t ∧ t { nx := fun _ H' => Q .non H', rt := Q } (start N vs) H) : FnOkG P w K mg base CX (k + 1) f fd ps sp := by
  obtain ⟨oc, od, kV, doc, pm, an, cdv, ct, osl, hfd, lk, hcd⟩ := F.ex
  subst hfd
  refine ⟨len, ?_⟩
  intro A outer s H args us vs Q E hgd hr e0 hb r hsp
  have low : ∀ b o, base.get? b = some o → s.heap.get? b = some o := fun b o e => (e0.bs b o e).1
  have KX : K.In s.heap := e0.mod.kin.keeps low
  have kinds : ∀ y ∈ ps.zip us, (defScope st).names.lookup y.1 = some .local ∨ ((defScope st).names.lookup y.1 = some .cell ∧ ((cellsFrom (s.heap.objs.size + 1) (defScope st).names []).lookup y.1).isSome = true) := by
    intro y hy
    obtain ⟨n, v⟩ := y
    cases S.par n (List.of_mem_zip hy).1 with
    | inl q => exact .inl q
    | inr q => exact .inr ⟨q, PySem.W.cellsFrom_some _ _ _ (.inl q)⟩
  refine codeAny_call_function hr.depth (KX _ _ lk) rfl S.co S.gen rfl (PySem.W.codeRec_of KX hcd) (hb _ _ _ _ (wpAny_newFunctionEnv_cells S.kind kinds fun env he s1 xx => ?_))
  subst he
  refine ⟨(e0.mod.nolimit.keeps low).keeps xx.toInCall.keep, codeAny_func ?_⟩
  obtain ⟨t, ht, hq⟩ := hbody cdv A outer s H vs Q E hgd (hr.deeper _) hsp
  refine wpAny_mono (ht.run [] s1 (start N vs) H _ (inv_start S hr.hd e0 (len _ _ _ _ hsp) r xx) hq) ?_ fun e s' hs => hs
  intro fl s' hs
  cases fl with
  | next =>
    obtain ⟨_, H', J, q⟩ := hs
    exact ⟨.non, H', J.os, J.bare, J.base, J.hok, rfl, q⟩
  | ret u =>
    obtain ⟨v, _, H', J, rv, q⟩ := hs
    exact ⟨v, H', J.os, J.bare, J.base, J.hok, rv, q⟩
  | brk => obtain ⟨_, _, _, q⟩ := hs; exact q.elim
  | cont => obtain ⟨_, _, _, q⟩ := hs; exact q.elim
end
/-- .. of a def that no exception leaves -/
theorem okG0_of {P : Program} {w : World} {K : PySem.W.Frag} {mg : Str → Option Value} {base : Heap} {k : Nat} {f : Addr} {fd : FuncData} {ps : List Str} {sp : Sp} {x qual : Str} {st : Stmt} {N : List Str} (F : Fun K x qual st f fd) (S : FnScope N ps (defScope st)) (len : ∀ vs H Q E, sp vs H Q E → vs.length = ps.length)
    (hbody : ∀ (cdv : Value) (A : Around) (outer : List Env) (s : Shared) (H : Hp) (vs : List V) (Q : VK) (E : XK), A.guards = some [] → Room k (A.deeper (envOfC qual (defScope st) s.heap.objs.size f cdv)) → sp vs H Q E →
      ∃ t, PSs (cxOf CX0 P w K mg base N qual (defScope st) f cdv A outer s H E).nox (defBody st) t ∧ t { nx := fun _ H' => Q .non H', rt := Q } (start N vs) H) : FnOkG P w K mg base CX0 (k + 1) f fd ps sp := by
  refine okG_of F S len fun cdv A outer s H vs Q E hgd hr hsp => ?_
  obtain ⟨t, h, q⟩ := hbody cdv A outer s H vs Q E hgd hr hsp
  exact ⟨t, h.nox, q⟩
section
variable {X : Cx} {k : Nat} {f : Addr} {fd : FuncData} {ps : List Str} {sp : Sp} {CX : CXT} {E : XK} {ds : List Value} {dvs : List V} {x : Str} {p pos : Pos} {e : Expr} {es : List Expr} {t : TA}
/-- a call of such a def -/
theorem pe_callG (hgd : X.A.guards = some []) (F : FnOkG X.prog X.w X.K X.mg X.base CX k f fd ps sp) (hr : Room k X.A) (hg : Gl X x) (hm : X.mg x = some (.ref f)) (hk : PySem.W.keepIn X.K (.ref f) = true) (hb : Binds X.K fd ps ds) (hd : Vals dvs ds) (hx : Passes CX X E)
    (ha : PA X (e :: es) t) (hdb : (x == ("__debug__" : Str)) = false := by decide) (he : starEach (e :: es) X.env = (false, eval e X.env) :: starEach es X.env := by rfl) (hpl : (backTo pos (starEach es X.env)).any (·.1) = false := by rfl) :
    PE X (.Call (.Name x p) (e :: es) [] pos) (tCall sp dvs E t) := by
  constructor
  intro pins s σ H Q I h
  refine wpAny_Call_Name_kw (ld_glob I hg hm (PySem.W.callWith_K (h₀ := X.base) I.ok.mod.kin hk (thn (ha.run pos pins s σ H _ I h) fun us s1 got => ?_) he hpl) hdb)
  obtain ⟨vs, H1, I1, r, q⟩ := got
  have r2 : Vals (vs ++ dvs) (us ++ ds) := r.append hd
  have hl : (us ++ ds).length = ps.length := by rw [← F.len _ _ _ _ q, r2.length]
  refine ⟨I1.kIn, wpAny_call (codeAny_mono (F.run X.A X.stack s1 H1 ⟨us, []⟩ (us ++ ds) (vs ++ dvs) Q E hgd hr I1.env0 (hb s1 us I1.kIn hl) r2 q) ?_)⟩
  intro res s' hq
  match res, hq with
  | .error e, hq => exact hx pins σ H1 s1 e s' I1 hq
  | .ok (.ret u), hq => exact I1.after hq
  | .ok .next, hq => exact hq.elim
  | .ok .brk, hq => exact hq.elim
  | .ok .cont, hq => exact hq.elim
end
/-- the law's call, where nothing is being shown -/
theorem law_callG {P : Program} {w : World} {K : PySem.W.Frag} {mg mb : Str → Option Value} {CX : CXT} {k : Nat} {fa a : Addr} {fd : FuncData} {x : Str} {sp : Sp} {s₁ : Shared} {vs : List Value} {ns : List Int}
    (KX : K.In s₁.heap) (hns : s₁.heap.Ns mainGlobals mg) (hb : s₁.heap.Ns builtinsNs mb) (hbb : ∀ x : Str, x ≠ "__name__" → mb x = bootBuiltins x) (hlim : s₁.heap.NoLimit) (hsy : ∃ m, s₁.heap.Ns sysModules m) (hg : s₁.gens = #[])
    (ha : s₁.heap.get? a = some { cls := .type "list", data := .seq vs.toArray }) (hi : IntsAre vs ns) (hl : ns.length ≤ sizeLine) (hr : Room k callerA)
    (F : ∀ base : Heap, K.In base → base.Ns mainGlobals mg → (base.get? sysModules).isSome = true → FnOkG P w K mg base CX k fa fd [x] sp) (hbind : ∀ (s : Shared) (u : Value), BindsTo s fd ⟨[u], []⟩ [(x, u)])
    (hsp : ∀ H : Hp, Only H → SqL K H a (ns.map V.int) → sp [.ref a] H (fun v _ => v = .bl true) fun _ _ _ => False)
    (hCX : ∀ H e s', CX [] H s₁ (fun _ _ _ => False) e s' → False) :
    codeAny (model P w) callerA (.call (.ref fa) ⟨[.ref a], []⟩) (fun r s' => r = .ok (.ret (.bool true)) ∧ OldK s₁.heap s'.heap ∧ s'.os = s₁.os ∧ AllBare s'.gens) s₁ := by
  have rv := vals_ints hi
  have noE : ∀ b : Addr, b ∉ ([] : List Addr) := fun b z => absurd z List.not_mem_nil
  -- H: an abstract heap in which the script alone may be tracked
  have core : ∀ H : Hp, Only H → SqL K H a (ns.map V.int) → HOk P w H s₁.heap → (∀ b, H b ≠ none → b = a ∧ K.lookup a = none) →
      codeAny (model P w) callerA (.call (.ref fa) ⟨[.ref a], []⟩) (fun r s' => r = .ok (.ret (.bool true)) ∧ OldK s₁.heap s'.heap ∧ s'.os = s₁.os ∧ AllBare s'.gens) s₁ := by
    intro H hO hS hok hA
    have free : ∀ {b : Addr} {o : Obj} {es : Array DictEntry} {ep : Nat}, s₁.heap.get? b = some o → o.data = .dict es ep → H b = none := by
      intro b o es ep e d
      cases q : H b with
      | none => rfl
      | some u =>
        have z := (hA b (by rw [q]; exact (fun z => nomatch z))).1
        rw [z, ha] at e
        cases e
        exact nomatch d
    have ns_ : ∀ {b : Addr} {m : Str → Option Value}, s₁.heap.Ns b m → (hidT s₁.heap H).Ns b m := fun {b m} h => by
      obtain ⟨o, es, ep, e, d, r⟩ := h
      exact ⟨o, es, ep, hidT_get e (free e d), d, r⟩
    have kin : K.In (hidT s₁.heap H) := by
      intro b o e
      refine hidT_get (KX b o e) ?_
      cases q : H b with
      | none => rfl
      | some u =>
        obtain ⟨z1, z2⟩ := hA b (by rw [q]; exact (fun z => nomatch z))
        rw [z1, z2] at e
        cases e
    have sys : ((hidT s₁.heap H).get? sysModules).isSome = true := by
      obtain ⟨m, hm⟩ := hsy
      obtain ⟨o, es, ep, e, _⟩ := ns_ hm
      rw [e]; rfl
    have md : Mod K mg (hidT s₁.heap H) := ⟨kin, ns_ hns, ⟨mb, ns_ hb, hbb⟩, by obtain ⟨mc, h1, h2⟩ := hlim; exact ⟨mc, ns_ h1, h2⟩⟩
    have e0 : Env0 P w K mg (hidT s₁.heap H) callerA [] s₁ H := ⟨rfl, md, fun b o e => of_hidT e, Nat.le_of_eq (hidT_size _ _), trivial, fun b z => absurd z (noE b), hok, .of_eq hg⟩
    refine codeAny_mono ((F _ kin (ns_ hns) sys).run callerA [] s₁ H ⟨[.ref a], []⟩ [.ref a] [.ref a] _ _ rfl hr e0 (hbind s₁ (.ref a)) (.cons rfl .nil) (hsp H hO hS)) ?_
    intro r s' h
    match r, h with
    | .error e, h => exact (hCX H e s' h).elim
    | .ok .next, h => exact h.elim
    | .ok .brk, h => exact h.elim
    | .ok .cont, h => exact h.elim
    | .ok (.ret u), h =>
      obtain ⟨v, H', os, bare, un, hok', r', q⟩ := h
      have q' : v = .bl true := q
      subst q'
      obtain rfl : u = Value.bool true := r'
      refine ⟨rfl, OldK.of_keep fun b o e => ?_, os, bare⟩
      cases q : H b with
      | none => exact un.keep b o e q (noE b) (noE b)
      | some u =>
        cases hO b with
        | inl z => rw [q] at z; cases z
        | inr z =>
          obtain ⟨ob, xs, z⟩ := z
          have e1 := (hok b _ z).1
          have e2 := (hok' b _ (un.frzs b ob _ z)).1
          rw [e] at e1
          cases e1
          exact e2
  cases hk : K.lookup a with
  | some o =>
    have e := KX a o hk
    rw [ha] at e
    cases e
    exact core (fun _ => none) (fun _ => .inl rfl) (.inr ⟨_, vs.toArray, _, hk, rfl, rfl, rfl, by rw [List.size_toArray, hi.length]; exact hl, by simpa using rv⟩) (fun b u z => nomatch z) fun b z => absurd rfl z
  | none =>
    have at_ : ∀ b, (if b = a then some (HO.frz { cls := .type "list", data := .seq vs.toArray } (.lst (ns.map V.int))) else none) ≠ none → b = a := fun b z => by
      by_cases q : b = a
      · exact q
      · exact absurd (if_neg q) z
    refine core (fun b => if b = a then some (.frz { cls := .type "list", data := .seq vs.toArray } (.lst (ns.map V.int))) else none) (fun b => ?_) (.inl (.inr ⟨{ cls := .type "list", data := .seq vs.toArray }, if_pos rfl⟩)) (fun b u z => ?_) fun b z => ⟨at_ b z, hk⟩
    · by_cases q : b = a
      · exact .inr ⟨_, _, if_pos q⟩
      · exact .inl (if_neg q)
    · have q := at_ b (by rw [show (if b = a then _ else none) = some u from z]; exact (fun z => nomatch z))
      subst q
      have z' := (if_pos rfl).symm.trans z
      cases z'
      exact ⟨ha, by rw [List.length_map]; exact hl, vs, _, rv, ha⟩
theorem walk_ofG {l : PySem.W.OpenLaw} {n k : Nat} {q : Program} {loose : List Str} {XP : (Str → Option Value) → Heap → Prop} {YP : World → Heap → Prop} {d : DefRec} {K : Params → PySem.W.Frag} {CX : World → CXT} {sp : World → Sp} {x : Str}
    (hn : l.most = some n) (hn2 : n ≤ sizeLine) (hdf : d.params.defaults = []) (hr : Room k callerA) (hin : importsNone q = true)
    (hY : ∀ (w : World) (h : Heap), YP w h → (K w.params).In h)
    (F : ∀ (w : World) (mg : Str → Option Value) (fa : Addr) (h : Heap), (K w.params).In h → h.Ns mainGlobals mg → mg d.name = some (.ref fa) →
      ∃ fd : FuncData, (∀ (s : Shared) (u : Value), BindsTo s fd ⟨[u], []⟩ [(x, u)]) ∧
        ∀ base : Heap, (K w.params).In base → base.Ns mainGlobals mg → (base.get? sysModules).isSome = true → FnOkG l.prog w (K w.params) mg base (CX w) k fa fd [x] (sp w))
    (hsp : ∀ (w : World) (H : Hp) (a : Addr) (ns : List Int), ns.length ≤ n → Only H → SqL (K w.params) H a (ns.map V.int) → sp w [.ref a] H (fun v _ => v = .bl true) fun _ _ _ => False)
    (hCX : ∀ (w : World) (H : Hp) (s : Shared) (e : Value) (s' : Shared), CX w [] H s (fun _ _ _ => False) e s' → False) :
    PySem.W.WalkO q loose XP YP l.row.toRowW d [] (fun f vs => PySem.call f vs) := by
  refine Att.attach_call hn hdf ?_
  intro w s₀ s₁ mg mb fa o pm cd doc a vs ns G Y ho hd hcd hmg hobj hints hlen hg
  obtain ⟨fd, hb, hF⟩ := F w mg fa _ (hY w _ Y) G.T.g hmg
  exact law_callG (hY w _ Y) G.T.g G.T.b G.T.builtins G.T.nolimit (by obtain ⟨m, hm, _⟩ := (G.T.seer hin).mods; exact ⟨m, hm⟩) hg hobj hints (Nat.le_trans hlen hn2) hr hF hb (fun H hO hS => hsp w H a ns hlen hO hS) fun H e s' => hCX w H s₁ e s'
end My

/-! ## exceptions of the text's own classes, kept as values -/
namespace My
open PySem PySem.Spec PyProof.Rows L2
inductive Er | NoBase | NoNumber | NoFigures | NoRule | NoStand | NoGood | Endless | NoRules | NoStretch | TooMany | NoText | NoName | NoRow
  deriving DecidableEq
/-- where the classes stand -/
class ErT where
  ad : Er → Addr
  lack : Addr
/-- an exception of the class at C, whatever has become of its trace -/
def EV (C a : Addr) : HO := .ext fun h => ∃ (oe : Obj) (vs : Array Value), h.get? a = some oe ∧ Zc (.ref C) none oe ∧ oe.data = .fields vs
theorem EV_ok {P : Program} {w : World} {H : Hp} {h : Heap} {C a : Addr} {oe : Obj} {vs : Array Value} (e : h.get? a = some oe) (z : Zc (.ref C) none oe) (d : oe.data = .fields vs) : ObjOk P w H h a (EV C a) :=
  ⟨⟨oe, vs, e, z, d⟩, ⟨oe, e⟩, fun _ _ ⟨o, v, q, r⟩ k => ⟨o, v, k o q, r⟩⟩
section
variable [ErT] {F N H : Hp} {v : V} {α ρ : Type}
/-- an exception, or None -/
def RX (F : Hp) (v : V) : Option Er → Prop
  | none => v = .non
  | some e => ∃ a, v = .ref a ∧ F a = some (EV (ErT.ad e) a)
theorem RX.mono {o : Option Er} (s : Sub F N) (h : RX F v o) : RX N v o := by
  cases o with
  | none => exact h
  | some e => obtain ⟨a, h1, h2⟩ := h; exact ⟨a, h1, s _ _ h2⟩
theorem RX.isN {o : Option Er} (h : RX F v o) : decide (v = .non) = o.isNone := by
  cases o with
  | none => cases (show v = .non from h); rfl
  | some e => obtain ⟨a, rfl, _⟩ := h; rfl
theorem ev_isNX {ta : TE} {σ : L2.St} {o : Option Er} (ha : Evl.Ev ta σ H v) (h : RX F v o) : Evl.Ev (tIsN ta) σ H (.bl o.isNone) := fun H1 e Q q =>
  ha H1 e _ fun H2 e2 => by
    show Q (.bl (decide (v = .non))) H2
    rw [h.isN]; exact q H2 e2
theorem ev_notNX {ta : TE} {σ : L2.St} {o : Option Er} (ha : Evl.Ev ta σ H v) (h : RX F v o) : Evl.Ev (tNotN ta) σ H (.bl (!o.isNone)) := fun H1 e Q q =>
  ha H1 e _ fun H2 e2 => by
    show Q (.bl (!decide (v = .non))) H2
    rw [h.isN]; exact q H2 e2
end
/-- what comes back, or the way out -/
def exB {α ρ : Type} (r : Except Er α) (k : α → Option ρ) (ke : Er → Option ρ) : Option ρ := match r with | .ok x => k x | .error e => ke e
theorem exB_ok {α ρ : Type} {x : α} {k : α → Option ρ} {ke : Er → Option ρ} : exB (.ok x) k ke = k x := rfl
theorem exB_err {α ρ : Type} {e : Er} {k : α → Option ρ} {ke : Er → Option ρ} : exB (.error e) k ke = ke e := rfl

/-! #### data of any kind, seen at a type -/
class UD (α : Type) [TD α] where
  un : PyData → Option α
  ok : ∀ d x, un d = some x → TD.d x = d
instance : UD Int := ⟨asInt, fun d x e => by cases d <;> first | (cases e; rfl) | cases e⟩
instance : UD Bool := ⟨asBl, fun d x e => by cases d <;> first | (cases e; rfl) | cases e⟩
instance : UD Str := ⟨asStr, fun d x e => by cases d <;> first | (cases e; rfl) | cases e⟩
instance : UD PyData := ⟨some, fun d x e => by cases e; rfl⟩
def unAll {α : Type} [TD α] [UD α] : List PyData → Option (List α)
  | [] => some []
  | d :: ds => (UD.un d).bind fun x => (unAll ds).bind fun xs => some (x :: xs)
theorem unAll_ok {α : Type} [TD α] [UD α] : ∀ (ds : List PyData) (xs : List α), unAll ds = some xs → xs.map TD.d = ds
  | [], xs, e => by cases e; rfl
  | d :: ds, xs, e => by
    obtain ⟨x, hx, e⟩ := Option.bind_eq_some_iff.mp e
    obtain ⟨ys, hy, e⟩ := Option.bind_eq_some_iff.mp e
    cases e
    rw [List.map_cons, UD.ok d x hx, unAll_ok ds ys hy]
instance {α : Type} [TD α] [UD α] : UD (List α) := ⟨fun d => match d with | .list ds => unAll ds | _ => none, fun d xs e => by
  cases d with
  | list ds => exact congrArg PyData.list (unAll_ok ds xs e)
  | _ => cases e⟩
instance {α β : Type} [TD α] [UD α] [TD β] [UD β] : UD (α × β) := ⟨fun d => match d with | .tuple [a, b] => (UD.un a).bind fun x => (UD.un b).bind fun y => some (x, y) | _ => none, fun d p e => by
  match d, e with
  | .tuple [a, b], e =>
    obtain ⟨x, hx, e⟩ := Option.bind_eq_some_iff.mp e
    obtain ⟨y, hy, e⟩ := Option.bind_eq_some_iff.mp e
    cases e
    show PyData.tuple [TD.d x, TD.d y] = _
    rw [UD.ok a x hx, UD.ok b y hy]⟩
theorem un_of {α : Type} [TD α] [UD α] {F : Hp} {v : V} {d : PyData} {x : α} (h : RD F v d) (e : UD.un d = some x) : R F v x := by
  show RD F v (TD.d x)
  rw [UD.ok d x e]; exact h
/-! #### what the text says of a class -/
abbrev veT : List Value := [.type "ValueError", .type "Exception", .type "BaseException", .type "object"]
/-- made and raised -/
structure ErRaise (K : PySem.W.Frag) (mg : Str → Option Value) (n : Str) (C : Addr) : Prop where
  g : mg n = some (.ref C)
  x : PySem.W.excIn K C veT "ValueError.__new__" = true
  k : PySem.W.keepIn K (.ref C) = true
  b : PySem.W.subIn K (.ref C) (.type "BaseException") = some true
  t : PySem.W.typeIn K (.ref C) = some (.type "type")
def ers : List Er := [.NoBase, .NoNumber, .NoFigures, .NoRule, .NoStand, .NoGood, .Endless, .NoRules, .NoStretch, .TooMany, .NoText, .NoName, .NoRow]
def adOf (a1 a2 a3 a4 a5 a6 a7 a8 a9 a10 a11 a12 a13 : Addr) : Er → Addr
  | .NoBase => a1 | .NoNumber => a2 | .NoFigures => a3 | .NoRule => a4 | .NoStand => a5 | .NoGood => a6 | .Endless => a7
  | .NoRules => a8 | .NoStretch => a9 | .TooMany => a10 | .NoText => a11 | .NoName => a12 | .NoRow => a13
theorem mem_ers (e : Er) : e ∈ ers := by cases e <;> decide
@[reducible] def Er.nm : Er → Str
  | .NoBase => "NoBase" | .NoNumber => "NoNumber" | .NoFigures => "NoFigures" | .NoRule => "NoRule" | .NoStand => "NoStand" | .NoGood => "NoGood" | .Endless => "Endless"
  | .NoRules => "NoRules" | .NoStretch => "NoStretch" | .TooMany => "TooMany" | .NoText => "NoText" | .NoName => "NoName" | .NoRow => "NoRow"
/-- what is asked of the written part, class by class -/
def erB (K : PySem.W.Frag) (L C : Addr) : Bool :=
  PySem.W.excIn K C veT "ValueError.__new__" && (PySem.W.keepIn K (.ref C) && (PySem.W.subIn K (.ref C) (.type "BaseException") == some true && (PySem.W.typeIn K (.ref C) == some (.type "type") &&
  (PySem.W.findIn K (.ref C) "__getattribute__" == some (some (.builtin "BaseException.__getattribute__")) && (PySem.W.findIn K (.ref C) "__getattr__" == some none && (PySem.W.hasDictIn K C &&
  (PySem.W.findIn K (.ref C) "__class__" == some (some (.builtin "object.__class__")) && (PySem.W.mroIn K C (.type "object") == some true && (PySem.W.exmOne K (.ref C) (.ref L) == some true &&
  (PySem.W.kitOne K (.type "NoneType") (.ref C) == some false && PySem.W.kitOne K (.ref C) (.type "ValueError") == some true))))))))))
def erAllB [ErT] (K : PySem.W.Frag) : Bool :=
  ers.all (fun e => erB K ErT.lack (ErT.ad e) && ers.all fun f => PySem.W.kitOne K (.ref (ErT.ad e)) (.ref (ErT.ad f)) == some (decide (e = f))) &&
  (PySem.W.specialIn K (.builtin "object.__class__") "__get__" == some (some (.builtin "getset_descriptor.__get__")) && (PySem.W.takesIn K (.builtin "object.__class__") == some true && PySem.W.kitOne K (.type "NoneType") (.type "ValueError") == some false))
/-- what the text says of all its exceptions -/
structure ErTxt [ErT] (K : PySem.W.Frag) (mg : Str → Option Value) : Prop where
  r : ∀ e : Er, ErRaise K mg e.nm (ErT.ad e)
  lg : mg "LackError" = some (.ref ErT.lack)
  c : ∀ e : Er, ExcC K (ErT.ad e)
  m : ∀ e : Er, PySem.W.exmOne K (.ref (ErT.ad e)) (.ref ErT.lack) = some true
  kit : ∀ e f : Er, PySem.W.kitOne K (.ref (ErT.ad e)) (.ref (ErT.ad f)) = some (decide (e = f))
  non : ∀ f : Er, PySem.W.kitOne K (.type "NoneType") (.ref (ErT.ad f)) = some false
  ve : ∀ e : Er, PySem.W.kitOne K (.ref (ErT.ad e)) (.type "ValueError") = some true
  nv : PySem.W.kitOne K (.type "NoneType") (.type "ValueError") = some false
theorem erTxt_mk [ErT] {K : PySem.W.Frag} {mg : Str → Option Value} (b : erAllB K = true) (g : ∀ e : Er, mg e.nm = some (.ref (ErT.ad e))) (lg : mg "LackError" = some (.ref ErT.lack)) : ErTxt K mg := by
  unfold erAllB at b
  simp only [Bool.and_eq_true, beq_iff_eq] at b
  obtain ⟨b1, b2, b3, b4⟩ := b
  have b1 := fun e => List.all_eq_true.mp b1 e (mem_ers e)
  simp only [Bool.and_eq_true] at b1
  have h := fun e => (b1 e).1
  unfold erB at h
  simp only [Bool.and_eq_true, beq_iff_eq] at h
  exact ⟨fun e => ⟨g e, (h e).1, (h e).2.1, (h e).2.2.1, (h e).2.2.2.1⟩, lg, fun e => ⟨(h e).2.2.2.2.1, (h e).2.2.2.2.2.1, (h e).2.2.1, (h e).2.2.2.2.2.2.1, (h e).2.2.2.2.2.2.2.1, b2, b3, (h e).2.2.2.2.2.2.2.2.1⟩,
    fun e => (h e).2.2.2.2.2.2.2.2.2.1, fun e f => by
      have := List.all_eq_true.mp (b1 e).2 f (mem_ers f)
      exact beq_iff_eq.mp this, fun f => (h f).2.2.2.2.2.2.2.2.2.2.1, fun e => (h e).2.2.2.2.2.2.2.2.2.2.2, b4⟩
section
variable {X : Cx}
theorem ps_raiseE {W : WX} {x m : Str} {C : Addr} {j : Nat} {p p2 p3 pos : Pos} (hc : X.calm = true) (tk : Takes X W) (T : ErRaise X.K X.mg x C) (hg : Gl X x) (hdb : (x == ("__debug__" : Str)) = false := by decide) :
    PS X (.Raise (some (.Call (.Name x p) [.Constant (.str m) j p2] [] p3)) none pos) (fun _ σ H => W (.ref C) none σ H) :=
  ps_raise hc tk (pmk_own PySem.F.excBase_ValueError T.x T.g T.k (raises_own T.b T.t) hg hdb)
theorem takesN : Takes X (fun _ _ _ _ => False) := fun _ _ x => by
  obtain ⟨_, _, _, _, _, _, _, _, _, _, _, _, _, _, _, _, z⟩ := x
  exact z.elim
end

/-! #### a try whose except suite keeps what was raised -/
section
variable {X : Cx} {pins : List (Addr × Obj)} {σ : L2.St} {H : Hp} {sI s s' : Shared} {B : Heap}
/-- on the ground, the exception tracked from here on -/
theorem landedX (I : Inv X pins σ H sI) (nb : ∀ b o, sI.heap.get? b = some o → b ∉ frs X.stack → B.get? b = some o) (st : B.StaysIn s'.heap) (up : sI.heap.UpToSlots s'.heap) (os : s'.os = sI.os) (ag : AllBare s'.gens)
    {a C : Addr} {oe : Obj} {vs : Array Value} (hB : B.get? a = none) (nf : a ∉ frs X.stack) (na : H a = none) (he : s'.heap.get? a = some oe) (hz : Zc (.ref C) none oe) (hd : oe.data = .fields vs) : Inv X pins σ (upd H a (EV C a)) s' := by
  have hI : ∀ b o, sI.heap.get? b = some o → b ≠ a := fun b o e z => by
    subst z
    have := nb b o e nf
    rw [hB] at this; cases this
  have nF : ∀ b ∈ frs X.stack, ∀ o, sI.heap.get? b = some o → ∃ sl, s'.heap.get? b = some { o with slots := sl } := fun b hb o e => by
    obtain ⟨_, o', e', hdd⟩ := I.stack.mem hb
    rw [e] at e'; cases e'
    exact up b o e hdd
  have J := I.call (ch := []) (h' := s'.heap) (g' := s'.gens) (t' := s'.toks) (d' := s'.drawn) (H' := upd H a (EV C a))
    ⟨fun b o e _ hb _ => st b o (nb b o e hb), fun b o e _ hb _ => nF b hb o e, fun b o e n _ => by rw [upd_ne (hI b o e)]; exact n, fun b o e _ => by
      by_cases hb : b ∈ frs X.stack
      · obtain ⟨sl, q⟩ := nF b hb o e
        exact ⟨_, q⟩
      · exact ⟨o, st b o (nb b o e hb)⟩, fun b xs e => by rw [upd_ne (ne_of_none e na)]; exact e, fun b o u e => by rw [upd_ne (ne_of_none e na)]; exact e, fun b ps e => ⟨#[], by rw [upd_ne (ne_of_none e na), e]; simp⟩⟩
    (HOk.laidN (I.inGround nb) st na (EV_ok he hz hd)) ag (fun _ z => nomatch z)
  obtain ⟨a1, a2, a3, a4, a5⟩ := s'
  have e5 : a5 = sI.os := os
  subst e5
  exact J
theorem toSuite (I : Inv X pins σ H s) (a : Addr) : Inv (X.suite a (X.pn ++ pins)) [] σ H s :=
  ⟨I.ok.suite _ _, I.os, I.bare, I.base, I.loc, I.cell, I.free, I.freeC, fun p hp => I.pin p (by rw [List.append_nil] at hp; exact hp), I.hok, I.len⟩
theorem ofSuite {a : Addr} {pn' : List (Addr × Obj)} (I : Inv (X.suite a (X.pn ++ pins)) pn' σ H s) (ok : X.Ok) : Inv X pins σ H s :=
  ⟨ok, I.os, I.bare, I.base, I.loc, I.cell, I.free, I.freeC, fun p hp => I.pin p (List.mem_append_left _ hp), I.hok, I.len⟩
end
/-- the wish of such a clause: any exception of the text that L takes in -/
def wKeep (K : PySem.W.Frag) (L : Value) (i : Nat) (ts : TS) (D : Ends) : WX := fun cls d σ H =>
  ∃ C, cls = .ref C ∧ d = none ∧ PySem.W.exmOne K cls L = some true ∧
    ∀ a, H a = none → ts { nx := fun σ' H' => D.nx (σ'.set i none) H', rt := D.rt, bk := fun σ' H' => D.bk (σ'.set i none) H', ct := fun σ' H' => D.ct (σ'.set i none) H' } (σ.set i (some (.ref a))) (upd H a (EV C a))
section
variable {X : Cx} {x n : Str} {L : Value} {i : Nat} {body suite : List Stmt} {b₀ : Stmt} {np pos pos' : Pos} {tb : WX → TS} {ts : TS}
theorem ps_try_keep (hs : X.stack = X.env :: X.outer) (hf : X.env.frame = some X.env.locals) (hN : X.N.Nodup) (hi : X.N[i]? = some n) (hln : X.env.kindOf n = some .local) (hc : Names X x L)
    (hb : ∀ (W : WX) (pn : List (Addr × Obj)) (xe : Value → Shared → Prop), Takes (X.tr pn xe) W → PassesOwn (model X.prog X.w) X.A X.env xe → PSs (X.tr pn xe) body (tb W))
    (hsu : ∀ (a : Addr) (pn : List (Addr × Obj)), PSs (X.suite a pn) (b₀ :: suite) ts) :
    PS X (.Try body [.ExceptHandler (some (.Name x np)) (some n) (b₀ :: suite) pos'] [] [] pos) (fun D σ H => tb (wKeep X.K L i ts D) D σ H) := by
  constructor
  intro pins s σ H D I h
  have ok := I.ok
  have hfr : X.A.frames = some (X.env :: X.outer) := by rw [ok.frames, hs]
  refine wpAny_Try_except (wpAny_mono ((hb (wKeep X.K L i ts D) (X.pn ++ pins) _ (fun u s' raised => ?_) PassesOwn.looking).run [] s σ H D (I.toTry _) h) (fun f s1 hsp => ?_) (fun e s1 he => he))
  · obtain ⟨a, B, sI, pins', σ', H', cls, d, rfl, J', nb, up, sky, na, os, ag, C, rfl, rfl, hm, hyes⟩ := raised
    have J : Inv X pins σ' H' sI := J'.ofTry ok
    have sky' : Sky B (X.env :: X.outer) a (Zc (.ref C) none) X.env.locals s'.heap := by rw [← hs]; exact sky
    show wpAny (model X.prog X.w) X.A (noteFrame (.ref a) X.env) _ _ _
    refine Sky.land Zc.steady hfr hf sky' fun h3 fl3 up3 => ?_
    have J3 : Inv X pins σ' H' { s' with heap := h3 } := J.landed nb fl3.1 (up.trans up3) os ag
    obtain ⟨oe3, vs3, he3, hz3, hd3⟩ := fl3.there
    have nfr : a ∉ frs X.stack := fun hmem => by
      rw [hs] at hmem
      obtain ⟨_, o', e', hnf⟩ := fl3.2.2.1.mem hmem
      rw [he3] at e'; cases e'
      exact hnf _ hd3
    have S3 : Inv (X.suite a (X.pn ++ pins)) [] σ' H' { s' with heap := h3 } := toSuite J3 a
    refine wpAny_handleBy_cons (codeAny_handlers_test ?_) (by intro q; cases q)
    have LT : PySem.W.Looks (model X.prog X.w) h3 (typeOf (.ref a)) (.ref C) := fun A Q E s k q => wpAny_typeOf_ref (k _ _ he3) (by rw [hz3.1]; exact q)
    have LM := PySem.W.exm_one (M := model X.prog X.w) (J3.kIn) LT hm
    have test : ∀ {Q : Value → Shared → Prop} {E : Value → Shared → Prop}, Q L { s' with heap := h3 } → wpAny (model X.prog X.w) (X.A.mark (some (.ref a))) (eval (.Name x np) X.env) Q E { s' with heap := h3 } := fun {Q E} q => by
      obtain ⟨hg, hdbg, hm | ⟨hm, hv, hnn⟩⟩ := hc
      · exact ld_glob (X := X.suite a (X.pn ++ pins)) S3 hg hm q hdbg
      · exact ld_blt (X := X.suite a (X.pn ++ pins)) S3 hg hm hv q hnn hdbg
    refine test (LM.here ?_)
    refine codeAny_handlers_suite_as ?_
    refine HandSPX.lands_againZ fl3 fun h4 fl4 up4 => ?_
    obtain ⟨oe4, vs4, he4, hz4, hd4⟩ := fl4.there
    have J4 : Inv X pins σ' (upd H' a (EV C a)) { s' with heap := h4 }   := landedX (s' := { s' with heap := h4 }) J nb fl4.1 ((up.trans up3).trans up4) os ag fl4.2.1 nfr na he4 hz4 hd4
    refine store_ok (X := X.suite a (X.pn ++ pins)) (v := .ref a) (toSuite J4 a) hN hi (.inl hln) rfl (fun s5 S5 => ?_) (.inr hln)
    refine wpAny_mono ((hsu a (X.pn ++ pins)).run [] s5 _ _ _ S5 (hyes a na)) (fun f s6 hsp => ?_) (fun _ _ z => False.elim z)
    have fin : ∀ {σ6 : L2.St} {H6 : Hp} {Q : Shared → Prop}, Inv (X.suite a (X.pn ++ pins)) [] σ6 H6 s6 → (∀ s7, Inv X pins (σ6.set i none) H6 s7 → Q s7) →
        wpAny (model X.prog X.w) X.A (do bindName X.env n .none; unbindBehindTheSuite X.env n pos') (fun _ s7 => Q s7) X.xe s6 := fun {σ6 H6 Q} S6 hq => gone_ok (ofSuite S6 ok) hN hi hln hq
    match f, hsp with
    | .next, ⟨_, _, S6, q6⟩ => exact fin S6 fun s7 J7 => ⟨_, _, J7, q6⟩
    | .brk, ⟨_, _, S6, q6⟩ => exact fin S6 fun s7 J7 => ⟨_, _, J7, q6⟩
    | .cont, ⟨_, _, S6, q6⟩ => exact fin S6 fun s7 J7 => ⟨_, _, J7, q6⟩
    | .ret _, ⟨_, _, _, S6, r6, q6⟩ => exact fin S6 fun s7 J7 => ⟨_, _, _, J7, r6, q6⟩
  · match f, hsp with
    | .next, ⟨σ', H', J', q⟩ => exact wpAny_execs_nil ⟨σ', H', J'.ofTry ok, q⟩
    | .brk, ⟨σ', H', J', q⟩ => exact ⟨σ', H', J'.ofTry ok, q⟩
    | .cont, ⟨σ', H', J', q⟩ => exact ⟨σ', H', J'.ofTry ok, q⟩
    | .ret _, ⟨v, σ', H', J', r, q⟩ => exact ⟨v, σ', H', J'.ofTry ok, r, q⟩
end

/-! #### isinstance of what was kept -/
section
variable [ErT] {X : Cx}
/-- isinstance(x, c): x an exception kept, or None -/
def rIsX (K : PySem.W.Frag) : List V → Hp → VK → Prop := fun xs H Q => ∃ (F : Hp) (x c : V) (u : Value) (o : Option Er) (f : Er → Bool), xs = [x, c] ∧ ClsV c u ∧ Sub F H ∧ RX F x o ∧
  PySem.W.kitOne K (.type "NoneType") u = some false ∧ (∀ e, ExcC K (ErT.ad e) ∧ PySem.W.kitOne K (.ref (ErT.ad e)) u = some (f e)) ∧ Q (.bl (match o with | none => false | some e => f e)) H
theorem call_isX : CallR X (.builtin "isinstance") (rIsX X.K) := by
  intro pins s σ H xs us Q I r h
  obtain ⟨F, x, c, u, o, f, rfl, hc, sb, hx, kn, ke, q⟩ := h
  cases o with
  | none =>
    cases (show x = .non from hx)
    exact call_isi pins s σ H _ us Q I r ⟨_, _, _, _, _, rfl, hc, TyX.base .non, kn, q⟩
  | some e =>
    obtain ⟨a, rfl, ha⟩ := hx
    obtain ⟨kc, kf⟩ := ke e
    cases r with
    | cons rx rr =>
      cases rr with
      | cons rt rr =>
        cases rr
        cases rx
        have ec := hc.eq rt
        subst ec
        obtain ⟨⟨oe, vs, hget, hz, hv⟩, _, _⟩ := I.hok a _ (sb _ _ ha)
        have J : PySem.W.InstAt s.heap a oe (ErT.ad e) none := by
          obtain ⟨oc, od, oda, osl⟩ := oe
          obtain ⟨h1, h2⟩ := hz
          dsimp only at h1 h2 hv
          subst h1 h2 hv
          exact ⟨hget, rfl, rfl, trivial⟩
        exact PySem.W.kia_one (PySem.W.handS_kitx_exc kc.hg kc.hk kc.hs kc.hd kc.ha kc.hn kc.ht kc.hm) I.kIn J kf (fun z => nomatch z) fun tk => ⟨.bl (f e), H, I.kept (t' := tk) fun _ _ z => z, rfl, q⟩
end
/-! #### steps -/
theorem x_callS {σ : L2.St} {H : Hp} {Q : VK} {tA : TA} {sp : Sp} {E : L2.St → XK} (h : tA σ H fun vs H1 => sp vs H1 Q (E σ)) : tCallS sp E tA σ H Q := h
section
variable [ErT] {K : PySem.W.Frag} {mg : Str → Option Value}
theorem x_keep {i : Nat} {ts : TS} {D : Ends} {σ : L2.St} {H : Hp} {e : Er} (T : ErTxt K mg)
    (h : ∀ a, H a = none → ts { nx := fun σ' H' => D.nx (σ'.set i none) H', rt := D.rt, bk := fun σ' H' => D.bk (σ'.set i none) H', ct := fun σ' H' => D.ct (σ'.set i none) H' } (σ.set i (some (.ref a))) (upd H a (EV (ErT.ad e) a))) :
    WE (wKeep K (.ref ErT.lack) i ts D) σ (.ref (ErT.ad e)) none H := ⟨_, rfl, rfl, T.m e, h⟩
theorem x_stE {t : TS} {D : Ends} {σ σ' : L2.St} {H : Hp} (e : σ = σ') (h : t D σ' H) : t D σ H := by rw [e]; exact h
theorem x_nxS {D : Ends} {i : Nat} {σ σ' : L2.St} {H : Hp} (e : σ.set i none = σ') (h : D.nx σ' H) : ({ nx := fun σ' H' => D.nx (σ'.set i none) H', rt := D.rt, bk := fun σ' H' => D.bk (σ'.set i none) H', ct := fun σ' H' => D.ct (σ'.set i none) H' } : Ends).nx σ H := by
  show D.nx (σ.set i none) H
  rw [e]; exact h
theorem x_nxE {σ σ' : L2.St} {H : Hp} {P : L2.St → Hp → Prop} (e : σ = σ') (h : P σ' H) : P σ H := by rw [e]; exact h
theorem isiX_er {F H : Hp} {v : V} {o : Option Er} {Q : VK} (T : ErTxt K mg) (s : Sub F H) (h : RX F v o) (f : Er) (q : Q (.bl (decide (o = some f))) H) : rIsX K [v, .ref (ErT.ad f)] H Q :=
  ⟨F, v, _, _, o, fun e => decide (e = f), rfl, ClsV.own _, s, h, T.non f, fun e => ⟨T.c e, T.kit e f⟩, by
    cases o with
    | none => exact q
    | some e =>
      have : decide (some e = some f) = decide (e = f) := decide_eq_decide.mpr Option.some_inj
      rw [this] at q; exact q⟩
theorem isiX_ve {F H : Hp} {v : V} {o : Option Er} {Q : VK} (T : ErTxt K mg) (s : Sub F H) (h : RX F v o) (q : Q (.bl o.isSome) H) : rIsX K [v, .ty "ValueError"] H Q :=
  ⟨F, v, _, _, o, fun _ => true, rfl, ClsV.ty _, s, h, T.nv, fun e => ⟨T.c e, T.ve e⟩, by cases o <;> exact q⟩
theorem RX_none {F : Hp} : RX F .non none := rfl
end

/-! #### dict([(k, v), ..]) of ints -/
def putI (kvs : List (Int × Int)) (k v : Int) : List (Int × Int) :=
  if (kvs.any fun p => decide (p.1 = k)) = true then kvs.map (fun p => if p.1 = k then (p.1, v) else p) else kvs ++ [(k, v)]
def mergeI (kvs more : List (Int × Int)) : List (Int × Int) := more.foldl (fun acc p => putI acc p.1 p.2) kvs
def kvI (p : Int × Int) : Key × V := (.inl p.1, .int p.2)
theorem putK_kvI (kvs : List (Int × Int)) (k v : Int) : putK (kvs.map kvI) (.inl k) (.int v) = (putI kvs k v).map kvI := by
  have e : ((kvs.map kvI).any fun kv => decide (kv.1 = (.inl k : Key))) = kvs.any fun p => decide (p.1 = k) := by
    rw [List.any_map]
    refine congrArg (fun f => kvs.any f) (funext fun p => ?_)
    exact decide_eq_decide.mpr ⟨fun h => Sum.inl.inj h, fun h => congrArg Sum.inl h⟩
  unfold putK putI
  rw [e]
  by_cases h : (kvs.any fun p => decide (p.1 = k)) = true
  · rw [if_pos h, if_pos h, List.map_map, List.map_map]
    refine List.map_congr_left fun p _ => ?_
    by_cases hk : p.1 = k
    · show (if (Sum.inl p.1 : Key) = .inl k then ((Sum.inl p.1 : Key), V.int v) else kvI p) = kvI (if p.1 = k then (p.1, v) else p)
      rw [if_pos hk, if_pos (congrArg Sum.inl hk)]; rfl
    · show (if (Sum.inl p.1 : Key) = .inl k then ((Sum.inl p.1 : Key), V.int v) else kvI p) = kvI (if p.1 = k then (p.1, v) else p)
      rw [if_neg hk, if_neg fun e => hk (Sum.inl.inj e)]
  · rw [if_neg h, if_neg h, List.map_append]; rfl
theorem mergeK_kvI : ∀ (more kvs : List (Int × Int)), mergeK (kvs.map kvI) (more.map kvI) = (mergeI kvs more).map kvI
  | [], _ => rfl
  | p :: more, kvs => by
    show mergeK (putK (kvs.map kvI) (.inl p.1) (.int p.2)) (more.map kvI) = (mergeI (putI kvs p.1 p.2) more).map kvI
    rw [putK_kvI, mergeK_kvI more]
theorem mergeK_nil (xs : List (Int × Int)) : mergeK [] (xs.map kvI) = (mergeI [] xs).map kvI := mergeK_kvI xs []
def dictII (xs : List (Int × Int)) : PyData := .dict ((mergeI [] xs).map fun p => (.int p.1, .int p.2))
theorem RKs_kvI {F : Hp} : ∀ kvs : List (Int × Int), RKs F (kvs.map kvI) (kvs.map fun p => (PyData.int p.1, PyData.int p.2))
  | [] => .nil
  | p :: kvs => .int (.int _) (RKs_kvI kvs)
theorem pairs_of {K : PySem.W.Frag} {F H : Hp} (s : Sub F H) : ∀ {us : List V} {xs : List (Int × Int)}, Rs F us xs → ∃ ps : List Addr, us = ps.map V.ref ∧ Paired (fun p kv => SqT K H p [kV kv.1, kv.2]) ps (xs.map kvI)
  | _, [], r => by cases r; exact ⟨[], rfl, .nil⟩
  | _, x :: xs, r => by
    cases r with
    | cons h r =>
      obtain ⟨ps, rfl, hp⟩ := pairs_of (K := K) s (xs := xs) r
      obtain ⟨a, v1, v2, rfl, fa, d1, d2⟩ := tup2_of (α := Int) (β := Int) h
      obtain rfl := int_of d1
      obtain rfl := int_of d2
      exact ⟨a :: ps, rfl, .cons (.inl (.inl (s _ _ fa))) hp⟩
theorem dictII_of {K : PySem.W.Frag} {F H : Hp} {a : Addr} {us : List V} {xs : List (Int × Int)} {Q : VK} (h : H a = some (.lst us)) (s : Sub F H) (r : Rs F us xs) (q : ∀ p, H p = none → Q (.ref p) (upd H p (.dK ((mergeI [] xs).map kvI)))) :
    ∃ (a' : Addr) (ps : List Addr) (kvs : List (Key × V)), [V.ref a] = [.ref a'] ∧ SqL K H a' (ps.map V.ref) ∧ Paired (fun p kv => SqT K H p [kV kv.1, kv.2]) ps kvs ∧ ∀ p, H p = none → Q (.ref p) (upd H p (.dK (mergeK [] kvs))) := by
  obtain ⟨ps, rfl, hp⟩ := pairs_of (K := K) s r
  exact ⟨a, ps, xs.map kvI, rfl, .inl (.inl h), hp, fun p hn => by
    have e : mergeK [] (xs.map kvI) = (mergeI [] xs).map kvI := mergeK_kvI xs []
    rw [e]; exact q p hn⟩
end My

/-! ## texts -/
namespace My
open PySem PySem.Spec PyProof.Rows L2
/-- a constant of the module, a text -/
structure CAtS (mg : Str → Option Value) (nm : Str) (x : Str) where
  t : Tok
  g : mg nm = some (.str x t)
theorem strs_of {F : Hp} : ∀ {us : List V} {xs : List Str}, Rs F us xs → us = xs.map V.str
  | _, [], r => by cases r; rfl
  | _, x :: xs, r => by cases r with | cons h r => cases h; rw [strs_of r]; rfl
theorem x_m1 {to te : TE} {σ : L2.St} {H : Hp} {Q : VK} {r : V → List V → Hp → VK → Prop} (h : to σ H fun x H1 => (∃ a, x = .str a) ∧ te σ H1 fun y H2 => r x [y] H2 Q) : tM1 r to te σ H Q := h
theorem join_of {K : PySem.W.Frag} {H F : Hp} {a : Str} {p : Addr} {us : List V} {ys : List Str} {Q : VK} (h : H p = some (.lst us)) (r : Rs F us ys) (c : (ys.map (·.length)).sum + ys.length * a.length ≤ 16777216) (q : Q (.str (Txt.join a ys)) H) :
    ∃ a' p', ∃ ys : List Str, V.str a = .str a' ∧ [V.ref p] = [.ref p'] ∧ (SqL K H p' (ys.map V.str) ∨ SqT K H p' (ys.map V.str)) ∧ (ys.map (·.length)).sum + ys.length * a'.length ≤ 16777216 ∧ Q (.str (Txt.join a' ys)) H :=
  ⟨a, p, ys, rfl, rfl, .inl (.inl (.inl (by rw [← strs_of r]; exact h))), c, q⟩
theorem join_at {H F : Hp} {p : Addr} {us : List V} {ys : List Str} (h : H p = some (.lst us)) (r : Rs F us ys) : H p = some (.lst (ys.map V.str)) := by rw [← strs_of r]; exact h
theorem ixS_of {z : Str} {i : Int} {c : Nat} {H : Hp} {Q : VK} (hz : z.length ≤ 16777216) (h : atI z.cps.toList i = some c) (q : Q (.str ⟨#[c]⟩) H) : rIxS (.str z) (.int i) H Q :=
  ⟨z, i, c, rfl, rfl, by rw [sizeLine_eq]; exact hz, h, q⟩

/-! #### a text, sign by sign -/
theorem x_iterS {te : TE} {σ : L2.St} {H : Hp} {R : It → Hp → Prop} (h : te σ H fun v H1 => ∃ x, v = .str x ∧ R (Its x) H1) : iStr te σ H R := h
section
variable {g : TG} {tt : TT} {te : TE} {vs : List Nat} {σ : L2.St} {H1 : Hp} {Dl : Addr} {Qd : Hp → Prop}
theorem lc_str {z : Str} (W : List Nat → Hp → Prop) (h0 : W z.cps.toList (upd H1 Dl (.lst [])))
    (hs : ∀ c ts H, W (c :: ts) H → g (.str ⟨#[c]⟩) (wipe σ vs) H fun σ2 H2 => wipe σ2 vs = wipe σ vs ∧ tt σ2 H2 fun b H3 =>
        if b = true then te σ2 H3 fun y H4 => ∃ acc, H4 Dl = some (HO.lst acc) ∧ acc.length < sizeLine ∧ W ts (upd H4 Dl (HO.lst (acc ++ [y]))) else W ts H3) (hd : ∀ H, W [] H → Qd H) :
    ∃ W : Nat → Nat → Hp → Prop, (∃ m, W 0 m (upd H1 Dl (HO.lst []))) ∧ ∀ (i m : Nat) (H : Hp), W i m H → (Its z).stop i H ∧ Qd H ∨
      (Its z).go i H ∧ ∃ Nx : Hp → Prop, (∀ (H' : Hp), Nx H' → ∃ m', m' < m ∧ W (i + 1) m' H') ∧ ∀ (x : V) (H' : Hp), (Its z).yld i H x H' →
        g x (wipe σ vs) H' fun σ2 H2 => wipe σ2 vs = wipe σ vs ∧ tt σ2 H2 fun b H3 => if b = true then te σ2 H3 fun y H4 => ∃ acc, H4 Dl = some (HO.lst acc) ∧ acc.length < sizeLine ∧ Nx (upd H4 Dl (HO.lst (acc ++ [y]))) else Nx H3 := by
  refine lc_it walk_str (fun i H => W (z.cps.toList.drop i) H) (by rw [List.drop_zero]; exact h0) (fun _ _ _ _ => trivial) (fun i x H H' hi h y => ?_) fun H h => ?_
  · obtain ⟨rfl, c, hc, rfl⟩ := y
    have e3 : z.cps.toList[i]? = some c := by rw [Array.getElem?_toList]; exact hc
    have h' : W (z.cps.toList.drop i) H' := h
    rw [drop_cons e3] at h'
    exact hs _ _ _ h'
  · have h' : W (z.cps.toList.drop z.cps.size) H := h
    rw [← Array.length_toList, List.drop_length] at h'
    exact hd H h'
end
theorem strs_Rs {F : Hp} : ∀ ys : List Str, Rs F (ys.map V.str) ys
  | [] => .nil
  | y :: ys => .cons (.str y) (strs_Rs ys)
/-- where a text stands in another one, first -/
def sIdx (a b : Str) : Option Nat := (Builtin.Str.occurrences a b 0 a.length 1).head?
theorem sidx_ex {a b : Str} {i : Nat} (h : sIdx a b = some i) : ∃ rest, Builtin.Str.occurrences a b 0 a.length 1 = i :: rest := by
  unfold sIdx at h
  cases e : Builtin.Str.occurrences a b 0 a.length 1 with
  | nil => rw [e] at h; cases h
  | cons j rest => rw [e] at h; cases h; exact ⟨rest, rfl⟩
theorem split_of {a b : Str} {H : Hp} {Q : VK} (h : (b.length == 0) = false) (c : a.length + 2 ≤ 16777216) (q : rNewStrs (Txt.split a b) H Q) :
    ∃ a' b', V.str a = .str a' ∧ [V.str b] = [.str b'] ∧ (b'.length == 0) = false ∧ a'.length + 2 ≤ sizeLine ∧ rNewStrs (Txt.split a' b') H Q := ⟨a, b, rfl, rfl, h, szle c, q⟩

/-! #### the script, read where it stands -/
def ScR (K : PySem.W.Frag) (H : Hp) (v : V) (ns : List Int) : Prop := ∃ a, v = .ref a ∧ SqL K H a (ns.map V.int)
theorem SqL_gr {K : PySem.W.Frag} {F H N H' : Hp} {a : Addr} {us : List V} (s : SqL K H a us) (g : Gr NA F H N H') : SqL K H' a us := by
  rcases s with (h | ⟨o, h⟩) | h
  · exact .inl (.inl (g.keep _ _ id h))
  · exact .inl (.inr ⟨o, g.keep _ _ id h⟩)
  · exact .inr h
theorem atI_map {α β : Type} {f : α → β} {xs : List α} {i : Int} {x : α} (h : atI xs i = some x) : atI (xs.map f) i = some (f x) := by
  unfold atI at h ⊢
  rw [List.length_map]
  cases e : ixN xs.length i with
  | none => rw [e] at h; cases h
  | some j =>
    rw [e] at h
    have h' : xs[j]? = some x := h
    show (xs.map f)[j]? = _
    rw [List.getElem?_map, h']; rfl

/-! #### dicts that are ours to change -/
structure OwO (H0 F H : Hp) (p : Addr) (o : HO) : Prop where
  at_ : H p = some o
  nf : F p = none
  n0 : H0 p = none
section
variable {A : Addr → Prop} {F0 H0 F F' H N H' : Hp} {p q : Addr} {o o' : HO} {us ws : List V} {as : List Addr} {xs : List (List Int)}
theorem OwO.new (G : Gr A F0 H0 F H) (hp : H p = none) : OwO H0 F (upd H p o) p o := ⟨upd_same, G.sub.none hp, G.fresh hp⟩
theorem OwO.step (w : OwO H0 F H p o) (g : Gr NA F H N H') : OwO H0 N H' p o := ⟨g.keep p _ id w.at_, g.own p (by rw [w.at_]; exact (fun z => nomatch z)) w.nf, w.n0⟩
theorem OwO.stepA (w : OwO H0 F H p o) (g : Gr A F H N H') (h : ¬ A p) : OwO H0 N H' p o := ⟨g.keep p _ h w.at_, g.own p (by rw [w.at_]; exact (fun z => nomatch z)) w.nf, w.n0⟩
theorem OwO.mut (w : OwO H0 F H p o) : OwO H0 F (upd H p o') p o' := ⟨upd_same, w.nf, w.n0⟩
theorem OwO.other (w : OwO H0 F H p o) (h : q ≠ p) : OwO H0 F (upd H q (.lst ws)) p o := ⟨by rw [upd_ne h.symm]; exact w.at_, w.nf, w.n0⟩
theorem OwO.otherO (w : OwO H0 F H p o) (h : q ≠ p) : OwO H0 F (upd H q o') p o := ⟨by rw [upd_ne h.symm]; exact w.at_, w.nf, w.n0⟩
theorem OwO.ne_new (w : OwO H0 F H p o) (hq : H q = none) : p ≠ q := ne_of_none w.at_ hq
theorem OwO.mutG (w : OwO H0 F H p o) (G : Gr A F0 H0 F H) : Gr A F0 H0 F (upd H p o') := G.mut w.n0 w.nf
theorem OwO.frzN (w : OwO H0 F H q o) (h : q ≠ p) (nf : ∀ q, q ≠ p → F q = none → F' q = none) : OwO H0 F' H q o := ⟨w.at_, nf _ h w.nf, w.n0⟩
theorem OwO.ne_fz {l : List Addr} (w : OwO H0 F H q o) (fz : ∀ a ∈ l, H a = none) : q ∉ l := fun h => by have := fz q h; rw [w.at_] at this; cases this
theorem Ow.otherO (w : Ow H0 F H p us) (h : q ≠ p) : Ow H0 F (upd H q o) p us := ⟨by rw [upd_ne h.symm]; exact w.at_, w.nf, w.n0⟩
theorem OwL.otherO (w : OwL H0 F H p as xs) (h : q ∉ p :: as) : OwL H0 F (upd H q o) p as xs := w.keep (fun a o' ha e => by rw [upd_ne (show a ≠ q from fun z => h (by rw [← z]; exact ha))]; exact e) w.nf
end
def RsK {κ α β : Type} [TD β] (key : α → κ) (F : Hp) (kvs : List (κ × V)) (xs : List (α × β)) : Prop := Paired (fun (kv : κ × V) (x : α × β) => kv.1 = key x.1 ∧ R F kv.2 x.2) kvs xs
def getT {α β : Type} [DecidableEq α] (xs : List (α × β)) (k : α) : Option β := (xs.find? fun x => decide (x.1 = k)).map (·.2)
def putT {α β : Type} [DecidableEq α] (xs : List (α × β)) (k : α) (v : β) : List (α × β) :=
  if (xs.any fun x => decide (x.1 = k)) = true then xs.map (fun x => if x.1 = k then (x.1, v) else x) else xs ++ [(k, v)]
section
variable {κ α β : Type} [DecidableEq κ] [DecidableEq α] [TD β] {key : α → κ} {F F' : Hp} {kvs : List (κ × V)} {xs : List (α × β)}
theorem RsK_mono (s : Sub F F') (r : RsK key F kvs xs) : RsK key F' kvs xs := paired_mono r fun _ _ _ h => ⟨h.1, RD.mono s h.2⟩
theorem RsK_len (r : RsK key F kvs xs) : kvs.length = xs.length := prd_len r
theorem RsK_nil : RsK (β := β) key F [] [] := .nil
theorem RsK_get (inj : ∀ a b, key a = key b → a = b) {k : α} : ∀ {kvs : List (κ × V)} {xs : List (α × β)}, RsK key F kvs xs →
    (valV kvs (key k) = none ∧ getT xs k = none) ∨ ∃ v y, valV kvs (key k) = some v ∧ getT xs k = some y ∧ R F v y
  | _, _, .nil => .inl ⟨rfl, rfl⟩
  | _, _, .cons (a := kv) (b := x) h t => by
    obtain ⟨h1, h2⟩ := h
    by_cases e : x.1 = k
    · exact .inr ⟨kv.2, x.2, by simp [valV, h1, e], by simp [getT, e], h2⟩
    · have e1 : ¬ kv.1 = key k := fun z => e (inj _ _ (h1.symm.trans z))
      have a1 : ∀ l, valV (kv :: l) (key k) = valV l (key k) := fun l => by simp [valV, e1]
      have a2 : ∀ l, getT (x :: l) k = getT l k := fun l => by simp [getT, e]
      rw [a1, a2]; exact RsK_get inj t
theorem RsK_any (inj : ∀ a b, key a = key b → a = b) {k : α} (r : RsK key F kvs xs) : (kvs.any fun kv => decide (kv.1 = key k)) = xs.any fun x => decide (x.1 = k) := by
  induction r with
  | nil => rfl
  | cons h _ ih =>
    rw [List.any_cons, List.any_cons, ih, h.1]
    congr 1
    exact decide_eq_decide.mpr ⟨fun z => inj _ _ z, fun z => by rw [z]⟩
theorem RsK_map (inj : ∀ a b, key a = key b → a = b) {k : α} {v : V} {y : β} (hv : R F v y) (r : RsK key F kvs xs) :
    RsK key F (kvs.map fun kv => if kv.1 = key k then (kv.1, v) else kv) (xs.map fun x => if x.1 = k then (x.1, y) else x) := by
  induction r with
  | nil => exact .nil
  | @cons kv x _ _ h t ih =>
    refine .cons ?_ ih
    dsimp only
    by_cases e : x.1 = k
    · rw [if_pos e, if_pos (by rw [h.1, e])]; exact ⟨h.1, hv⟩
    · rw [if_neg e, if_neg fun z => e (inj _ _ (h.1.symm.trans z))]; exact h
theorem RsK_put (inj : ∀ a b, key a = key b → a = b) {k : α} {v : V} {y : β} (hv : R F v y) (r : RsK key F kvs xs) : RsK key F (putK kvs (key k) v) (putT xs k y) := by
  unfold putK putT
  rw [RsK_any inj r]
  by_cases e : (xs.any fun x => decide (x.1 = k)) = true
  · rw [if_pos e, if_pos e]; exact RsK_map inj hv r
  · rw [if_neg e, if_neg e]; exact prd_snoc r ⟨rfl, hv⟩
theorem RsK_getD (inj : ∀ a b, key a = key b → a = b) {k : α} {z : V} {d : β} (hz : R F z d) (r : RsK key F kvs xs) : R F ((valV kvs (key k)).getD z) ((getT xs k).getD d) := by
  rcases RsK_get inj (k := k) r with ⟨a, b⟩ | ⟨v, y, a, b, h⟩
  · rw [a, b]; exact hz
  · rw [a, b]; exact h
end
abbrev keyS : Str → Key := Sum.inr
theorem keyS_inj (a b : Str) (h : keyS a = keyS b) : a = b := Sum.inr.inj h
theorem x_dget2 {td ty tx : TE} {σ : L2.St} {H : Hp} {Q : VK} (h : td σ H fun x H1 => ∃ a, x = .ref a ∧ IsD H1 a ∧ ty σ H1 fun y H2 => tx σ H2 fun z H3 => ∃ o, DGet H3 a y o ∧ Q (o.getD z) H3) : tDGet2 td ty tx σ H Q := h
theorem x_dput {td ty tv : TE} {σ : L2.St} {H : Hp} {D : Ends} (h : tv σ H fun v H1 => td σ H1 fun x H2 => ty σ H2 fun y H3 => ∃ a H4, x = .ref a ∧ DPut H3 a y v H4 ∧ D.nx σ H4) : sDPut td ty tv D σ H := h
theorem isD_k {H : Hp} {a : Addr} {kvs : List (Key × V)} (h : H a = some (.dK kvs)) : IsD H a := .inl ⟨kvs, .inl h⟩
theorem dgetS_of {β : Type} [TD β] {F H : Hp} {a : Addr} {kvs : List (Key × V)} {xs : List (Str × β)} {k : Str} {z : V} {d : β} {Q : VK} (h : H a = some (.dK kvs)) (r : RsK keyS F kvs xs) (hz : R F z d)
    (q : ∀ v, R F v ((getT xs k).getD d) → Q v H) : ∃ o, DGet H a (.str k) o ∧ Q (o.getD z) H := ⟨_, DGet.k (k := keyS k) h, q _ (RsK_getD keyS_inj hz r)⟩
theorem dputS_of {β : Type} [TD β] {F H : Hp} {a : Addr} {kvs : List (Key × V)} {xs : List (Str × β)} {k : Str} {v : V} {Q : Hp → Prop} (h : H a = some (.dK kvs)) (r : RsK keyS F kvs xs) (c : xs.length < 16777216)
    (q : Q (upd H a (.dK (putK kvs (keyS k) v)))) : ∃ a' H4, V.ref a = .ref a' ∧ DPut H a' (.str k) v H4 ∧ Q H4 := ⟨a, _, rfl, DPut.k (k := keyS k) h (szl (by rw [RsK_len r]; exact c)), q⟩

/-! #### a new pair whose list of lists is ours -/
def eraseL (N : Hp) (l : List Addr) : Hp := fun a => if a ∈ l then none else N a
theorem eraseL_ne {N : Hp} {l : List Addr} {a : Addr} (h : a ∉ l) : eraseL N l a = N a := if_neg h
theorem eraseL_mem {N : Hp} {l : List Addr} {a : Addr} (h : a ∈ l) : eraseL N l a = none := if_pos h
section
variable {A B : Addr → Prop} {F0 H0 F H N H' H2 : Hp} {p t : Addr} {as l : List Addr} {us ws : List V} {xs : List (List Int)}
theorem Gr.eraseL (g : Gr A F H N H2) (s : Sub F H) (z : ∀ a ∈ l, H a = none) : Gr A F H (eraseL N l) H2 :=
  ⟨g.keep, g.there, fun a o e => by
    have : a ∉ l := fun q => by have h := s _ _ e; rw [z a q] at h; exact nomatch h
    rw [eraseL_ne this]; exact g.ex a o e, fun a o e => by
    by_cases q : a ∈ l
    · rw [eraseL_mem q] at e; exact nomatch e
    · rw [eraseL_ne q] at e; exact g.sub a o e, fun a h f => by
    by_cases q : a ∈ l
    · exact eraseL_mem q
    · rw [eraseL_ne q]; exact g.own a h f⟩
theorem OwL.ofP (G : Gr A F0 H0 F H) (g : Gr B F H N H') (r : NR H N (.ref p) xs) (nd : xs.Nodup) : ∃ as, OwL H0 (My.eraseL N (p :: as)) H' p as xs ∧ (∀ a ∈ p :: as, H a = none) ∧ ∀ t us, N t = some (.tup us) → My.eraseL N (p :: as) t = some (.tup us) := by
  obtain ⟨p', us, e, fa, fr, np⟩ := NR_lst_of r
  cases e
  obtain ⟨as, w, fz⟩ := OwL.of G g r nd
  refine ⟨as, w.keep (fun _ _ _ e => e) (fun a ha => eraseL_mem ha), fz, fun t us ht => ?_⟩
  rw [eraseL_ne]; exact ht
  intro hm
  have := g.sub _ _ ht
  rcases List.mem_cons.mp hm with e | e
  · subst e; rw [w.at_] at this; cases this
  · obtain ⟨x, e2⟩ := w.mem e
    rw [e2] at this; cases this
end
end My

/-! ## dicts whose keys are tuples of ints, lists handed in and changed -/
namespace My
open PySem PySem.Spec PyProof.Rows L2
/-- a tuple of ints -/
structure TI where
  l : List Int
deriving DecidableEq
instance : TD TI := ⟨fun t => .tuple (t.l.map .int)⟩
instance : TB TI := ⟨1, fun t => by
  show PyData.canLay0 (.tuple (t.l.map TD.d)) = true
  simp only [PyData.canLay0]; exact layAll t.l, fun t => by
  have := depAll t.l
  show PyData.depth (.tuple (t.l.map TD.d)) ≤ _
  simp only [PyData.depth]
  have e : TB.dep Int = 0 := rfl
  omega⟩
def keyT (t : TI) : List Key := t.l.map Sum.inl
theorem keyT_kV (t : TI) : (keyT t).map kV = t.l.map V.int := by unfold keyT; rw [List.map_map]; rfl
theorem keyT_inj (a b : TI) (h : keyT a = keyT b) : a = b := by
  obtain ⟨a⟩ := a
  obtain ⟨b⟩ := b
  unfold keyT at h
  have : a = b := by
    induction a generalizing b with
    | nil => cases b with
      | nil => rfl
      | cons => cases h
    | cons x a ih => cases b with
      | nil => cases h
      | cons y b =>
        rw [List.map_cons, List.map_cons, List.cons.injEq] at h
        rw [Sum.inl.inj h.1, ih b h.2]
  rw [this]
theorem tupi_at {F : Hp} {p : Addr} {us : List V} {xs : List Int} (fa : F p = some (.tup us)) (r : Rs F us xs) : F p = some (.tup ((keyT ⟨xs⟩).map kV)) := by
  rw [fa, keyT_kV, Rs_int r]
theorem mk_tupi {F : Hp} {p : Addr} {us : List V} {xs : List Int} (fa : F p = some (.tup us)) (r : Rs F us xs) : R F (.ref p) (⟨xs⟩ : TI) := .tup fa r
/-- tuples of ints that stand in a heap -/
def TK (H : Hp) (bs : List Addr) (ts : List TI) : Prop := Paired (fun b (t : TI) => H b = some (.tup (t.l.map V.int))) bs ts
section
variable {A : Addr → Prop} {F0 H0 F H N H' : Hp} {p : Addr} {us ws : List V} {bs : List Addr} {ts : List TI}
theorem TK.keep (k : TK H bs ts) (h : ∀ a xs, H a = some (.tup xs) → H' a = some (.tup xs)) : TK H' bs ts := paired_mono k fun _ _ _ e => h _ _ e
theorem TK.gr (k : TK H bs ts) (g : Gr NA F H N H') : TK H' bs ts := k.keep fun a xs e => g.keep a _ id e
theorem TK.mut (k : TK H bs ts) (h : H p = some (.lst us)) : TK (upd H p (.lst ws)) bs ts := k.keep fun a xs e => by
  rw [upd_ne (show a ≠ p from fun z => by rw [z, h] at e; cases e)]; exact e
theorem TK.new {o : HO} (k : TK H bs ts) (h : H p = none) : TK (upd H p o) bs ts := k.keep fun a xs e => by rw [upd_ne (ne_of_none e h)]; exact e
end
/-! #### sorted(d) -/
def rSortDT : List V → Hp → VK → Prop := fun vs H Q => ∃ (d : Addr) (kvs : List (List Key × V)) (ts : List TI), vs = [.ref d] ∧ H d = some (.dT kvs) ∧ kvs.map (·.1) = ts.map keyT ∧ ts.length ≤ 16777216 ∧ (∀ t ∈ ts, t.l ≠ []) ∧
  ∀ p bs, H p = none → TK H bs (sortT ts) → Q (.ref p) (upd H p (.lst (bs.map V.ref)))
theorem each_keys {H : Hp} : ∀ {kvs : List (List Key × V)} {ks : List (List Key × Addr × Value)} {ts : List TI},
    Paired (fun (p : List Key × V) (q : List Key × Addr × Value) => p.1 = q.1 ∧ H q.2.1 = some (.tup (p.1.map kV)) ∧ RelV p.2 q.2.2) kvs ks → kvs.map (·.1) = ts.map keyT →
    PySem.W.EachIs (fun v (t : TI) => ∃ b, v = Value.ref b ∧ H b = some (.tup (t.l.map V.int))) (ks.map fun x => Value.ref x.2.1) ts
  | _, _, [], .nil, _ => .nil
  | _, _, _ :: _, .nil, e => by cases e
  | _, _, [], .cons _ _, e => by cases e
  | _, _, t :: ts, .cons h r, e => by
    rw [List.map_cons, List.map_cons, List.cons.injEq] at e
    exact .cons ⟨_, rfl, by rw [h.2.1, e.1, keyT_kV]⟩ (each_keys r e.2)
theorem ints_reads {h : Heap} : ∀ {ns : List Int} {vs : List Value}, Vals (ns.map V.int) vs → ReadsAll h vs (ns.map PyData.int) []
  | [], _, r => by cases r; exact .nil
  | n :: ns, _, r => by
    cases r with
    | cons h1 h2 =>
      obtain ⟨t, rfl⟩ := h1
      exact ReadsAll.cons (as := []) (bs := []) (Reads.int n t) (ints_reads h2)
theorem of_eachT {H : Hp} : ∀ {vs : List Value} {ts : List TI}, PySem.W.EachIs (fun v (t : TI) => ∃ b, v = Value.ref b ∧ H b = some (.tup (t.l.map V.int))) vs ts → ∃ bs : List Addr, vs = bs.map Value.ref ∧ TK H bs ts
  | _, _, .nil => ⟨[], rfl, .nil⟩
  | _, _, .cons ⟨b, e, h⟩ t => by
    obtain ⟨bs, rfl, k⟩ := of_eachT t
    exact ⟨b :: bs, by rw [e]; rfl, .cons h k⟩
theorem vals_refs' : ∀ bs : List Addr, Vals (bs.map V.ref) (bs.map Value.ref)
  | [] => .nil
  | _ :: r => .cons rfl (vals_refs' r)
theorem call_sortedDT {X : Cx} (hcalm : X.calm = true) (hu : X.A.units + 200 < cLine) : CallR X (.builtin "sorted") rSortDT := by
  intro pins s σ H xs us Q I r q
  obtain ⟨d, kvs, ts, rfl, hd, hks, hl, hne, q⟩ := q
  obtain ⟨u, rfl, rx⟩ := vals1 r
  cases rx
  obtain ⟨z, hs, ks, pr, o, es, ep, ho, hx, hdt, he, hn⟩ := (show ObjOk X.prog X.w H s.heap d (.dT kvs) from I.hok d _ hd)
  have l1 : es.size = ks.length := size_of_entries he
  have l2 : kvs.length = ks.length := Paired.length pr
  have l3 : kvs.length = ts.length := by
    have := congrArg List.length hks
    rw [List.length_map, List.length_map] at this
    exact this
  refine Calls.call_function_entry PyProof.Rows.kind_sorted PyProof.Rows.plain_sorted PyProof.Rows.entry_sorted (PyProof.Rows.args_sorted1 _) ?_
  unfold Builtin.«sorted»
  refine wpAny_bind (m := checkCount "sorted" 1 1 _) (wpAny_pure ?_)
  refine wpAny_bind (PySem.W.kdu_collect (A := X.A.in1) (kdl_raw hs hx hdt) (I.ok.hd hcalm) ho (by omega) fun h' tk acc hk hacc => ?_)
  have ea : acc.toList = ks.map fun x => Value.ref x.2.1 := by
    have hl : acc.toList.length = ks.length := by rw [Array.length_toList, hacc.1]; exact l1
    apply List.ext_getElem?
    intro j
    rw [List.getElem?_map]
    cases hj : acc.toList[j]? with
    | none =>
      have h1 := List.getElem?_eq_none_iff.mp hj
      rw [List.getElem?_eq_none (by omega)]
      all_goals rfl
    | some v =>
      obtain ⟨en, hen, hv⟩ := hacc.2 j v (by rw [← Array.getElem?_toList]; exact hj)
      have qe := entry_at he j
      rw [hen] at qe
      cases hb : ks[j]? with
      | none =>
        rw [hb] at qe
        exact nomatch (show some en = none from qe)
      | some b =>
        rw [hb] at qe
        have e2 : en = entryOfKey (tupleKind (mixKind X.prog X.w)) b := Option.some.inj qe
        rw [hv, e2]
        all_goals rfl
  have I1 : Inv X pins σ H { s with heap := h', toks := tk } := I.kept hk
  have hal : acc.toList.length ≤ sizeLine := by rw [ea, List.length_map]; omega
  refine wpAny_bind (wpAny_newList ?_ hal)
  have hoL : (h'.push (seqObj "list" acc.toList.toArray 0)).get? h'.objs.size = some (seqObj "list" acc.toList.toArray 0) := Heap.get?_push_size _ rfl
  show wpAny _ _ _ _ _ { s with heap := h'.push (seqObj "list" acc.toList.toArray 0), toks := tk }
  have e1 : PySem.W.EachIs (fun v (t : TI) => ∃ b, v = Value.ref b ∧ H b = some (.tup (t.l.map V.int))) acc.toList ts := by rw [ea]; exact each_keys pr hks
  have rd : PySem.W.EachIs (fun v (t : TI) => ∃ as, Reads (h'.push (seqObj "list" acc.toList.toArray 0)) v (TD.d t) as ∧ h'.objs.size ∉ as) acc.toList ts := e1.mono fun v t ⟨b, hv, hb⟩ => by
    obtain ⟨_, its, rv, ⟨o, g1, g2, n, g3⟩⟩ := (show ObjOk X.prog X.w H h' b (.tup (t.l.map V.int)) from I1.hok b _ hb)
    rw [hv]
    refine ⟨[], Reads.tuple (Heap.get?_push_of_some _ g1) g2 g3 ?_, List.not_mem_nil⟩
    exact ints_reads (by rw [List.toList_toArray]; exact rv)
  have alk : PySem.W.AllAlike (ts.map TD.d) := PySem.W.AllAlike.of fun a b => by
    show PySem.W.alike (.tuple (a.l.map PyData.int)) (.tuple (b.l.map PyData.int)) = true
    simp only [PySem.W.alike]
    exact alikeAll_of a.l b.l
  have srt : PySem.W.Sortable (ts.map TD.d) := .inl fun d' hd' => by
    obtain ⟨t, ht, rfl⟩ := List.mem_map.mp hd'
    cases h : t.l with
    | nil => exact absurd h (hne t ht)
    | cons x r => exact ⟨.int x, r.map .int, by show PyData.tuple (t.l.map PyData.int) = _; rw [h]; rfl⟩
  have hul : ∀ b : TI, b ∈ ts → X.A.in1.units + 1 + (TD.d b).depth < cLine := fun b _ => by
    have h1 := TB.dle b
    have h2 : TB.dep TI = 1 := rfl
    have h3 : X.A.in1.units = X.A.units + 1 := rfl
    omega
  refine wpAny_bind (wpAny_holding (wpAny_mono (PySem.W.list_sort_data (A := X.A.in1) (s := { s with heap := h'.push (seqObj "list" acc.toList.toArray 0), toks := tk }) (E := X.xe) (enc := TD.d) (R := fun v (t : TI) => ∃ b, v = Value.ref b ∧ H b = some (.tup (t.l.map V.int)))
    (Q := fun _ s' => (fun v s2 => ∃ x H', Inv X pins σ H' s2 ∧ RelV x v ∧ Q x H') (Value.ref h'.objs.size) s') hoL e1 rd alk srt (by rw [sizeLine_eq]; exact hl) hul fun out ho' eo => ?_) (fun _ s' x => ?_) fun _ _ e => e))
  · obtain ⟨bs, rfl, k⟩ := of_eachT eo
    obtain ⟨e', he'⟩ := PyProof.Rows.sortedHeap_at (vs := acc.toList) (out := (bs.map Value.ref).toArray) hoL
    have hlen : (bs.map V.ref).length ≤ sizeLine := by
      rw [List.length_map] at ho' ⊢
      rw [ho', sizeLine_eq]; exact hl
    refine ⟨.ref h'.objs.size, upd H h'.objs.size (.lst (bs.map V.ref)), I1.laid (t' := tk) (fun b u e => ?_) (Nat.le_refl _)
      (show ObjOk X.prog X.w _ _ _ (.lst (bs.map V.ref)) from ⟨hlen, bs.map Value.ref, e', vals_refs' bs, he'⟩), rfl, q _ bs (I1.hok.fresh (Nat.le_refl _)) k⟩
    have hb : b < h'.objs.size := Heap.lt_size e
    rw [PyProof.Rows.sortedHeap_old (Nat.ne_of_lt hb) (by rw [size_push']; exact Nat.lt_succ_of_lt hb)]
    exact Heap.get?_push_of_some _ e
  · exact wpAny_pure ⟨_, rfl, x⟩
/-! #### d.values() -/
def ItdT (d : Addr) (o : Obj) (kvs : List (List Key × V)) : It :=
  ⟨fun i H => H d = some (.frz o (.dT kvs)) ∧ i < kvs.length, fun i H x H' => H' = H ∧ ∃ k, kvs[i]? = some (k, x), fun i H => H d = some (.frz o (.dT kvs)) ∧ kvs.length ≤ i⟩
theorem frzTv {X : Cx} {pins : List (Addr × Obj)} {σ : L2.St} {H : Hp} {s : Shared} {d : Addr} {o : Obj} {kvs : List (List Key × V)} (I : Inv X pins σ H s) (h : H d = some (.frz o (.dT kvs))) :
    (d == sysModules) = false ∧ s.heap.get? d = some o ∧ o.ExactDict ∧ ∃ (es : Array DictEntry) (ep : Nat), o.data = .dict es ep ∧ es.size = kvs.length ∧
      ∀ (i : Nat) (k : List Key) (v : V), kvs[i]? = some (k, v) → ∃ (en : DictEntry), es[i]? = some en ∧ RelV v en.val := by
  obtain ⟨hd, z, hs, xs, pr, o', es, ep, ho, hx, hdt, he, _⟩ := I.hok d _ h
  rw [hd] at ho
  cases ho
  refine ⟨hs, hd, hx, es, ep, hdt, ?_, fun i k v e => ?_⟩
  · have l1 : es.size = xs.length := size_of_entries he
    have l2 : kvs.length = xs.length := Paired.length pr
    omega
  · obtain ⟨b, hb, e1, e2, e3⟩ := paired_get pr e
    have q := entry_at he i
    rw [hb] at q
    exact ⟨_, q, e3⟩
theorem dict_ep' {o : Obj} {es es' : Array DictEntry} {ep ep' : Nat} (a : o.data = .dict es ep) (b : o.data = .dict es' ep') : es' = es ∧ ep' = ep := by
  rw [a] at b; cases b; exact ⟨rfl, rfl⟩
theorem turn_valsT {P : Program} {w : World} {K : PySem.W.Frag} {tg : Expr} {d : Addr} {o : Obj} {es : Array DictEntry} {ep : Nat} {kvs : List (List Key × V)} (it : Addr) (hod : o.data = .dict es ep) : Turn P w K tg (ItdT d o kvs) [it] it (fun i h => h.IsValIter it d i kvs.length ep) where
  mem := by simp
  obj := fun i h st b hb => by
    have e : b = it := by simpa using hb
    subst e
    obtain ⟨oi, e, c, dd⟩ := st
    exact ⟨oi, e, fun v z => by rw [dd] at z; cases z⟩
  keep := fun i h h' st k => st.at fun oi e => k it (by simp) oi e
  item := by
    intro X hP hw hK hc i pins s σ H E I hf st hg
    subst hP hw hK
    obtain ⟨hd, hi⟩ := hg
    obtain ⟨f0, f1, f2, f3, f4, f5⟩ := hf it (by simp)
    obtain ⟨hs, hgd, hx, es', ep', hdt, hsz, ent⟩ := frzTv I hd
    obtain ⟨rfl, rfl⟩ := dict_ep' hod hdt
    obtain ⟨⟨k, v⟩, hkv⟩ : ∃ p, kvs[i]? = some p := ⟨kvs[i], List.getElem?_eq_getElem hi⟩
    obtain ⟨en, hen, rv⟩ := ent i k v hkv
    have hlt : i < es'.size := by omega
    have st2 : s.heap.IsValIter it d i es'.size ep' := by rw [hsz]; exact st
    refine wpAny_pyNext_values_item_raw st2 ⟨o, hgd, hx, hdt⟩ hlt fun h' st' sb => ?_
    have I1 : Inv X pins σ H { s with heap := h' } := I.turned (t' := s.toks) (fun b ob hb e => (sb.2 b hb).trans e) f0 f1 f3 f4 f5
    obtain ⟨oi, e, c, dd⟩ := id st'
    have hv : es'[i].val = en.val := by
      rw [Array.getElem?_eq_getElem hlt] at hen
      rw [Option.some.inj hen]
    refine ⟨_, rfl, go_of (s := { s with heap := h' }) e c dd (by decide) ⟨v, H, I1, by rw [hv]; exact rv, ⟨rfl, k, hkv⟩, ?_, fun b hb => (hf b hb).1⟩⟩
    show h'.IsValIter it d (i + 1) kvs.length _
    rw [← hsz]
    exact st'
  done := by
    intro X hP hw hK hc i pins s σ H E I hf st hg
    subst hP hw hK
    obtain ⟨hd, hi⟩ := hg
    obtain ⟨f0, f1, f2, f3, f4, f5⟩ := hf it (by simp)
    obtain ⟨hs, hgd, hx, es', ep', hdt, hsz, ent⟩ := frzTv I hd
    obtain ⟨rfl, rfl⟩ := dict_ep' hod hdt
    have st2 : s.heap.IsValIter it d i es'.size ep' := by rw [hsz]; exact st
    exact wpAny_pyNext_values_end_raw (I.ok.hd hc) st2 ⟨o, hgd, hx, hdt⟩ (by omega) fun h' eb => ⟨rfl, I.turned (t' := s.toks) (fun b ob hb e => eb b ob hb e) f0 f1 f3 f4 f5⟩
  self := fun A i s Q E st h => wpAny_pyIter_valiter st h
def iValsT (td : TE) : L2.TI := fun σ H R => td σ H fun x H1 => ∃ d o kvs, x = .ref d ∧ H1 d = some (.frz o (.dT kvs)) ∧ R (ItdT d o kvs) H1
theorem pi_valuesT {X : Cx} {tg e : Expr} {td : TE} {apos cpos : Pos} (he : PE X e td) (hbase : attributeBase e "values" X.env (eval e X.env) = eval e X.env := by rfl) (hline : (apos.endLine == cpos.line) = true := by rfl) : PI X tg (.Call (.Attribute e "values" apos) [] [] cpos) (iValsT td) := by
  refine ⟨fun pins s σ H R I h => ?_⟩
  refine wpAny_Call_method (T := "dict") (id := "dict.values") hbase rfl hline F.plainAttrs_dict F.slot_dict_values F.type_dict_values (thn (he.run pins s σ H _ I h) fun u s1 ⟨x, H1, I1, rx, d, o, kvs, ex, hd, q⟩ => ?_)
  subst ex
  obtain rfl : u = Value.ref d := rx
  obtain ⟨hs, hgd, hx, es, ep, hdt, hsz, ent⟩ := frzTv I1 hd
  have hR : s1.heap.DictRaw d es ep := ⟨o, hgd, hx, hdt⟩
  refine ⟨⟨o, hgd, hx.1⟩, fun b q => by cases q; exact ⟨o, hgd, hx.2.1⟩, ?_⟩
  have I2 : Inv X pins σ H1 { s1 with heap := s1.heap.push { cls := .type "dict_values", data := .fields #[.ref d] } } := I1.kept (t' := s1.toks) fun b ob q => Heap.get?_push_of_some _ q
  have fin : wpAny (model X.prog X.w) X.A (pyIter (.ref s1.heap.objs.size)) (PIE X pins σ tg R) X.xe { s1 with heap := s1.heap.push { cls := .type "dict_values", data := .fields #[.ref d] } } := by
    refine wpAny_pyIter_values_raw (d := d) (es := es) (ep := ep) ⟨_, Heap.get?_push_size _ rfl, rfl, rfl⟩ ⟨o, Heap.get?_push_of_some _ hgd, hx, hdt⟩ (pi_one (tk := s1.toks) I2 _ (turn_valsT _ hdt) ⟨_, Heap.get?_push_size _ rfl, rfl, ?_⟩ q)
    rw [hsz] <;> rfl
  show wpAny _ _ (callWith cpos (.builtin "dict.values") [.ref d] [] []) _ X.xe s1
  exact method_meetsIn F.slot_dict_values F.entry_dict_values rfl (PySem.evalArgs_none ⟨rfl, ⟨o, hgd, hx.1⟩, F.args_dict_values_1 _, _, meets_dict_values_raw d hs, ⟨es, ep, hR⟩, fin⟩)
theorem walk_valuesT {d : Addr} {o : Obj} {kvs : List (List Key × V)} : Walk (ItdT d o kvs) kvs.length (fun H => H d = some (.frz o (.dT kvs))) (fun i H x H' => H' = H ∧ ∃ k, kvs[i]? = some (k, x)) :=
  ⟨fun _ _ hi q => ⟨q, hi⟩, fun _ q => ⟨q, Nat.le_refl _⟩, fun _ _ _ _ _ _ y => y⟩

/-! #### a list of ints that is handed in and changed -/
abbrev StS := List Int
section
variable {A : Addr → Prop} {F0 H0 F F' H N H' : Hp} {p q dk : Addr} {o o' : HO} {us ws : List V} {α : Type} [TD α] {st st2 : List α} {as : List Addr} {xs : List (List Int)}
theorem HdAt.stepA (d : HdAt A H0 F H dk st) (g : Gr A F H N H') (x : Held A N H' dk st2) : HdAt A H0 N H' dk st2 := ⟨x.1, x.2.1, d.n0, d.ia⟩
theorem HdAt.outA (d : HdAt A H0 F H dk st) (w : Ow H0 F H p us) : ¬ A p := fun h => d.out w ((d.ia p).mp h)
theorem HdAt.outO (d : HdAt A H0 F H dk st) (w : OwO H0 F H p o) : ¬ A p := fun h => d.n0 (by rw [← (d.ia p).mp h]; exact w.n0)
theorem HdAt.nfA (d : HdAt A H0 F H dk st) : ∀ a, A a → F a = none := fun a h => by rw [(d.ia a).mp h]; exact d.nf
theorem HdAt.mutO (d : HdAt A H0 F H dk st) (w : OwO H0 F H p o) : HdAt A H0 F (upd H p o') dk st := by
  obtain ⟨us, e, r⟩ := d.at_
  exact ⟨⟨us, by rw [upd_ne (fun z => d.n0 (by rw [z]; exact w.n0))]; exact e, r⟩, d.nf, d.n0, d.ia⟩
theorem HdAt.setI {v : V} {x : α} {j : Nat} (d : HdAt A H0 F H dk st) (r : Rs F us st) (h : R F v x) : HdAt A H0 F (upd H dk (.lst (us.set j v))) dk (st.set j x) := ⟨⟨_, upd_same, Rs_set r h⟩, d.nf, d.n0, d.ia⟩
theorem HdAt.ne (d : HdAt A H0 F H dk st) (w : Ow H0 F H p us) : dk ≠ p := (d.out w).symm
theorem HdAt.neO (d : HdAt A H0 F H dk st) (w : OwO H0 F H p o) : dk ≠ p := fun z => d.n0 (by rw [z]; exact w.n0)
end
/-! #### a new list that is ours, its items frozen -/
mutual
theorem RD.det {F : Hp} : ∀ {d d' : PyData} {v : V}, RD F v d → RD F v d' → d = d'
  | _, _, _, .non, r => by cases r; rfl
  | _, _, _, .bl b, r => by cases r; rfl
  | _, _, _, .int i, r => by cases r; rfl
  | _, _, _, .str x, r => by cases r; rfl
  | _, _, _, .lst h q, r => by
    cases r with
    | lst h' q' => rw [h] at h'; cases h'; rw [RDs.det q q']
    | tup h' q' => rw [h] at h'; cases h'
    | dic h' q' => rw [h] at h'; cases h'
  | _, _, _, .tup h q, r => by
    cases r with
    | lst h' q' => rw [h] at h'; cases h'
    | tup h' q' => rw [h] at h'; cases h'; rw [RDs.det q q']
    | dic h' q' => rw [h] at h'; cases h'
  | _, _, _, .dic h q, r => by
    cases r with
    | lst h' q' => rw [h] at h'; cases h'
    | tup h' q' => rw [h] at h'; cases h'
    | dic h' q' => rw [h] at h'; cases h'; rw [RKs.det q q']
theorem RDs.det {F : Hp} : ∀ {ds ds' : List PyData} {us : List V}, RDs F us ds → RDs F us ds' → ds = ds'
  | _, _, _, .nil, r => by cases r; rfl
  | _, _, _, .cons h q, r => by cases r with | cons h' q' => rw [RD.det h h', RDs.det q q']
theorem RKs.det {F : Hp} : ∀ {ds ds' : List (PyData × PyData)} {us : List (Key × V)}, RKs F us ds → RKs F us ds' → ds = ds'
  | _, _, _, .nil, r => by cases r; rfl
  | _, _, _, .int h q, r => by cases r with | int h' q' => rw [RD.det h h', RKs.det q q']
  | _, _, _, .str h q, r => by cases r with | str h' q' => rw [RD.det h h', RKs.det q q']
end
section
variable {F : Hp} {p : Addr} {us0 : List V} {ds0 : List PyData}
mutual
theorem RD.eraseG (k : F p = some (.lst us0)) (r0 : RDs F us0 ds0) : ∀ {d : PyData} {v : V}, sizeOf d < sizeOf (PyData.list ds0) → RD F v d → RD (eraseP F p) v d
  | _, _, _, .non => .non
  | _, _, _, .bl b => .bl b
  | _, _, _, .int i => .int i
  | _, _, _, .str x => .str x
  | .list ds, .ref a, hs, .lst h q => by
    have hne : a ≠ p := fun e => by
      rw [e, k] at h; cases h
      rw [RDs.det q r0] at hs
      exact Nat.lt_irrefl _ hs
    exact .lst (by rw [eraseP_ne hne]; exact h) (RDs.eraseG k r0 (by simp at hs ⊢; omega) q)
  | .tuple ds, .ref a, hs, .tup h q => by
    have hne : a ≠ p := fun e => by
      rw [e, k] at h; cases h
    exact .tup (by rw [eraseP_ne hne]; exact h) (RDs.eraseG k r0 (by simp at hs ⊢; omega) q)
  | .dict ds, .ref a, hs, .dic h q => by
    have hne : a ≠ p := fun e => by
      rw [e, k] at h; cases h
    exact .dic (by rw [eraseP_ne hne]; exact h) (RKs.eraseG k r0 (by simp at hs ⊢; omega) q)
theorem RDs.eraseG (k : F p = some (.lst us0)) (r0 : RDs F us0 ds0) : ∀ {ds : List PyData} {us : List V}, sizeOf ds < sizeOf (PyData.list ds0) → RDs F us ds → RDs (eraseP F p) us ds
  | _, _, _, .nil => .nil
  | d :: ds, _ :: _, hs, .cons h q => .cons (RD.eraseG k r0 (by simp at hs ⊢; omega) h) (RDs.eraseG k r0 (by simp at hs ⊢; omega) q)
theorem RKs.eraseG (k : F p = some (.lst us0)) (r0 : RDs F us0 ds0) : ∀ {ds : List (PyData × PyData)} {us : List (Key × V)}, sizeOf ds < sizeOf (PyData.list ds0) → RKs F us ds → RKs (eraseP F p) us ds
  | _, _, _, .nil => .nil
  | (_, d) :: ds, _ :: _, hs, .int h q => .int (RD.eraseG k r0 (by simp at hs ⊢; omega) h) (RKs.eraseG k r0 (by simp at hs ⊢; omega) q)
  | (_, d) :: ds, _ :: _, hs, .str h q => .str (RD.eraseG k r0 (by simp at hs ⊢; omega) h) (RKs.eraseG k r0 (by simp at hs ⊢; omega) q)
end
theorem Rs_eraseG {α : Type} [TD α] {xs : List α} (k : F p = some (.lst us0)) (r : Rs F us0 xs) : Rs (eraseP F p) us0 xs := RDs.eraseG k r (by simp) r
end
theorem eraseP_none {N : Hp} {p a : Addr} (h : N a = none) : eraseP N p a = none := by
  by_cases e : a = p
  · rw [e]; exact eraseP_same
  · rw [eraseP_ne e]; exact h
/-! #### walks over such dicts -/
section
variable {K : PySem.W.Frag} {g : TG} {tb : TS} {D : Ends} {σ : L2.St} {H : Hp} {β : Type} [TD β]
theorem x_lock {t : TS} (h : ∃ d u, H d = some u ∧ Mut (some u) ∧ ∀ od, t ⟨fun σ' H' => H' d = some (.frz od u) ∧ D.nx σ' (upd H' d u), fun v H' => H' d = some (.frz od u) ∧ D.rt v (upd H' d u), fun σ' H' => H' d = some (.frz od u) ∧ D.bk σ' (upd H' d u), fun σ' H' => H' d = some (.frz od u) ∧ D.ct σ' (upd H' d u)⟩ σ (upd H d (.frz od u))) : tLock t D σ H := h
theorem x_valsT {td : TE} {R : It → Hp → Prop} (h : td σ H fun x H1 => ∃ d o kvs, x = .ref d ∧ H1 d = some (.frz o (.dT kvs)) ∧ R (ItdT d o kvs) H1) : iValsT td σ H R := h
theorem RsK_at {κ α : Type} {key : α → κ} {F : Hp} {v : V} {k : κ} : ∀ {kvs : List (κ × V)} {xs : List (α × β)} {i : Nat}, RsK key F kvs xs → kvs[i]? = some (k, v) → ∃ x, (xs.map (·.2))[i]? = some x ∧ R F v x
  | _, _, _, .nil, e => by simp at e
  | _, _, 0, .cons (b := x) h _, e => by
    simp at e; subst e
    exact ⟨x.2, rfl, h.2⟩
  | _, _, i + 1, .cons _ t, e => by
    obtain ⟨x, h1, h2⟩ := RsK_at (i := i) t (by simpa using e)
    exact ⟨x, by simpa using h1, h2⟩
theorem for_vals {F : Hp} {d : Addr} {od : Obj} {kvs : List (List Key × V)} {xs : List (TI × β)} (W : List β → L2.St → Hp → Prop) (r : RsK keyT F kvs xs) (h0 : W (xs.map (·.2)) σ H) (hf : ∀ ts σ H, W ts σ H → H d = some (.frz od (.dT kvs)))
    (hs : ∀ x ts v σ H, R F v x → W (x :: ts) σ H → g v σ H fun σ2 H2 => tb { D with nx := W ts, ct := W ts, bk := D.nx } σ2 H2) (hd : ∀ σ H, W [] σ H → D.nx σ H) :
    ∃ W : Nat → Nat → L2.St → Hp → Prop, (∃ m, W 0 m σ H) ∧ ∀ i m σ H, W i m σ H →
      ((ItdT d od kvs).stop i H ∧ D.nx σ H) ∨ ((ItdT d od kvs).go i H ∧ ∃ N : L2.St → Hp → Prop, (∀ σ' H', N σ' H' → ∃ m', m' < m ∧ W (i + 1) m' σ' H') ∧ ∀ x H', (ItdT d od kvs).yld i H x H' → g x σ H' fun σ2 H2 => tb { D with nx := N, ct := N, bk := D.nx } σ2 H2) := by
  have hl := RsK_len r
  refine for_it walk_valuesT (fun i σ H => W ((xs.map (·.2)).drop i) σ H) (by rw [List.drop_zero]; exact h0) (fun i σ H _ h => hf _ σ H h) (fun i v σ H H' hi h y => ?_) fun σ H h => ?_
  · obtain ⟨rfl, k, e⟩ := y
    obtain ⟨x, e2, e3⟩ := RsK_at r e
    have h' : W ((xs.map (·.2)).drop i) σ H' := h
    rw [drop_cons e2] at h'
    exact hs _ _ v σ H' e3 h'
  · have h' : W ((xs.map (·.2)).drop kvs.length) σ H := h
    rw [hl, show xs.length = (xs.map (·.2)).length from (List.length_map _).symm, List.drop_length] at h'
    exact hd σ H h'
variable {tt : TT} {te : TE} {vs : List Nat} {H1 : Hp} {Dl : Addr} {Qd : Hp → Prop}
theorem lc_vals {F : Hp} {d : Addr} {od : Obj} {kvs : List (List Key × V)} {xs : List (TI × β)} (W : List β → Hp → Prop) (r : RsK keyT F kvs xs) (h0 : W (xs.map (·.2)) (upd H1 Dl (.lst []))) (hf : ∀ ts H, W ts H → H d = some (.frz od (.dT kvs)))
    (hs : ∀ x ts v H, R F v x → W (x :: ts) H → g v (wipe σ vs) H fun σ2 H2 => wipe σ2 vs = wipe σ vs ∧ tt σ2 H2 fun b H3 =>
        if b = true then te σ2 H3 fun y H4 => ∃ acc, H4 Dl = some (HO.lst acc) ∧ acc.length < sizeLine ∧ W ts (upd H4 Dl (HO.lst (acc ++ [y]))) else W ts H3) (hd : ∀ H, W [] H → Qd H) :
    ∃ W : Nat → Nat → Hp → Prop, (∃ m, W 0 m (upd H1 Dl (HO.lst []))) ∧ ∀ (i m : Nat) (H : Hp), W i m H → (ItdT d od kvs).stop i H ∧ Qd H ∨
      (ItdT d od kvs).go i H ∧ ∃ Nx : Hp → Prop, (∀ (H' : Hp), Nx H' → ∃ m', m' < m ∧ W (i + 1) m' H') ∧ ∀ (x : V) (H' : Hp), (ItdT d od kvs).yld i H x H' →
        g x (wipe σ vs) H' fun σ2 H2 => wipe σ2 vs = wipe σ vs ∧ tt σ2 H2 fun b H3 => if b = true then te σ2 H3 fun y H4 => ∃ acc, H4 Dl = some (HO.lst acc) ∧ acc.length < sizeLine ∧ Nx (upd H4 Dl (HO.lst (acc ++ [y]))) else Nx H3 := by
  have hl := RsK_len r
  refine lc_it walk_valuesT (fun i H => W ((xs.map (·.2)).drop i) H) (by rw [List.drop_zero]; exact h0) (fun i H _ h => hf _ H h) (fun i v H H' hi h y => ?_) fun H h => ?_
  · obtain ⟨rfl, k, e⟩ := y
    obtain ⟨x, e2, e3⟩ := RsK_at r e
    have h' : W ((xs.map (·.2)).drop i) H' := h
    rw [drop_cons e2] at h'
    exact hs _ _ v H' e3 h'
  · have h' : W ((xs.map (·.2)).drop kvs.length) H := h
    rw [hl, show xs.length = (xs.map (·.2)).length from (List.length_map _).symm, List.drop_length] at h'
    exact hd H h'
theorem lc_tk {a : Addr} {bs : List Addr} {xs : List TI} (W : List TI → Hp → Prop) (h0 : W xs (upd H1 Dl (.lst []))) (hf : ∀ ts H, W ts H → H a = some (.lst (bs.map V.ref)) ∧ TK H bs xs)
    (hs : ∀ x ts b H, H b = some (.tup (x.l.map V.int)) → W (x :: ts) H → g (.ref b) (wipe σ vs) H fun σ2 H2 => wipe σ2 vs = wipe σ vs ∧ tt σ2 H2 fun b H3 =>
        if b = true then te σ2 H3 fun y H4 => ∃ acc, H4 Dl = some (HO.lst acc) ∧ acc.length < sizeLine ∧ W ts (upd H4 Dl (HO.lst (acc ++ [y]))) else W ts H3) (hd : ∀ H, W [] H → Qd H) :
    ∃ W : Nat → Nat → Hp → Prop, (∃ m, W 0 m (upd H1 Dl (HO.lst []))) ∧ ∀ (i m : Nat) (H : Hp), W i m H → (Itl K a).stop i H ∧ Qd H ∨
      (Itl K a).go i H ∧ ∃ Nx : Hp → Prop, (∀ (H' : Hp), Nx H' → ∃ m', m' < m ∧ W (i + 1) m' H') ∧ ∀ (x : V) (H' : Hp), (Itl K a).yld i H x H' →
        g x (wipe σ vs) H' fun σ2 H2 => wipe σ2 vs = wipe σ vs ∧ tt σ2 H2 fun b H3 => if b = true then te σ2 H3 fun y H4 => ∃ acc, H4 Dl = some (HO.lst acc) ∧ acc.length < sizeLine ∧ Nx (upd H4 Dl (HO.lst (acc ++ [y]))) else Nx H3 := by
  have hl : bs.length = xs.length := prd_len (hf _ _ h0).2
  refine lc_list (xs := bs.map V.ref) (fun i H => W (xs.drop i) H) (by rw [List.drop_zero]; exact h0) (fun i H _ h => .inl (.inl (hf _ H h).1)) (fun i v H e h => ?_) fun H h => ?_
  · rw [List.getElem?_map] at e
    cases e2 : bs[i]? with
    | none => rw [e2] at e; cases e
    | some b =>
      rw [e2] at e
      cases e
      obtain ⟨t, e3, e4⟩ := prd_getL (hf _ H h).2 e2
      have h' : W (xs.drop i) H := h
      rw [drop_cons e3] at h'
      exact hs t _ b H e4 h'
  · have h' : W (xs.drop (bs.map V.ref).length) H := h
    rw [List.length_map, hl, List.drop_length] at h'
    exact hd H h'
/-- two lists, pair by pair -/
theorem lc_zip {α : Type} [TD α] {F : Hp} {a b : Addr} {us ws : List V} {xs : List α} {ys : List β} (W : List (α × β) → Hp → Prop) (rx : Rs F us xs) (ry : Rs F ws ys) (h0 : W (xs.zip ys) (upd H1 Dl (.lst [])))
    (hf : ∀ ts H, W ts H → H a = some (.lst us) ∧ H b = some (.lst ws))
    (hs : ∀ p ts v w T H, R F v p.1 → R F w p.2 → H T = none → W (p :: ts) H → g (.ref T) (wipe σ vs) (upd H T (.tup [v, w])) fun σ2 H2 => wipe σ2 vs = wipe σ vs ∧ tt σ2 H2 fun b H3 =>
        if b = true then te σ2 H3 fun y H4 => ∃ acc, H4 Dl = some (HO.lst acc) ∧ acc.length < sizeLine ∧ W ts (upd H4 Dl (HO.lst (acc ++ [y]))) else W ts H3) (hd : ∀ H, W [] H → Qd H) :
    ∃ W : Nat → Nat → Hp → Prop, (∃ m, W 0 m (upd H1 Dl (HO.lst []))) ∧ ∀ (i m : Nat) (H : Hp), W i m H → (Itz K a b).stop i H ∧ Qd H ∨
      (Itz K a b).go i H ∧ ∃ Nx : Hp → Prop, (∀ (H' : Hp), Nx H' → ∃ m', m' < m ∧ W (i + 1) m' H') ∧ ∀ (x : V) (H' : Hp), (Itz K a b).yld i H x H' →
        g x (wipe σ vs) H' fun σ2 H2 => wipe σ2 vs = wipe σ vs ∧ tt σ2 H2 fun b H3 => if b = true then te σ2 H3 fun y H4 => ∃ acc, H4 Dl = some (HO.lst acc) ∧ acc.length < sizeLine ∧ Nx (upd H4 Dl (HO.lst (acc ++ [y]))) else Nx H3 := by
  have l1 := Rs_len rx
  have l2 := Rs_len ry
  refine lc_it (walk_zip (xs := us) (ys := ws) rfl) (fun i H => W ((xs.zip ys).drop i) H) (by rw [List.drop_zero]; exact h0) (fun i H _ h => ⟨.inl (.inl (hf _ H h).1), .inl (.inl (hf _ H h).2)⟩) (fun i v H H' hi h y => ?_) fun H h => ?_
  · obtain ⟨T, x, w, rfl, hT, rfl, e1, e2⟩ := y
    obtain ⟨d1, f1, r1⟩ := rx.get' e1
    obtain ⟨d2, f2, r2⟩ := ry.get' e2
    rw [List.getElem?_map] at f1 f2
    cases g1 : xs[i]? with
    | none => rw [g1] at f1; cases f1
    | some x1 =>
      cases g2 : ys[i]? with
      | none => rw [g2] at f2; cases f2
      | some y1 =>
        rw [g1] at f1; rw [g2] at f2
        cases f1; cases f2
        have e3 : (xs.zip ys)[i]? = some (x1, y1) := List.getElem?_zip_eq_some.mpr ⟨g1, g2⟩
        have h' : W ((xs.zip ys).drop i) H := h
        rw [drop_cons e3] at h'
        exact hs (x1, y1) _ x w T H r1 r2 hT h'
  · have h' : W ((xs.zip ys).drop (min us.length ws.length)) H := h
    rw [l1, l2, ← List.length_zip, List.drop_length] at h'
    exact hd H h'
end
theorem RsK_keys {κ α β : Type} [TD β] {key : α → κ} {F : Hp} {kvs : List (κ × V)} {xs : List (α × β)} (r : RsK key F kvs xs) : kvs.map (·.1) = (xs.map (·.1)).map key := by
  induction r with
  | nil => rfl
  | cons h _ ih => rw [List.map_cons, List.map_cons, List.map_cons, ih, h.1]
theorem x_zip {tA : TA} {K : PySem.W.Frag} {σ : L2.St} {H : Hp} {R : It → Hp → Prop} (h : tA σ H fun vs H1 => ∃ (a b : Addr) (xs ys : List V), vs = [.ref a, .ref b] ∧ SqL K H1 a xs ∧ SqL K H1 b ys ∧ R (Itz K a b) H1) : iZip K tA σ H R := h
/-! #### data of any kind, all of it new -/
def noLst : PyData → Bool
  | .none => true
  | .bool _ => true
  | .int _ => true
  | .str _ => true
  | _ => false
theorem NR_flat {H0 F : Hp} {v : V} {d : PyData} (h : R (α := PyData) F v d) (c : noLst d = true) : NR (α := PyData) H0 F v d := by
  have h : RD F v d := h
  show RN H0 F v d
  cases h with
  | non => exact .non
  | bl b => exact .bl b
  | int i => exact .int i
  | str x => exact .str x
  | lst _ _ => cases c
  | tup _ _ => cases c
  | dic _ _ => cases c
theorem NRs_at {α : Type} [TD α] {H0 F : Hp} {us : List V} {xs : List α} {i : Int} {x : α} (r : NRs H0 F us xs) (h : atI xs i = some x) : ∃ u, atI us i = some u ∧ NR H0 F u x := by
  obtain ⟨u, hu, d⟩ := Rs_at (NRs_rs r) h
  refine ⟨u, hu, NRs_mem r ?_ d⟩
  unfold atI at hu
  cases e : ixN us.length i with
  | none => rw [e] at hu; cases hu
  | some j => rw [e] at hu; exact List.mem_of_getElem? (show us[j]? = some u from hu)
theorem OwL.ne_clear {p q : Addr} {as : List Addr} (h : q ∉ p :: as) : q ∉ p :: ([] : List Addr) := fun z => h (by rw [List.mem_singleton.mp z]; exact List.mem_cons_self)
def relS (scope sc : Scope) : Scope := { scope with names := scope.names.map fun (n, k) => if (k == NameKind.free && sc.kind == .function && sc.names.lookup n == some .cell) then (n, NameKind.cell) else (n, k) }
theorem blkOk_in {X : Cx} {s : Shared} {H : Hp} {scope' scope sc : Scope} {cl : List (Str × Addr)} {C : Addr} {fp : List Addr} {env : Env} {own : List (Str × Nat)} {N : List Str} (hN : X.N = N) (he : env.scope = sc) (h : blkC N (relS scope' sc) scope own = true) :
    BlkOk (X.blk s H scope' (compEnvC scope' cl C env) fp).N (X.blk s H scope' (compEnvC scope' cl C env) fp).env.scope scope own := by
  subst hN he
  exact blkOk_by h
theorem R_anyLL {F : Hp} {v : V} {x : List (List PyData)} (h : R F v x) : R (α := PyData) F v (PyData.list (x.map fun z => PyData.list z)) := by
  have e : (TD.d x : PyData) = PyData.list (x.map fun z => PyData.list z) := by
    show PyData.list (x.map TD.d) = _
    refine congrArg PyData.list (List.map_congr_left fun z _ => ?_)
    show PyData.list (z.map TD.d) = _
    rw [any_id]
  have h : RD F v (TD.d x) := h
  rw [e] at h; exact h
end My

namespace My
open PySem PySem.Spec PyProof.Rows L2
def topS (i : Nat) : Stmt := PySem.Challenge.pw_lackstretch_k29_one_rule_of_several.main.body.getD i (.Pass ⟨0, 0, 0, 0⟩)
abbrev s__law_cell : Stmt := topS 32
abbrev s__law_copy : Stmt := topS 39
abbrev s__law_kind : Stmt := topS 43
abbrev s_is_whole : Stmt := topS 20
abbrev s_is_base : Stmt := topS 21
abbrev s_is_figure : Stmt := topS 22
abbrev s_are_figures : Stmt := topS 23
abbrev s_is_stretch : Stmt := topS 24
abbrev s_is_rule : Stmt := topS 25
abbrev s_need_rules : Stmt := topS 29
abbrev s_stands_in : Stmt := topS 26
abbrev s_one_rule : Stmt := topS 30
abbrev s__law_asked : Stmt := topS 46
abbrev s__law_lacks : Stmt := topS 41
abbrev s__law_due : Stmt := topS 45
abbrev s__law_right : Stmt := topS 47
abbrev s__law_take : Stmt := topS 34
abbrev s__law_stretch : Stmt := topS 35
abbrev s__law_bad : Stmt := topS 36
abbrev s__law_base : Stmt := topS 37
abbrev s__law_rule : Stmt := topS 38
abbrev s__law_same_base : Stmt := topS 44
abbrev s__law_store : Stmt := topS 33
abbrev s_law : Stmt := topS 48

def _law_cell (script : (List Int)) (k : Int) : Option Int :=
  (if (decide (k < (script.length : Int))) = true then ((atI script k).bind fun x1 => (some x1)) else (if Mv ((7 : Int) * k) k then (some (((((7 : Int) * k) * k) + ((3 : Int) * k)) + (11 : Int))) else none))

def _law_copy_c1 : (List (List Int)) → (List Int) → ((List (List Int)) → Option (Int × (List (List Int)))) → Option (Int × (List (List Int)))
  | x2, t1, next1 => (if x2.length < 16777216 then (next1 (x2 ++ [t1])) else none)
def _law_copy_k2 (rule : (Int × (List (List Int)))) : (List (List Int)) → Option (Int × (List (List Int)))
  | x2 => (some ((rule).1, x2))
def _law_copy (rule : (Int × (List (List Int)))) : Option (Int × (List (List Int))) :=
  (forK (_law_copy_c1) ((rule).2) [] (_law_copy_k2 rule))

def _law_kind_c1 : (List Str) → (Str × Bool) → ((List Str) → Option Bool) → Option Bool
  | x5, t1, next1 => (if (t1).2 = true then (if x5.length < 16777216 then (next1 (x5 ++ [(t1).1])) else none) else (next1 x5))
def _law_kind_k2 (e : (Option Er)) (due : Str) : (List Str) → Option Bool
  | x5 => (if (e).isSome = true then (if EqOk (PyData.list (x5.map fun z => (PyData.str z))) (PyData.list (([due] : (List Str)).map fun z => (PyData.str z))) then (some (PyData.eqv (PyData.list (x5.map fun z => (PyData.str z))) (PyData.list (([due] : (List Str)).map fun z => (PyData.str z))))) else none) else (some false))
def _law_kind (e : (Option Er)) (due : Str) : Option Bool :=
  (if ([(decide (e = some .NoBase)), (decide (e = some .NoNumber)), (decide (e = some .NoFigures)), (decide (e = some .NoRule))] : (List Bool)).length + ([(decide (e = some .NoStand)), (decide (e = some .NoGood)), (decide (e = some .Endless)), (decide (e = some .NoRules))] : (List Bool)).length ≤ 16777216 then ((some ((([(decide (e = some .NoBase)), (decide (e = some .NoNumber)), (decide (e = some .NoFigures)), (decide (e = some .NoRule))] : (List Bool)) ++ ([(decide (e = some .NoStand)), (decide (e = some .NoGood)), (decide (e = some .Endless)), (decide (e = some .NoRules))] : (List Bool))))).bind fun x1 => (if x1.length + ([(decide (e = some .NoStretch)), (decide (e = some .TooMany)), (decide (e = some .NoText))] : (List Bool)).length ≤ 16777216 then (if (x1 ++ ([(decide (e = some .NoStretch)), (decide (e = some .TooMany)), (decide (e = some .NoText))] : (List Bool))).length + ([(decide (e = some .NoName)), (decide (e = some .NoRow))] : (List Bool)).length ≤ 16777216 then ((some (((x1 ++ ([(decide (e = some .NoStretch)), (decide (e = some .TooMany)), (decide (e = some .NoText))] : (List Bool))) ++ ([(decide (e = some .NoName)), (decide (e = some .NoRow))] : (List Bool))))).bind fun x2 => ((some (([("base" : Str), ("number" : Str), ("figures" : Str), ("rule" : Str), ("stand" : Str), ("good" : Str), ("endless" : Str), ("rules" : Str), ("stretch" : Str), ("many" : Str), ("text" : Str)] : (List Str)))).bind fun x3 => (if x3.length + ([("name" : Str), ("row" : Str)] : (List Str)).length ≤ 16777216 then (forK (_law_kind_c1) (((x3 ++ ([("name" : Str), ("row" : Str)] : (List Str))).zip x2)) [] (_law_kind_k2 e due)) else none))) else none) else none)) else none)


def is_whole (thing : Int) : Option Bool :=
  (some (!false))


def is_base (thing : Int) : Option Bool :=
  ((is_whole thing).bind fun r1 => (if r1 = true then (if (decide ((2 : Int) ≤ thing)) = true then (some (decide (thing ≤ (16 : Int)))) else (some false)) else (some false)))


def is_figure (base : Int) (thing : Int) : Option Bool :=
  ((is_whole thing).bind fun r1 => (if r1 = true then (if (decide ((0 : Int) ≤ thing)) = true then (some (decide (thing < base))) else (some false)) else (some false)))

def are_figures_c1 (base : Int) : (List Int) → Int → ((List Int) → Option Bool) → Option Bool
  | x2, t1, next1 => ((is_figure base t1).bind fun r1 => (if (!r1) = true then (if x2.length < 16777216 then (next1 (x2 ++ [t1])) else none) else (next1 x2)))
def are_figures_k2 : (List Int) → Option Bool
  | x2 => (some (eqT x2 ([] : (List Int))))
def are_figures (base : Int) (thing : (List Int)) : Option Bool :=
  (forK (are_figures_c1 base) (thing) [] (are_figures_k2))


def is_stretch (base : Int) (thing : (List Int)) : Option Bool :=
  ((are_figures base thing).bind fun r1 => (if r1 = true then (if (decide ((1 : Int) ≤ (thing.length : Int))) = true then (some (decide ((thing.length : Int) ≤ (4 : Int)))) else (some false)) else (some false)))

def is_rule_c1 (thing : (Int × (List (List Int)))) : (List (List Int)) → (List Int) → ((List (List Int)) → Option Bool) → Option Bool
  | x2, t1, next1 => ((is_stretch ((thing).1) t1).bind fun r2 => (if (!r2) = true then (if x2.length < 16777216 then (next1 (x2 ++ [t1])) else none) else (next1 x2)))
def is_rule_c3 (thing : (Int × (List (List Int)))) : (List Int) → Int → ((List Int) → Option Bool) → Option Bool
  | x4, t2, next2 => ((atI (thing).2 (t2 - (1 : Int))).bind fun x5 => ((atI (thing).2 t2).bind fun x6 => (if (!ltT x5 x6) = true then (if x4.length < 16777216 then (next2 (x4 ++ [t2])) else none) else (next2 x4))))
def is_rule_k4 : (List Int) → Option Bool
  | x4 => (some (eqT x4 ([] : (List Int))))
def is_rule_k2 (thing : (Int × (List (List Int)))) : (List (List Int)) → Option Bool
  | x2 => (if (!eqT x2 ([] : (List (List Int)))) = true then (some false) else (if Rg2 (1 : Int) ((thing).2.length : Int) then (forK (is_rule_c3 thing) (irange (1 : Int) ((thing).2.length : Int)) [] (is_rule_k4)) else none))
def is_rule (thing : (Int × (List (List Int)))) : Option Bool :=
  (if ((!decide ((2 : Int) = (2 : Int)))) = true then (some false) else ((is_base ((thing).1)).bind fun r1 => (if (!r1) = true then (some false) else (if (decide ((4 : Int) < ((thing).2.length : Int))) = true then (some false) else (forK (is_rule_c1 thing) ((thing).2) [] (is_rule_k2 thing))))))

def need_rules_c1 : (List (Int × (List (List Int)))) → (Int × (List (List Int))) → ((List (Int × (List (List Int)))) → Option (Except Er Unit)) → Option (Except Er Unit)
  | x2, t1, next1 => ((is_rule t1).bind fun r1 => (if (!r1) = true then (if x2.length < 16777216 then (next1 (x2 ++ [t1])) else none) else (next1 x2)))
def need_rules_k2 : (List (Int × (List (List Int)))) → Option (Except Er Unit)
  | x2 => (if (!eqT x2 ([] : (List (Int × (List (List Int)))))) = true then (some (.error .NoRules)) else (some (.ok ())))
def need_rules (thing : (List (Int × (List (List Int))))) : Option (Except Er Unit) :=
  (if (decide ((1 : Int) ≤ (thing.length : Int))) = true then (if (!(decide ((thing.length : Int) ≤ (3 : Int)))) = true then (some (.error .NoRules)) else (forK (need_rules_c1) (thing) [] (need_rules_k2))) else (some (.error .NoRules)))

def stands_in_c1 (figures : (List Int)) (stretch : (List Int)) : (List Int) → Int → ((List Int) → Option Bool) → Option Bool
  | x2, t1, next1 => (if (eqT (cutT figures (some t1) (some (t1 + (stretch.length : Int)))) stretch) = true then (if x2.length < 16777216 then (next1 (x2 ++ [t1])) else none) else (next1 x2))
def stands_in_k2 : (List Int) → Option Bool
  | x2 => (some (!eqT x2 ([] : (List Int))))
def stands_in (stretch : (List Int)) (figures : (List Int)) : Option Bool :=
  (if Rg1 (((figures.length : Int) - (stretch.length : Int)) + (1 : Int)) then (forK (stands_in_c1 figures stretch) (irange 0 (((figures.length : Int) - (stretch.length : Int)) + (1 : Int))) [] (stands_in_k2)) else none)

def one_rule_c1 (rules : (List (Int × (List (List Int))))) : (List (Int × (List (List Int)))) → (Int × (List (List Int))) → ((List (Int × (List (List Int)))) → Option (Except Er (Int × (List (List Int))))) → Option (Except Er (Int × (List (List Int))))
  | x2, t1, next1 => ((atI rules (0 : Int)).bind fun x3 => (if ((!decide ((t1).1 = (x3).1))) = true then (if x2.length < 16777216 then (next1 (x2 ++ [t1])) else none) else (next1 x2)))
def one_rule_b5 : (List (TI × (List Int))) → (List Int) → ((List (TI × (List Int))) → Option (Except Er (Int × (List (List Int))))) → Option (Except Er (Int × (List (List Int))))
  | x5, t3, next3 => (if x5.length < 16777216 then (next3 (putT x5 (⟨t3⟩ : TI) t3)) else none)
def one_rule_e6 (next2 : ((List (TI × (List Int))) → Option (Except Er (Int × (List (List Int)))))) : (List (TI × (List Int))) → Option (Except Er (Int × (List (List Int))))
  | x5 => (next2 x5)
def one_rule_b3 : (List (TI × (List Int))) → (Int × (List (List Int))) → ((List (TI × (List Int))) → Option (Except Er (Int × (List (List Int))))) → Option (Except Er (Int × (List (List Int))))
  | x4, t2, next2 => (forK (one_rule_b5) ((t2).2) x4 (one_rule_e6 next2))
def one_rule_c9 (t4 : (List Int)) : (List (List Int)) → (List Int) → ((List (List Int)) → Option (Except Er (Int × (List (List Int))))) → Option (Except Er (Int × (List (List Int))))
  | x8, t5, next5 => (if (!(eqT t5 t4)) = true then ((stands_in t5 t4).bind fun r2 => (if r2 = true then (if x8.length < 16777216 then (next5 (x8 ++ [t5])) else none) else (next5 x8))) else (next5 x8))
def one_rule_k10 (x6 : (List (List Int))) (next4 : ((List (List Int)) → Option (Except Er (Int × (List (List Int)))))) (t4 : (List Int)) : (List (List Int)) → Option (Except Er (Int × (List (List Int))))
  | x8 => (if (eqT x8 ([] : (List (List Int)))) = true then (if x6.length < 16777216 then (next4 (x6 ++ [t4])) else none) else (next4 x6))
def one_rule_b7 (x4 : (List (TI × (List Int)))) : (List (List Int)) → (List Int) → ((List (List Int)) → Option (Except Er (Int × (List (List Int))))) → Option (Except Er (Int × (List (List Int))))
  | x6, t4, next4 => (forK (one_rule_c9 t4) ((x4.map (·.2))) [] (one_rule_k10 x6 next4 t4))
def one_rule_e8 (rules : (List (Int × (List (List Int))))) : (List (List Int)) → Option (Except Er (Int × (List (List Int))))
  | x6 => (if (decide ((4 : Int) < (x6.length : Int))) = true then (some (.error .TooMany)) else ((atI rules (0 : Int)).bind fun x9 => (if x6.length ≤ 16777216 then (some (.ok ((x9).1, (sortT x6)))) else none)))
def one_rule_e4 (rules : (List (Int × (List (List Int))))) : (List (TI × (List Int))) → Option (Except Er (Int × (List (List Int))))
  | x4 => (forK (one_rule_b7 x4) ((x4.map (·.2))) ([] : (List (List Int))) (one_rule_e8 rules))
def one_rule_k2 (rules : (List (Int × (List (List Int))))) : (List (Int × (List (List Int)))) → Option (Except Er (Int × (List (List Int))))
  | x2 => (if (!eqT x2 ([] : (List (Int × (List (List Int)))))) = true then (some (.error .NoRules)) else (forK (one_rule_b3) (rules) ([] : (List (TI × (List Int)))) (one_rule_e4 rules)))
def one_rule (rules : (List (Int × (List (List Int))))) : Option (Except Er (Int × (List (List Int)))) :=
  ((need_rules rules).bind fun r1 => exB r1 (fun y1 => (forK (one_rule_c1 rules) (rules) [] (one_rule_k2 rules))) (fun er1 => (some (.error er1))))


def _law_asked (rules : (List (Int × (List (List Int))))) (due : PyData) : Option PyData :=
  ((one_rule rules).bind fun r1 => exB r1 (fun y1 => (if (true) = true then ((atI ([(PyData.tuple [(PyData.int (y1).1), (PyData.list ((y1).2.map fun z => (PyData.list (z.map fun z => (PyData.int z)))))]), (PyData.str ("told" : Str))] : (List PyData)) (if false = true then (1 : Int) else 0)).bind fun x1 => (some x1)) else (if noLst due = true then (if (isStrD due) = true then ((asStr due).bind fun x2 => ((_law_kind (none : (Option Er)) x2).bind fun r2 => ((atI ([(PyData.str ("other" : Str)), due] : (List PyData)) (if r2 = true then (1 : Int) else 0)).bind fun x3 => (some x3)))) else ((atI ([(PyData.str ("other" : Str)), due] : (List PyData)) (if false = true then (1 : Int) else 0)).bind fun x4 => (some x4))) else none))) (fun er1 => (if ((some er1)).isNone = true then ((atI ([PyData.none, (PyData.str ("told" : Str))] : (List PyData)) (if false = true then (1 : Int) else 0)).bind fun x5 => (some x5)) else (if noLst due = true then (if (isStrD due) = true then ((asStr due).bind fun x6 => ((_law_kind (some er1) x6).bind fun r3 => ((atI ([(PyData.str ("other" : Str)), due] : (List PyData)) (if r3 = true then (1 : Int) else 0)).bind fun x7 => (some x7)))) else ((atI ([(PyData.str ("other" : Str)), due] : (List PyData)) (if false = true then (1 : Int) else 0)).bind fun x8 => (some x8))) else none))))

def _law_lacks_c3 (figures : (List Int)) (t1 : (List Int)) : (List Int) → Int → ((List Int) → Option Bool) → Option Bool
  | x2, t2, next2 => (if (eqT (cutT figures (some t2) (some (t2 + (t1.length : Int)))) t1) = true then (if x2.length < 16777216 then (next2 (x2 ++ [t2])) else none) else (next2 x2))
def _law_lacks_k4 (next1 : (Unit → Option Bool)) : (List Int) → Option Bool
  | x2 => (if (!eqT x2 ([] : (List Int))) = true then (some false) else (next1 ()))
def _law_lacks_b1 (figures : (List Int)) : Unit → (List Int) → (Unit → Option Bool) → Option Bool
  | _, t1, next1 => (if Rg1 (((figures.length : Int) + (1 : Int)) - (t1.length : Int)) then (forK (_law_lacks_c3 figures t1) (irange 0 (((figures.length : Int) + (1 : Int)) - (t1.length : Int))) [] (_law_lacks_k4 next1)) else none)
def _law_lacks_e2 : Unit → Option Bool
  | _ => (some true)
def _law_lacks (bad : (List (List Int))) (figures : (List Int)) : Option Bool :=
  (forK (_law_lacks_b1 figures) (bad) () (_law_lacks_e2))

def _law_due_c1 (rules : (List (Int × (List (List Int))))) : (List Int) → (Int × (List (List Int))) → ((List Int) → Option PyData) → Option PyData
  | x2, t1, next1 => ((atI rules (0 : Int)).bind fun x3 => (if ((!decide ((t1).1 = (x3).1))) = true then (if x2.length < 16777216 then (next1 (x2 ++ [(t1).1])) else none) else (next1 x2)))
def _law_due_b5 : (List (TI × Bool)) → (List Int) → ((List (TI × Bool)) → Option PyData) → Option PyData
  | x5, t3, next3 => (if x5.length < 16777216 then (next3 (putT x5 (⟨t3⟩ : TI) true)) else none)
def _law_due_e6 (next2 : ((List (TI × Bool)) → Option PyData)) : (List (TI × Bool)) → Option PyData
  | x5 => (next2 x5)
def _law_due_b3 : (List (TI × Bool)) → (Int × (List (List Int))) → ((List (TI × Bool)) → Option PyData) → Option PyData
  | x4, t2, next2 => (forK (_law_due_b5) ((t2).2) x4 (_law_due_e6 next2))
def _law_due_c7 : (List (List Int)) → TI → ((List (List Int)) → Option PyData) → Option PyData
  | x7, t4, next4 => (if x7.length < 16777216 then (next4 (x7 ++ [(t4).l])) else none)
def _law_due_c11 (t5 : (List Int)) : (List (List Int)) → (List Int) → ((List (List Int)) → Option PyData) → Option PyData
  | x11, t6, next6 => (if (!(eqT t6 t5)) = true then (if x11.length < 16777216 then (next6 (x11 ++ [t6])) else none) else (next6 x11))
def _law_due_k12 (t5 : (List Int)) (x9 : (List (List Int))) (next5 : ((List (List Int)) → Option PyData)) : (List (List Int)) → Option PyData
  | x11 => ((_law_lacks x11 t5).bind fun r1 => (if r1 = true then (if x9.length < 16777216 then (next5 (x9 ++ [t5])) else none) else (next5 x9)))
def _law_due_c9 (x7 : (List (List Int))) : (List (List Int)) → (List Int) → ((List (List Int)) → Option PyData) → Option PyData
  | x9, t5, next5 => (forK (_law_due_c11 t5) (x7) [] (_law_due_k12 t5 x9 next5))
def _law_due_k10 (rules : (List (Int × (List (List Int))))) : (List (List Int)) → Option PyData
  | x9 => ((atI rules (0 : Int)).bind fun x12 => ((atI ([(PyData.tuple [(PyData.int (x12).1), (PyData.list (x9.map fun z => (PyData.list (z.map fun z => (PyData.int z)))))]), (PyData.str ("many" : Str))] : (List PyData)) (if (decide ((4 : Int) < (x9.length : Int))) = true then (1 : Int) else 0)).bind fun x13 => (some x13)))
def _law_due_k8 (rules : (List (Int × (List (List Int))))) : (List (List Int)) → Option PyData
  | x7 => (forK (_law_due_c9 x7) (x7) [] (_law_due_k10 rules))
def _law_due_e4 (rules : (List (Int × (List (List Int))))) : (List (TI × Bool)) → Option PyData
  | x4 => (if (x4.map (·.1)).length ≤ 16777216 then (if ∀ z9 ∈ (x4.map (·.1)), z9.l ≠ [] then (forK (_law_due_c7) ((sortT (x4.map (·.1)))) [] (_law_due_k8 rules)) else none) else none)
def _law_due_k2 (rules : (List (Int × (List (List Int))))) : (List Int) → Option PyData
  | x2 => (if (!eqT x2 ([] : (List Int))) = true then (some (PyData.str ("rules" : Str))) else (forK (_law_due_b3) (rules) ([] : (List (TI × Bool))) (_law_due_e4 rules)))
def _law_due (rules : (List (Int × (List (List Int))))) : Option PyData :=
  (forK (_law_due_c1 rules) (rules) [] (_law_due_k2 rules))

def _law_right_c3 : (List Bool) → PyData → ((List Bool) → Option Bool) → Option Bool
  | x12, t2, next2 => (if x12.length < 16777216 then (next2 (x12 ++ [(isBlD t2)])) else none)
def _law_right_k4 : (List Bool) → Option Bool
  | x12 => (if (memT true x12) = true then (some false) else none)
def _law_right_b1 : PyData → PyData → (PyData → Option Bool) → Option Bool
  | x9, t1, next1 => (if (!(isLstD t1)) = true then (some false) else ((asLst t1).bind fun x10 => (forK (_law_right_c3) (x10) [] (_law_right_k4))))
def _law_right_c5 : (List (List PyData)) → PyData → ((List (List PyData)) → Option Bool) → Option Bool
  | x19, t3, next3 => ((asLst t3).bind fun x20 => (if x20.length + (([(0 : Int)] : (List Int)).map fun z => (PyData.int z)).length ≤ 16777216 then (if x19.length < 16777216 then (next3 (x19 ++ [(x20 ++ (([(0 : Int)] : (List Int)).map fun z => (PyData.int z)))])) else none) else none))
def _law_right_k6 (x14 : PyData) : (List (List PyData)) → Option Bool
  | x19 => (if EqOk x14 (PyData.list (x19.map fun z => (PyData.list z))) then (if (!PyData.eqv x14 (PyData.list (x19.map fun z => (PyData.list z)))) = true then (some false) else none) else none)
def _law_right_e2 (r1 : PyData) : PyData → Option Bool
  | x9 => ((asSeq x9).bind fun x13 => ((atI x13 (1 : Int)).bind fun x14 => ((asSeq r1).bind fun x15 => ((atI x15 (1 : Int)).bind fun x16 => ((asLst x16).bind fun x17 => (forK (_law_right_c5) (x17) [] (_law_right_k6 x14)))))))
def _law_right_c9 : (List Bool) → Int → ((List Bool) → Option Bool) → Option Bool
  | x26, t5, next5 => (if x26.length < 16777216 then (next5 (x26 ++ [false])) else none)
def _law_right_k10 (x24 : (List Int)) (next4 : ((List (List Int)) → Option Bool)) (x23 : (List (List Int))) (t4 : Nat) : (List Bool) → Option Bool
  | x26 => (if (memT true x26) = true then (some false) else (if x24.length < 16777216 then (next4 (x23.set t4 (x24 ++ [(0 : Int)]))) else none))
def _law_right_b7 : (List (List Int)) → Nat → ((List (List Int)) → Option Bool) → Option Bool
  | x23, t4, next4 => ((x23[t4]?).bind fun x24 => (forK (_law_right_c9) (x24) [] (_law_right_k10 x24 next4 x23 t4)))
def _law_right_c11 : (List (List PyData)) → PyData → ((List (List PyData)) → Option Bool) → Option Bool
  | x31, t6, next6 => ((asLst t6).bind fun x32 => (if x32.length + (([(0 : Int)] : (List Int)).map fun z => (PyData.int z)).length ≤ 16777216 then (if x31.length < 16777216 then (next6 (x31 ++ [(x32 ++ (([(0 : Int)] : (List Int)).map fun z => (PyData.int z)))])) else none) else none))
def _law_right_k12 (x23 : (List (List Int))) (given : (List (Int × (List (List Int))))) (r1 : PyData) (rules : (List (Int × (List (List Int))))) : (List (List PyData)) → Option Bool
  | x31 => (if EqOk (PyData.list (x23.map fun z => (PyData.list (z.map fun z => (PyData.int z))))) (PyData.list (x31.map fun z => (PyData.list z))) then (if (!PyData.eqv (PyData.list (x23.map fun z => (PyData.list (z.map fun z => (PyData.int z))))) (PyData.list (x31.map fun z => (PyData.list z)))) = true then (some false) else ((one_rule given).bind fun r3 => exB r3 (fun y3 => (if EqOk (PyData.tuple [(PyData.int (y3).1), (PyData.list ((y3).2.map fun z => (PyData.list (z.map fun z => (PyData.int z)))))]) r1 then (if (PyData.eqv (PyData.tuple [(PyData.int (y3).1), (PyData.list ((y3).2.map fun z => (PyData.list (z.map fun z => (PyData.int z)))))]) r1) = true then (some (eqT given rules)) else (some false)) else none)) (fun er1 => none))) else none)
def _law_right_e8 (r1 : PyData) (given : (List (Int × (List (List Int))))) (rules : (List (Int × (List (List Int))))) : (List (List Int)) → Option Bool
  | x23 => ((asSeq r1).bind fun x27 => ((atI x27 (1 : Int)).bind fun x28 => ((asLst x28).bind fun x29 => (forK (_law_right_c11) (x29) [] (_law_right_k12 x23 given r1 rules)))))
def _law_right (rules : (List (Int × (List (List Int))))) (given : (List (Int × (List (List Int))))) : Option Bool :=
  ((_law_due rules).bind fun r1 => ((_law_asked given r1).bind fun r2 => optE (UD.un (α := (Int × (List (List Int)))) r2) (if (isStrD r1) = true then (if EqOk r2 r1 then (if (PyData.eqv r2 r1) = true then (some (eqT given rules)) else (some false)) else none) else (if (!(isTupD r2)) = true then (some false) else (if EqOk r2 r1 then (if (!PyData.eqv r2 r1) = true then (some false) else ((asSeq r2).bind fun x2 => ((atI x2 (0 : Int)).bind fun x3 => (if (isBlD x3) = true then (some false) else ((asSeq r2).bind fun x4 => ((atI x4 (1 : Int)).bind fun x5 => (if (!(isLstD x5)) = true then (some false) else ((asSeq r2).bind fun x6 => ((atI x6 (1 : Int)).bind fun x7 => ((asLst x7).bind fun x8 => (forK (_law_right_b1) (x8) r2 (_law_right_e2 r1)))))))))))) else none))) (fun x1 => (if (x1).2.Nodup then (if (isStrD r1) = true then (if EqOk (PyData.tuple [(PyData.int (((x1).1, (x1).2)).1), (PyData.list ((((x1).1, (x1).2)).2.map fun z => (PyData.list (z.map fun z => (PyData.int z)))))]) r1 then (if (PyData.eqv (PyData.tuple [(PyData.int (((x1).1, (x1).2)).1), (PyData.list ((((x1).1, (x1).2)).2.map fun z => (PyData.list (z.map fun z => (PyData.int z)))))]) r1) = true then (some (eqT given rules)) else (some false)) else none) else (if EqOk (PyData.tuple [(PyData.int (((x1).1, (x1).2)).1), (PyData.list ((((x1).1, (x1).2)).2.map fun z => (PyData.list (z.map fun z => (PyData.int z)))))]) r1 then (if (!PyData.eqv (PyData.tuple [(PyData.int (((x1).1, (x1).2)).1), (PyData.list ((((x1).1, (x1).2)).2.map fun z => (PyData.list (z.map fun z => (PyData.int z)))))]) r1) = true then (some false) else (forK (_law_right_b7) (List.range (x1).2.length) (x1).2 (_law_right_e8 r1 given rules))) else none)) else none))))


def _law_take (st : StS) (many : Int) : Option (Int × StS) :=
  ((atI st (0 : Int)).bind fun x1 => (if (decide ((0 : Int) < x1)) = true then ((atI st (0 : Int)).bind fun x2 => (if Dv many then ((atI st (0 : Int)).bind fun x3 => (if Dv many then ((ixN st.length (0 : Int)).bind fun j1 => (some ((x2 % many), (st.set j1 (x3 / many))))) else none)) else none)) else ((atI st (2 : Int)).bind fun x4 => ((ixN st.length (2 : Int)).bind fun j2 => ((atI (st.set j2 (x4 + (1 : Int))) (1 : Int)).bind fun x5 => ((atI (st.set j2 (x4 + (1 : Int))) (2 : Int)).bind fun x6 => (if Mv (((x5 + ((7919 : Int) * x6)) * (48271 : Int)) % (2147483647 : Int)) (((x5 + ((7919 : Int) * x6)) * (48271 : Int)) % (2147483647 : Int)) then ((atI (st.set j2 (x4 + (1 : Int))) (2 : Int)).bind fun x7 => (if Dv many then (some (((((((((((x5 + ((7919 : Int) * x6)) * (48271 : Int)) % (2147483647 : Int)) * (((x5 + ((7919 : Int) * x6)) * (48271 : Int)) % (2147483647 : Int))) % (2147483629 : Int)) + ((40692 : Int) * x7)) * (69621 : Int)) % (2147483587 : Int)) / (8 : Int)) % many), (st.set j2 (x4 + (1 : Int))))) else none)) else none)))))))

def _law_stretch_c1 (few : Int) (base : Int) : ((List Int) × StS) → Int → (((List Int) × StS) → Option ((List Int) × StS)) → Option ((List Int) × StS)
  | (x2, st2), t1, next1 => ((_law_take st2 (3 : Int)).bind fun (r2, st3) => ((atI ([few, few, base] : (List Int)) r2).bind fun x3 => ((_law_take st3 x3).bind fun (r3, st4) => (if x2.length < 16777216 then (next1 ((x2 ++ [r3]), st4)) else none))))
def _law_stretch_k2 : ((List Int) × StS) → Option ((List Int) × StS)
  | (x2, st2) => (some (x2, st2))
def _law_stretch (st : StS) (base : Int) (few : Int) : Option ((List Int) × StS) :=
  ((_law_take st (4 : Int)).bind fun (r1, st1) => (if Rg1 ((1 : Int) + r1) then (forK (_law_stretch_c1 few base) (irange 0 ((1 : Int) + r1)) ([], st1) (_law_stretch_k2)) else none))

def _law_bad_b1 (base : Int) (x1 : Int) : ((List (TI × Bool)) × StS) → Int → (((List (TI × Bool)) × StS) → Option ((List (List Int)) × StS)) → Option ((List (List Int)) × StS)
  | (x2, st3), t1, next1 => ((_law_stretch st3 base (if x1 < base then x1 else base)).bind fun (r3, st4) => (if x2.length < 16777216 then (next1 ((putT x2 (⟨r3⟩ : TI) true), st4)) else none))
def _law_bad_c3 : ((List (List Int)) × StS) → TI → (((List (List Int)) × StS) → Option ((List (List Int)) × StS)) → Option ((List (List Int)) × StS)
  | (x4, st5), t2, next2 => (if x4.length < 16777216 then (next2 ((x4 ++ [(t2).l]), st5)) else none)
def _law_bad_k4 : ((List (List Int)) × StS) → Option ((List (List Int)) × StS)
  | (x4, st5) => (some (x4, st5))
def _law_bad_e2 : ((List (TI × Bool)) × StS) → Option ((List (List Int)) × StS)
  | (x2, st3) => (if (x2.map (·.1)).length ≤ 16777216 then (if ∀ z9 ∈ (x2.map (·.1)), z9.l ≠ [] then (forK (_law_bad_c3) ((sortT (x2.map (·.1)))) ([], st3) (_law_bad_k4)) else none) else none)
def _law_bad (st : StS) (base : Int) : Option ((List (List Int)) × StS) :=
  ((_law_take st (3 : Int)).bind fun (r1, st1) => ((atI ([(2 : Int), (3 : Int), base] : (List Int)) r1).bind fun x1 => ((_law_take st1 (5 : Int)).bind fun (r2, st2) => (if Rg1 r2 then (forK (_law_bad_b1 base x1) (irange 0 r2) (([] : (List (TI × Bool))), st2) (_law_bad_e2)) else none))))


def _law_base (st : StS)  : Option (Int × StS) :=
  ((_law_take st (15 : Int)).bind fun (r1, st1) => ((_law_take st1 (5 : Int)).bind fun (r2, st2) => ((atI ([(2 : Int), (3 : Int), (10 : Int), (16 : Int), ((2 : Int) + r1)] : (List Int)) r2).bind fun x1 => (some (x1, st2)))))


def _law_rule (st : StS)  : Option ((Int × (List (List Int))) × StS) :=
  ((_law_base st).bind fun (r1, st1) => ((_law_bad st1 r1).bind fun (r2, st2) => (some ((r1, r2), st2))))

def _law_same_base_b3 : ((List (TI × Bool)) × StS) → (List Int) → (((List (TI × Bool)) × StS) → Option ((List (Int × (List (List Int)))) × StS)) → Option ((List (Int × (List (List Int)))) × StS)
  | (x3, st5), t2, next2 => (if x3.length < 16777216 then (next2 ((putT x3 (⟨t2⟩ : TI) true), st5)) else none)
def _law_same_base_c6 : ((List (List Int)) × StS) → TI → (((List (List Int)) × StS) → Option ((List (Int × (List (List Int)))) × StS)) → Option ((List (Int × (List (List Int)))) × StS)
  | (x8, st12), t3, next3 => (if x8.length < 16777216 then (next3 ((x8 ++ [(t3).l]), st12)) else none)
def _law_same_base_k7 (x2 : (List (List Int))) (x1 : (List (Int × (List (List Int))))) (next1 : (((List (Int × (List (List Int)))) × (List (List Int)) × StS) → Option ((List (Int × (List (List Int)))) × StS))) (r1 : Int) : ((List (List Int)) × StS) → Option ((List (Int × (List (List Int)))) × StS)
  | (x8, st12) => (if x2.length + (cutT x8 none (some (4 : Int))).length ≤ 16777216 then (if x1.length < 16777216 then (next1 ((x1 ++ [(r1, (cutT x8 none (some (4 : Int))))]), (x2 ++ (cutT x8 none (some (4 : Int)))), st12)) else none) else none)
def _law_same_base_j5 (x2 : (List (List Int))) (x1 : (List (Int × (List (List Int))))) (next1 : (((List (Int × (List (List Int)))) × (List (List Int)) × StS) → Option ((List (Int × (List (List Int)))) × StS))) (r1 : Int) : ((List (TI × Bool)) × StS) → Option ((List (Int × (List (List Int)))) × StS)
  | (x4, st6) => (if (x4.map (·.1)).length ≤ 16777216 then (if ∀ z9 ∈ (x4.map (·.1)), z9.l ≠ [] then (forK (_law_same_base_c6) ((sortT (x4.map (·.1)))) ([], st6) (_law_same_base_k7 x2 x1 next1 r1)) else none) else none)
def _law_same_base_e4 (x2 : (List (List Int))) (r1 : Int) (x1 : (List (Int × (List (List Int))))) (next1 : (((List (Int × (List (List Int)))) × (List (List Int)) × StS) → Option ((List (Int × (List (List Int)))) × StS))) : ((List (TI × Bool)) × StS) → Option ((List (Int × (List (List Int)))) × StS)
  | (x3, st5) => (if (!(eqT x2 [])) = true then ((_law_take st5 (2 : Int)).bind fun (r4, st7) => (if (decide (r4 = (0 : Int))) = true then ((_law_take st7 (x2.length : Int)).bind fun (r5, st8) => ((atI x2 r5).bind fun x5 => ((_law_take st8 r1).bind fun (r6, st9) => (if ([r6] : (List Int)).length + x5.length ≤ 16777216 then ((_law_take st9 r1).bind fun (r7, st10) => (if x5.length + ([r7] : (List Int)).length ≤ 16777216 then ((_law_take st10 (3 : Int)).bind fun (r8, st11) => ((atI ([x5, (([r6] : (List Int)) ++ x5), (x5 ++ ([r7] : (List Int)))] : (List (List Int))) r8).bind fun x6 => (if x3.length < 16777216 then ((_law_same_base_j5 x2 x1 next1 r1) ((putT x3 (⟨(cutT x6 none (some (4 : Int)))⟩ : TI) true), st11)) else none))) else none)) else none)))) else ((_law_same_base_j5 x2 x1 next1 r1) (x3, st7)))) else ((_law_same_base_j5 x2 x1 next1 r1) (x3, st5)))
def _law_same_base_b1 (r1 : Int) : ((List (Int × (List (List Int)))) × (List (List Int)) × StS) → Int → (((List (Int × (List (List Int)))) × (List (List Int)) × StS) → Option ((List (Int × (List (List Int)))) × StS)) → Option ((List (Int × (List (List Int)))) × StS)
  | (x1, x2, st3), t1, next1 => ((_law_bad st3 r1).bind fun (r3, st4) => (forK (_law_same_base_b3) (r3) (([] : (List (TI × Bool))), st4) (_law_same_base_e4 x2 r1 x1 next1)))
def _law_same_base_e2 : ((List (Int × (List (List Int)))) × (List (List Int)) × StS) → Option ((List (Int × (List (List Int)))) × StS)
  | (x1, x2, st3) => (some (x1, st3))
def _law_same_base (st : StS)  : Option ((List (Int × (List (List Int)))) × StS) :=
  ((_law_base st).bind fun (r1, st1) => ((_law_take st1 (3 : Int)).bind fun (r2, st2) => (if Rg1 ((1 : Int) + r2) then (forK (_law_same_base_b1 r1) (irange 0 ((1 : Int) + r2)) (([] : (List (Int × (List (List Int))))), ([] : (List (List Int))), st2) (_law_same_base_e2)) else none)))

def _law_store_j1 (cell : Int) : Int → Option (List Int)
  | x1 => (some ([x1, (cell % (2147483629 : Int)), (1 : Int)] : (List Int)))
def _law_store (cell : Int) : Option (List Int) :=
  (if (decide (((10 : Int) ^ (18 : Int).toNat) ≤ cell)) = true then ((_law_store_j1 cell) cell) else ((_law_store_j1 cell) (0 : Int)))

def law_c6 : (List (Int × (List (List Int)))) → (Int × (List (List Int))) → ((List (Int × (List (List Int)))) → Option Bool) → Option Bool
  | x9, t3, next3 => ((_law_copy t3).bind fun r7 => (if x9.length < 16777216 then (next3 (x9 ++ [r7])) else none))
def law_k7 (x4 : (List (Int × (List (List Int))))) (next2 : ((List Int) → Option Bool)) (x3 : (List Int)) : (List (Int × (List (List Int)))) → Option Bool
  | x9 => ((_law_right x4 x9).bind fun r8 => (if (!r8) = true then (some false) else (next2 x3)))
def law_j5 (next2 : ((List Int) → Option Bool)) : ((List Int) × (List (Int × (List (List Int))))) → Option Bool
  | (x3, x4) => (forK (law_c6) (x4) [] (law_k7 x4 next2 x3))
def law_b3 : (List Int) → Int → ((List Int) → Option Bool) → Option Bool
  | x1, t2, next2 => ((_law_same_base x1).bind fun (r3, x2) => ((_law_take x2 (6 : Int)).bind fun (r4, x5) => (if (decide (r4 = (0 : Int))) = true then ((_law_take x5 (r3.length : Int)).bind fun (r5, x6) => ((_law_rule x6).bind fun (r6, x7) => ((ixN r3.length r5).bind fun j1 => ((law_j5 next2) (x7, (r3.set j1 r6)))))) else ((law_j5 next2) (x5, r3)))))
def law_e4 (next1 : (Unit → Option Bool)) : (List Int) → Option Bool
  | x1 => (next1 ())
def law_b1 (ns : (List Int)) : Unit → Int → (Unit → Option Bool) → Option Bool
  | _, t1, next1 => ((_law_cell ns t1).bind fun r1 => ((_law_store r1).bind fun r2 => (forK (law_b3) (irange 0 (3 : Int)) r2 (law_e4 next1))))
def law_e2 : Unit → Option Bool
  | _ => ((one_rule ([((10 : Int), ([([(1 : Int), (3 : Int)] : (List Int)), ([(1 : Int), (3 : Int), (1 : Int)] : (List Int))] : (List (List Int)))), ((10 : Int), ([([(1 : Int)] : (List Int))] : (List (List Int))))] : (List (Int × (List (List Int)))))).bind fun r9 => exB r9 (fun y12 => (some (eqT y12 ((10 : Int), ([([(1 : Int)] : (List Int))] : (List (List Int))))))) (fun er1 => none))
def law (ns : List Int) : Option Bool :=
  (if Rg1 (if (12 : Int) < (if (3 : Int) > (ns.length : Int) then (3 : Int) else (ns.length : Int)) then (12 : Int) else (if (3 : Int) > (ns.length : Int) then (3 : Int) else (ns.length : Int))) then (forK (law_b1 ns) (irange 0 (if (12 : Int) < (if (3 : Int) > (ns.length : Int) then (3 : Int) else (ns.length : Int)) then (12 : Int) else (if (3 : Int) > (ns.length : Int) then (3 : Int) else (ns.length : Int)))) () (law_e2)) else none)
section
variable [ErT]
structure Txt (K : PySem.W.Frag) (mg : Str → Option Value) where
  f__law_cell : FnAt K mg "_law_cell" s__law_cell ["script", "k"]
  f__law_copy : FnAt K mg "_law_copy" s__law_copy ["rule"]
  f__law_kind : FnAt K mg "_law_kind" s__law_kind ["e", "due"]
  f_is_whole : FnAt K mg "is_whole" s_is_whole ["thing"]
  f_is_base : FnAt K mg "is_base" s_is_base ["thing"]
  f_is_figure : FnAt K mg "is_figure" s_is_figure ["base", "thing"]
  f_are_figures : FnAt K mg "are_figures" s_are_figures ["base", "thing"]
  f_is_stretch : FnAt K mg "is_stretch" s_is_stretch ["base", "thing"]
  f_is_rule : FnAt K mg "is_rule" s_is_rule ["thing"]
  f_need_rules : FnAt K mg "need_rules" s_need_rules ["thing"]
  f_stands_in : FnAt K mg "stands_in" s_stands_in ["stretch", "figures"]
  f_one_rule : FnAt K mg "one_rule" s_one_rule ["rules"]
  f__law_asked : FnAt K mg "_law_asked" s__law_asked ["rules", "due"]
  f__law_lacks : FnAt K mg "_law_lacks" s__law_lacks ["bad", "figures"]
  f__law_due : FnAt K mg "_law_due" s__law_due ["rules"]
  f__law_right : FnAt K mg "_law_right" s__law_right ["rules", "given"]
  f__law_take : FnAt K mg "_law_take" s__law_take ["store", "many"]
  f__law_stretch : FnAt K mg "_law_stretch" s__law_stretch ["store", "base", "few"]
  f__law_bad : FnAt K mg "_law_bad" s__law_bad ["store", "base"]
  f__law_base : FnAt K mg "_law_base" s__law_base ["store"]
  f__law_rule : FnAt K mg "_law_rule" s__law_rule ["store"]
  f__law_same_base : FnAt K mg "_law_same_base" s__law_same_base ["store"]
  f__law_store : FnAt K mg "_law_store" s__law_store ["cell"]
  f_law : FnAt K mg "law" s_law ["script"]
  er : ErTxt K mg
  c_LEAST_BASE : CAt mg "LEAST_BASE" 2
  c_MOST_BASE : CAt mg "MOST_BASE" 16
  c_MOST_FIGURES : CAt mg "MOST_FIGURES" 4
  c_MOST_RULES : CAt mg "MOST_RULES" 3
  c_MOST_STRETCHES : CAt mg "MOST_STRETCHES" 4
  z_ValueError : mg "ValueError" = none
  z_bool : mg "bool" = none
  z_int : mg "int" = none
  z_isinstance : mg "isinstance" = none
  z_len : mg "len" = none
  z_list : mg "list" = none
  z_max : mg "max" = none
  z_min : mg "min" = none
  z_range : mg "range" = none
  z_sorted : mg "sorted" = none
  z_str : mg "str" = none
  z_tuple : mg "tuple" = none
  z_zip : mg "zip" = none
abbrev N__law_cell : List Str := ["script", "k"]
theorem sc__law_cell : FnScope N__law_cell ["script", "k"] (defScope s__law_cell) := ⟨rfl, rfl, rfl, by decide +kernel, rfl, by decide +kernel, by decide +kernel⟩
def sp__law_cell (K : PySem.W.Frag) : Sp := fun vs H Q _ => ∃ (F : Hp) (v_script : V) (v_k : V) (script : (List Int)) (k : Int) (r : Int), vs = [v_script, v_k] ∧ Sub F H ∧ ScR K H v_script script ∧ R F v_k k ∧ _law_cell script k = some r ∧ ∀ N H2 v, Gr NA F H N H2 → R N v r → Q v H2
theorem ok__law_cell {P : Program} {w : World} {K : PySem.W.Frag} {mg : Str → Option Value} {base : Heap} (T : Txt K mg) : FnOk P w K mg base CX0 1 T.f__law_cell.f T.f__law_cell.fd ["script", "k"] (sp__law_cell K) := by
  have nd := (sc__law_cell).nd
  refine T.f__law_cell.F.ok sc__law_cell (fun vs H Q E h => ?_) (fun cdv A0 outer s H vs Q E hr h => ?_)
  · obtain ⟨_, _, _, _, _, _, rfl, _⟩ := h
    rfl
  obtain ⟨F0, v_script, v_k, script, k, r, rfl, s0, f_script, f_k, hm, q⟩ := h
  have G0 : Gr NA F0 H F0 H := Gr.refl s0
  obtain ⟨a1, rfl, sq1⟩ := f_script
  obtain rfl := int_of f_k
  refine ⟨_, (pss_cons (ps_if (pt_cmp (pc_lt (pv 1) (pe_callB (r := rLenT K) call_lenT (by rfl) T.z_len PySem.boot_len (pa_cons (pv 0) pa_nil)))) (pss_one (ps_ret (pe_ix (r := rIxL K) ix_list (pv 0) (pv 1) (fun _ _ => rfl)))) pss_nil) (pss_one (ps_ret (pe_op op_add (pe_op op_add (pe_op op_mulW (pe_op op_mul pe_int (pv 1)) (pv 1)) (pe_op op_mul pe_int (pv 1))) pe_int)))), ?_⟩
  refine x_start (σ' := ([some (.ref a1), some (.int k)] : L2.St)) (by with_unfolding_all rfl) ?_
  rw [_law_cell] at hm
  with_reducible refine x_seq ?_
  with_reducible refine x_if ?_
  with_reducible refine x_B ?_
  with_reducible refine x_cmp ?_
  refine ⟨_, rfl, ?_⟩
  with_reducible refine x_cb ?_
  with_reducible refine x_cons ?_
  refine ⟨_, rfl, ?_⟩
  refine ⟨_, _, rfl, .inl (SqL_gr sq1 G0), ?_⟩
  rw [List.length_map]
  refine ⟨_, _, rfl, rfl, ?_⟩
  refine ⟨_, rfl, ?_⟩
  refine ifD (fun hc => ?_) (fun hc => ?_)
  · replace hm := itep hm hc
    with_reducible refine x_ret ?_
    with_reducible refine x_op ?_
    refine ⟨_, rfl, ?_⟩
    refine ⟨_, rfl, ?_⟩
    obtain ⟨x1, hx1, hm⟩ := bindp hm
    refine ⟨_, _, _, _, rfl, rfl, SqL_gr sq1 G0, atI_map hx1, ?_⟩
    obtain rfl : _ = r := Option.some.inj hm
    exact q _ _ _ G0 (.int _)
  · replace hm := iten hm (bF hc)
    with_reducible refine x_next ?_
    with_reducible refine x_ret ?_
    with_reducible refine x_op ?_
    with_reducible refine x_op ?_
    with_reducible refine x_op ?_
    with_reducible refine x_op ?_
    with_reducible refine x_c ?_
    refine ⟨_, rfl, ?_⟩
    refine ⟨_, _, rfl, rfl, .inl ⟨by decide, by decide⟩, ?_⟩
    refine ⟨_, rfl, ?_⟩
    obtain ⟨c1, hm⟩ := guardp hm
    refine ⟨_, _, rfl, rfl, c1.w, ?_⟩
    with_reducible refine x_op ?_
    with_reducible refine x_c ?_
    refine ⟨_, rfl, ?_⟩
    refine ⟨_, _, rfl, rfl, .inl ⟨by decide, by decide⟩, ?_⟩
    refine ⟨_, _, rfl, rfl, ?_⟩
    with_reducible refine x_c ?_
    refine ⟨_, _, rfl, rfl, ?_⟩
    obtain rfl : _ = r := Option.some.inj hm
    exact q _ _ _ G0 (.int _)

abbrev N__law_copy : List Str := ["rule", "one"]
theorem sc__law_copy : FnScope N__law_copy ["rule"] (defScope s__law_copy) := ⟨rfl, rfl, rfl, by decide +kernel, rfl, by decide +kernel, by decide +kernel⟩
def sp__law_copy : Sp := fun vs H Q _ => ∃ (F : Hp) (v_rule : V) (rule : (Int × (List (List Int)))) (r : (Int × (List (List Int)))), vs = [v_rule] ∧ Sub F H ∧ R F v_rule rule ∧ _law_copy rule = some r ∧ ∀ N H2 v, Gr NA F H N H2 → R N v r → Q v H2
theorem ok__law_copy {P : Program} {w : World} {K : PySem.W.Frag} {mg : Str → Option Value} {base : Heap} (T : Txt K mg) : FnOk P w K mg base CX0 1 T.f__law_copy.f T.f__law_copy.fd ["rule"] sp__law_copy := by
  have nd := (sc__law_copy).nd
  refine T.f__law_copy.F.ok sc__law_copy (fun vs H Q E h => ?_) (fun cdv A0 outer s H vs Q E hr h => ?_)
  · obtain ⟨_, _, _, _, rfl, _⟩ := h
    rfl
  obtain ⟨F0, v_rule, rule, r, rfl, s0, f_rule, hm, q⟩ := h
  have G0 : Gr NA F0 H F0 H := Gr.refl s0
  obtain ⟨a1, v1, v2, rfl, fa1, d1, d2⟩ := tup2_of f_rule
  obtain rfl := int_of d1
  obtain ⟨a2, us1, rfl, fa2, fr1⟩ := lst_of d2
  refine ⟨_, (pss_one (ps_ret (pe_tup (pa_cons (pe_ix (r := rIxT K) ix_tup (pv 0) pe_int (fun _ _ => rfl)) (pa_cons (pe_lc (own := [("one", 1)]) (g := (gName 1)) rfl nd (pi_list (pe_ix (r := rIxT K) ix_tup (pv 0) pe_int (fun _ _ => rfl))) (blkOk_by (own := [("one", 1)]) (N := N__law_copy) (sc := defScope s__law_copy) (by decide +kernel)) (fun _ _ _ _ _ => pg_name (i := 1) nd rfl (Or.inl rfl)) (fun _ _ _ _ _ => pts_nil) (fun _ _ _ _ _ => (pe_callTy (r := rListT K) call_listT (by rfl) T.z_list (by decide +kernel) (pa_cons (pv 1) pa_nil)))) pa_nil))))), ?_⟩
  refine x_start (σ' := ([some (.ref a1), none] : L2.St)) (by with_unfolding_all rfl) ?_
  rw [_law_copy] at hm
  with_reducible refine x_ret ?_
  with_reducible refine x_tup ?_
  with_reducible refine x_cons ?_
  with_reducible refine x_op ?_
  refine ⟨_, rfl, ?_⟩
  refine ⟨_, _, _, _, rfl, rfl, .inl (.inl (G0.sub _ _ fa1)), atI_nat (j := 0) rfl, ?_⟩
  with_reducible refine x_cons ?_
  with_reducible refine x_lc ?_
  with_reducible refine x_iter ?_
  with_reducible refine x_op ?_
  refine ⟨_, rfl, ?_⟩
  refine ⟨_, _, _, _, rfl, rfl, .inl (.inl (G0.sub _ _ fa1)), atI_nat (j := 1) rfl, ?_⟩
  refine ⟨_, rfl, ⟨_, .inl (.inl (G0.sub _ _ fa2))⟩, fun p1 np1 => ?_⟩
  have g1 := Gr.newO (o := .lst []) G0.sub np1
  have o1 := Ow.new (us := []) G0 np1
  have G1 := G0.step g1
  refine lc_lst (α := (List Int)) (fun (ts1 : List (List Int)) H1 => ∃ (F1 : Hp) (x2 : List (List Int)) (us3 : List V), forK (_law_copy_c1) ts1 x2 (_law_copy_k2 rule) = some r ∧ Sub (F0) F1 ∧ Gr NA F0 H F1 H1 ∧ Ow H F1 H1 p1 us3 ∧ Rs F1 us3 x2) (Rs_mono (Sub.refl _) fr1) ⟨F0, ([] : List (List Int)), _, hm, (Sub.refl _), G1, o1, Rs_nil⟩ (fun _ _ h => ?_) (fun t1 ts2 v3 H1 hv1 hW => ?_) (fun H1 hW => ?_)
  · obtain ⟨F9z, _, _, _, s9z, G9z, _⟩ := h
    exact G9z.sub _ _ (s9z _ _ ((Sub.refl _) _ _ fa2))
  · skip
    obtain ⟨F1, x2, us3, hm, s1, G2, o2, fr2⟩ := hW
    obtain ⟨next1, hnx1⟩ : ∃ nx, nx = fun s => forK (_law_copy_c1) ts2 s (_law_copy_k2 rule) := ⟨_, rfl⟩
    have hm : (_law_copy_c1) x2 t1 next1 = some r := by rw [hnx1]; exact forK_c hm
    rw [_law_copy_c1] at hm
    obtain ⟨a3, us4, rfl, fa3, fr3⟩ := lst_of hv1
    with_reducible refine x_gnE (σ' := ([some (.ref a1), some (.ref a3)] : L2.St)) (by with_unfolding_all rfl) ?_
    refine ⟨rfl, ?_⟩
    with_reducible refine x_yes ?_
    refine iteT ?_
    with_reducible refine x_cb ?_
    with_reducible refine x_cons ?_
    refine ⟨_, rfl, ?_⟩
    refine ⟨_, _, rfl, .inl (.inl (.inl ((s1.trans G2.sub) _ _ fa3))), fun p2 np2 => ?_⟩
    have g2 := Gr.newO (o := .lst us4) G2.sub np2
    have o3 := Ow.new (us := us4) G2 np2
    have ne1 := o2.ne_new np2
    have G3 := G2.step g2
    have o4 := o2.step g2
    obtain ⟨F2, G4, ex1, fa4, nf1⟩ := o3.frzE G3
    have o5 := o4.frzN (Ne.symm (Ne.symm ne1)) nf1
    have fr4 := Rs_mono ex1 (Rs_mono s1 fr3)
    obtain ⟨c1, hm⟩ := guardp hm
    have G5 := o5.mutG (o := .lst (us3 ++ [(.ref p2)])) G4
    have o6 := o5.mut (ws := us3 ++ [(.ref p2)])
    have fr5 : Rs (α := (List Int)) (F2) (us3 ++ [(.ref p2)]) (x2 ++ [t1]) := Rs_snoc (Rs_mono ex1 fr2) (mk_lst ((Sub.refl _) _ _ fa4) (Rs_mono (Sub.refl _) fr4))
    rw [hnx1] at hm
    exact ⟨_, o5.at_, szl (by rw [Rs_len (Rs_mono ex1 fr2)]; exact c1), ⟨F2, (x2 ++ [t1]), _, hm, (s1.trans ex1), G5, o6, fr5⟩⟩
  · skip
    obtain ⟨F1, x2, us3, hm, s2, G6, o7, fr6⟩ := hW
    have hm : (_law_copy_k2 rule) x2 = some r := forK_n hm
    rw [_law_copy_k2] at hm
    obtain ⟨F3, G7, ex2, fa5, nf2⟩ := o7.frzE G6
    have fr7 := Rs_mono ex2 fr6
    refine ⟨szle (show 2 ≤ 16777216 from by decide), fun p3 np3 => ?_⟩
    obtain ⟨F4, g3, fa6⟩ := Gr.newE (o := .tup [(.int (rule).1), (.ref p1)]) G7.sub np3
    have G8 := G7.step g3
    obtain rfl : _ = r := Option.some.inj hm
    exact q _ _ _ G8 (mk_tup2 ((Sub.refl _) _ _ fa6) (.int _) (mk_lst (g3.ex _ _ fa5) (Rs_mono g3.ex fr7)))

abbrev N__law_kind : List Str := ["e", "due", "kinds", "words", "found", "word", "kind"]
theorem sc__law_kind : FnScope N__law_kind ["e", "due"] (defScope s__law_kind) := ⟨rfl, rfl, rfl, by decide +kernel, rfl, by decide +kernel, by decide +kernel⟩
def sp__law_kind : Sp := fun vs H Q _ => ∃ (F : Hp) (v_e : V) (v_due : V) (e : (Option Er)) (due : Str) (r : Bool), vs = [v_e, v_due] ∧ Sub F H ∧ RX F v_e e ∧ R F v_due due ∧ _law_kind e due = some r ∧ ∀ N H2 v, Gr NA F H N H2 → R N v r → Q v H2
theorem ok__law_kind {P : Program} {w : World} {K : PySem.W.Frag} {mg : Str → Option Value} {base : Heap} (T : Txt K mg) : FnOk P w K mg base CX0 1 T.f__law_kind.f T.f__law_kind.fd ["e", "due"] sp__law_kind := by
  have nd := (sc__law_kind).nd
  refine T.f__law_kind.F.ok sc__law_kind (fun vs H Q E h => ?_) (fun cdv A0 outer s H vs Q E hr h => ?_)
  · obtain ⟨_, _, _, _, _, _, rfl, _⟩ := h
    rfl
  obtain ⟨F0, v_e, v_due, e, due, r, rfl, s0, f_e, f_due, hm, q⟩ := h
  have G0 : Gr NA F0 H F0 H := Gr.refl s0
  obtain rfl := str_of f_due
  refine ⟨_, (pss_cons (ps_set (i := 2) nd rfl (by first | exact Or.inl rfl | exact Or.inr rfl) (pe_lst (pa_cons (pe_callB (r := rIsX K) call_isX (by rfl) T.z_isinstance (by decide +kernel) (pa_cons (pv 0) (pa_cons (pe_glob (v := .ref (ErT.ad .NoBase)) (by rfl) (T.er.r .NoBase).g rfl) pa_nil))) (pa_cons (pe_callB (r := rIsX K) call_isX (by rfl) T.z_isinstance (by decide +kernel) (pa_cons (pv 0) (pa_cons (pe_glob (v := .ref (ErT.ad .NoNumber)) (by rfl) (T.er.r .NoNumber).g rfl) pa_nil))) (pa_cons (pe_callB (r := rIsX K) call_isX (by rfl) T.z_isinstance (by decide +kernel) (pa_cons (pv 0) (pa_cons (pe_glob (v := .ref (ErT.ad .NoFigures)) (by rfl) (T.er.r .NoFigures).g rfl) pa_nil))) (pa_cons (pe_callB (r := rIsX K) call_isX (by rfl) T.z_isinstance (by decide +kernel) (pa_cons (pv 0) (pa_cons (pe_glob (v := .ref (ErT.ad .NoRule)) (by rfl) (T.er.r .NoRule).g rfl) pa_nil))) pa_nil)))))) (pss_cons (ps_set (i := 2) nd rfl (by first | exact Or.inl rfl | exact Or.inr rfl) (pe_op op_cat (pv 2) (pe_lst (pa_cons (pe_callB (r := rIsX K) call_isX (by rfl) T.z_isinstance (by decide +kernel) (pa_cons (pv 0) (pa_cons (pe_glob (v := .ref (ErT.ad .NoStand)) (by rfl) (T.er.r .NoStand).g rfl) pa_nil))) (pa_cons (pe_callB (r := rIsX K) call_isX (by rfl) T.z_isinstance (by decide +kernel) (pa_cons (pv 0) (pa_cons (pe_glob (v := .ref (ErT.ad .NoGood)) (by rfl) (T.er.r .NoGood).g rfl) pa_nil))) (pa_cons (pe_callB (r := rIsX K) call_isX (by rfl) T.z_isinstance (by decide +kernel) (pa_cons (pv 0) (pa_cons (pe_glob (v := .ref (ErT.ad .Endless)) (by rfl) (T.er.r .Endless).g rfl) pa_nil))) (pa_cons (pe_callB (r := rIsX K) call_isX (by rfl) T.z_isinstance (by decide +kernel) (pa_cons (pv 0) (pa_cons (pe_glob (v := .ref (ErT.ad .NoRules)) (by rfl) (T.er.r .NoRules).g rfl) pa_nil))) pa_nil))))))) (pss_cons (ps_set (i := 2) nd rfl (by first | exact Or.inl rfl | exact Or.inr rfl) (pe_op op_cat (pv 2) (pe_lst (pa_cons (pe_callB (r := rIsX K) call_isX (by rfl) T.z_isinstance (by decide +kernel) (pa_cons (pv 0) (pa_cons (pe_glob (v := .ref (ErT.ad .NoStretch)) (by rfl) (T.er.r .NoStretch).g rfl) pa_nil))) (pa_cons (pe_callB (r := rIsX K) call_isX (by rfl) T.z_isinstance (by decide +kernel) (pa_cons (pv 0) (pa_cons (pe_glob (v := .ref (ErT.ad .TooMany)) (by rfl) (T.er.r .TooMany).g rfl) pa_nil))) (pa_cons (pe_callB (r := rIsX K) call_isX (by rfl) T.z_isinstance (by decide +kernel) (pa_cons (pv 0) (pa_cons (pe_glob (v := .ref (ErT.ad .NoText)) (by rfl) (T.er.r .NoText).g rfl) pa_nil))) pa_nil)))))) (pss_cons (ps_set (i := 2) nd rfl (by first | exact Or.inl rfl | exact Or.inr rfl) (pe_op op_cat (pv 2) (pe_lst (pa_cons (pe_callB (r := rIsX K) call_isX (by rfl) T.z_isinstance (by decide +kernel) (pa_cons (pv 0) (pa_cons (pe_glob (v := .ref (ErT.ad .NoName)) (by rfl) (T.er.r .NoName).g rfl) pa_nil))) (pa_cons (pe_callB (r := rIsX K) call_isX (by rfl) T.z_isinstance (by decide +kernel) (pa_cons (pv 0) (pa_cons (pe_glob (v := .ref (ErT.ad .NoRow)) (by rfl) (T.er.r .NoRow).g rfl) pa_nil))) pa_nil))))) (pss_cons (ps_set (i := 3) nd rfl (by first | exact Or.inl rfl | exact Or.inr rfl) (pe_lst (pa_cons pe_str (pa_cons pe_str (pa_cons pe_str (pa_cons pe_str (pa_cons pe_str (pa_cons pe_str (pa_cons pe_str (pa_cons pe_str (pa_cons pe_str (pa_cons pe_str (pa_cons pe_str pa_nil))))))))))))) (pss_cons (ps_setLc (i := 4) (own := [("word", 5), ("kind", 6)]) (g := ((gTup K 2 (gCons (gName 5) (gCons (gName 6) gNil))))) rfl nd rfl rfl (sw_true rfl rfl rfl (by decide +kernel)) (pi_zip (by rfl) T.z_zip (pa_cons (pe_op op_cat (pv 3) (pe_lst (pa_cons pe_str (pa_cons pe_str pa_nil)))) (pa_cons (pv 2) pa_nil))) (blkOk_by (own := [("word", 5), ("kind", 6)]) (N := N__law_kind) (sc := defScope s__law_kind) (by decide +kernel)) (fun _ _ _ _ _ => pg_tup rfl (pgs_cons (pg_name (i := 5) nd rfl (Or.inl rfl) (Or.inr rfl)) (pgs_cons (pg_name (i := 6) nd rfl (Or.inl rfl) (Or.inr rfl)) pgs_nil))) (fun _ _ _ _ _ => pts_one (pt_val (pv 6))) (fun _ _ _ _ _ => (pv 5))) (pss_one (ps_ret (pe_and (pe_callB (r := rIsX K) call_isX (by rfl) T.z_isinstance (by decide +kernel) (pa_cons (pv 0) (pa_cons (pe_bltn (v := .ty "ValueError") (by rfl) T.z_ValueError (by decide +kernel) rfl) pa_nil))) (pe_one (pe_cmpR (op_eqA (hu64 hr)) (pv 4) (pe_lst (pa_cons (pv 1) pa_nil)) (nomark _)))))))))))), ?_⟩
  refine x_start (σ' := ([some v_e, some (.str due), none, none, none, none, none] : L2.St)) (by with_unfolding_all rfl) ?_
  rw [_law_kind] at hm
  with_reducible refine x_seq ?_
  with_reducible refine x_asg ?_
  with_reducible refine x_lst ?_
  with_reducible refine x_cons ?_
  with_reducible refine x_cb ?_
  with_reducible refine x_cons ?_
  refine ⟨_, rfl, ?_⟩
  with_reducible refine x_cons ?_
  with_reducible refine x_c ?_
  with_reducible refine x_nil ?_
  refine isiX_er T.er G0.sub (RX.mono (Sub.refl _) f_e) .NoBase ?_
  with_reducible refine x_cons ?_
  with_reducible refine x_cb ?_
  with_reducible refine x_cons ?_
  refine ⟨_, rfl, ?_⟩
  with_reducible refine x_cons ?_
  with_reducible refine x_c ?_
  with_reducible refine x_nil ?_
  refine isiX_er T.er G0.sub (RX.mono (Sub.refl _) f_e) .NoNumber ?_
  with_reducible refine x_cons ?_
  with_reducible refine x_cb ?_
  with_reducible refine x_cons ?_
  refine ⟨_, rfl, ?_⟩
  with_reducible refine x_cons ?_
  with_reducible refine x_c ?_
  with_reducible refine x_nil ?_
  refine isiX_er T.er G0.sub (RX.mono (Sub.refl _) f_e) .NoFigures ?_
  with_reducible refine x_cons ?_
  with_reducible refine x_cb ?_
  with_reducible refine x_cons ?_
  refine ⟨_, rfl, ?_⟩
  with_reducible refine x_cons ?_
  with_reducible refine x_c ?_
  with_reducible refine x_nil ?_
  refine isiX_er T.er G0.sub (RX.mono (Sub.refl _) f_e) .NoRule ?_
  refine ⟨szle (show 4 ≤ 16777216 from by decide), fun p1 np1 => ?_⟩
  have fr1 : Rs (α := Bool) (F0) [(.bl (decide (e = some .NoBase))), (.bl (decide (e = some .NoNumber))), (.bl (decide (e = some .NoFigures))), (.bl (decide (e = some .NoRule)))] ([(decide (e = some .NoBase)), (decide (e = some .NoNumber)), (decide (e = some .NoFigures)), (decide (e = some .NoRule))] : (List Bool)) := (Rs_cons (.bl _) (Rs_cons (.bl _) (Rs_cons (.bl _) (Rs_cons (.bl _) Rs_nil))))
  have g1 := Gr.newO (o := .lst [(.bl (decide (e = some .NoBase))), (.bl (decide (e = some .NoNumber))), (.bl (decide (e = some .NoFigures))), (.bl (decide (e = some .NoRule)))]) G0.sub np1
  have o1 := Ow.new (us := [(.bl (decide (e = some .NoBase))), (.bl (decide (e = some .NoNumber))), (.bl (decide (e = some .NoFigures))), (.bl (decide (e = some .NoRule)))]) G0 np1
  have G1 := G0.step g1
  obtain ⟨F1, G2, ex1, fa1, nf1⟩ := o1.frzE G1
  have fr2 := Rs_mono ex1 fr1
  with_reducible refine x_gnE (σ' := ([some v_e, some (.str due), some (.ref p1), none, none, none, none] : L2.St)) (by with_unfolding_all rfl) ?_
  with_reducible refine x_seq ?_
  with_reducible refine x_asg ?_
  with_reducible refine x_op ?_
  refine ⟨_, rfl, ?_⟩
  with_reducible refine x_lst ?_
  with_reducible refine x_cons ?_
  with_reducible refine x_cb ?_
  with_reducible refine x_cons ?_
  refine ⟨_, rfl, ?_⟩
  with_reducible refine x_cons ?_
  with_reducible refine x_c ?_
  with_reducible refine x_nil ?_
  refine isiX_er T.er G2.sub (RX.mono ex1 f_e) .NoStand ?_
  with_reducible refine x_cons ?_
  with_reducible refine x_cb ?_
  with_reducible refine x_cons ?_
  refine ⟨_, rfl, ?_⟩
  with_reducible refine x_cons ?_
  with_reducible refine x_c ?_
  with_reducible refine x_nil ?_
  refine isiX_er T.er G2.sub (RX.mono ex1 f_e) .NoGood ?_
  with_reducible refine x_cons ?_
  with_reducible refine x_cb ?_
  with_reducible refine x_cons ?_
  refine ⟨_, rfl, ?_⟩
  with_reducible refine x_cons ?_
  with_reducible refine x_c ?_
  with_reducible refine x_nil ?_
  refine isiX_er T.er G2.sub (RX.mono ex1 f_e) .Endless ?_
  with_reducible refine x_cons ?_
  with_reducible refine x_cb ?_
  with_reducible refine x_cons ?_
  refine ⟨_, rfl, ?_⟩
  with_reducible refine x_cons ?_
  with_reducible refine x_c ?_
  with_reducible refine x_nil ?_
  refine isiX_er T.er G2.sub (RX.mono ex1 f_e) .NoRules ?_
  refine ⟨szle (show 4 ≤ 16777216 from by decide), fun p2 np2 => ?_⟩
  have fr3 : Rs (α := Bool) (F1) [(.bl (decide (e = some .NoStand))), (.bl (decide (e = some .NoGood))), (.bl (decide (e = some .Endless))), (.bl (decide (e = some .NoRules)))] ([(decide (e = some .NoStand)), (decide (e = some .NoGood)), (decide (e = some .Endless)), (decide (e = some .NoRules))] : (List Bool)) := (Rs_cons (.bl _) (Rs_cons (.bl _) (Rs_cons (.bl _) (Rs_cons (.bl _) Rs_nil))))
  have g2 := Gr.newO (o := .lst [(.bl (decide (e = some .NoStand))), (.bl (decide (e = some .NoGood))), (.bl (decide (e = some .Endless))), (.bl (decide (e = some .NoRules)))]) G2.sub np2
  have o2 := Ow.new (us := [(.bl (decide (e = some .NoStand))), (.bl (decide (e = some .NoGood))), (.bl (decide (e = some .Endless))), (.bl (decide (e = some .NoRules)))]) G2 np2
  have G3 := G2.step g2
  obtain ⟨c1, hm⟩ := guardp hm
  refine ⟨_, _, _, _, rfl, rfl, (G3.sub _ _ fa1), o2.at_, szle (by rw [Rs_len (Rs_mono (Sub.refl _) fr2), Rs_len fr3]; exact c1), fun p3 np3 => ?_⟩
  have fr4 : Rs (α := Bool) (F1) ([(.bl (decide (e = some .NoBase))), (.bl (decide (e = some .NoNumber))), (.bl (decide (e = some .NoFigures))), (.bl (decide (e = some .NoRule)))] ++ [(.bl (decide (e = some .NoStand))), (.bl (decide (e = some .NoGood))), (.bl (decide (e = some .Endless))), (.bl (decide (e = some .NoRules)))]) (([(decide (e = some .NoBase)), (decide (e = some .NoNumber)), (decide (e = some .NoFigures)), (decide (e = some .NoRule))] : (List Bool)) ++ ([(decide (e = some .NoStand)), (decide (e = some .NoGood)), (decide (e = some .Endless)), (decide (e = some .NoRules))] : (List Bool))) := Rs_app (Rs_mono (Sub.refl _) fr2) fr3
  have g3 := Gr.newO (o := .lst ([(.bl (decide (e = some .NoBase))), (.bl (decide (e = some .NoNumber))), (.bl (decide (e = some .NoFigures))), (.bl (decide (e = some .NoRule)))] ++ [(.bl (decide (e = some .NoStand))), (.bl (decide (e = some .NoGood))), (.bl (decide (e = some .Endless))), (.bl (decide (e = some .NoRules)))])) G3.sub np3
  have o3 := Ow.new (us := ([(.bl (decide (e = some .NoBase))), (.bl (decide (e = some .NoNumber))), (.bl (decide (e = some .NoFigures))), (.bl (decide (e = some .NoRule)))] ++ [(.bl (decide (e = some .NoStand))), (.bl (decide (e = some .NoGood))), (.bl (decide (e = some .Endless))), (.bl (decide (e = some .NoRules)))])) G3 np3
  have G4 := G3.step g3
  obtain ⟨F2, G5, ex2, fa2, nf2⟩ := o3.frzE G4
  have fr5 := Rs_mono ex2 fr4
  obtain ⟨x1, hx1, hm⟩ := bindp hm
  replace hx1 := Option.some.inj hx1
  have fr6 : Rs (α := Bool) (F2) ([(.bl (decide (e = some .NoBase))), (.bl (decide (e = some .NoNumber))), (.bl (decide (e = some .NoFigures))), (.bl (decide (e = some .NoRule)))] ++ [(.bl (decide (e = some .NoStand))), (.bl (decide (e = some .NoGood))), (.bl (decide (e = some .Endless))), (.bl (decide (e = some .NoRules)))]) x1 := by rw [← hx1]; exact (Rs_mono (Sub.refl _) fr5)
  have fa3 := (Sub.refl _) _ _ fa2
  clear hx1
  with_reducible refine x_gnE (σ' := ([some v_e, some (.str due), some (.ref p3), none, none, none, none] : L2.St)) (by with_unfolding_all rfl) ?_
  with_reducible refine x_seq ?_
  with_reducible refine x_asg ?_
  with_reducible refine x_op ?_
  refine ⟨_, rfl, ?_⟩
  with_reducible refine x_lst ?_
  with_reducible refine x_cons ?_
  with_reducible refine x_cb ?_
  with_reducible refine x_cons ?_
  refine ⟨_, rfl, ?_⟩
  with_reducible refine x_cons ?_
  with_reducible refine x_c ?_
  with_reducible refine x_nil ?_
  refine isiX_er T.er G5.sub (RX.mono (ex1.trans ex2) f_e) .NoStretch ?_
  with_reducible refine x_cons ?_
  with_reducible refine x_cb ?_
  with_reducible refine x_cons ?_
  refine ⟨_, rfl, ?_⟩
  with_reducible refine x_cons ?_
  with_reducible refine x_c ?_
  with_reducible refine x_nil ?_
  refine isiX_er T.er G5.sub (RX.mono (ex1.trans ex2) f_e) .TooMany ?_
  with_reducible refine x_cons ?_
  with_reducible refine x_cb ?_
  with_reducible refine x_cons ?_
  refine ⟨_, rfl, ?_⟩
  with_reducible refine x_cons ?_
  with_reducible refine x_c ?_
  with_reducible refine x_nil ?_
  refine isiX_er T.er G5.sub (RX.mono (ex1.trans ex2) f_e) .NoText ?_
  refine ⟨szle (show 3 ≤ 16777216 from by decide), fun p4 np4 => ?_⟩
  have fr7 : Rs (α := Bool) (F2) [(.bl (decide (e = some .NoStretch))), (.bl (decide (e = some .TooMany))), (.bl (decide (e = some .NoText)))] ([(decide (e = some .NoStretch)), (decide (e = some .TooMany)), (decide (e = some .NoText))] : (List Bool)) := (Rs_cons (.bl _) (Rs_cons (.bl _) (Rs_cons (.bl _) Rs_nil)))
  have g4 := Gr.newO (o := .lst [(.bl (decide (e = some .NoStretch))), (.bl (decide (e = some .TooMany))), (.bl (decide (e = some .NoText)))]) G5.sub np4
  have o4 := Ow.new (us := [(.bl (decide (e = some .NoStretch))), (.bl (decide (e = some .TooMany))), (.bl (decide (e = some .NoText)))]) G5 np4
  have G6 := G5.step g4
  obtain ⟨c2, hm⟩ := guardp hm
  refine ⟨_, _, _, _, rfl, rfl, (G6.sub _ _ fa3), o4.at_, szle (by rw [Rs_len (Rs_mono (Sub.refl _) fr6), Rs_len fr7]; exact c2), fun p5 np5 => ?_⟩
  have fr8 : Rs (α := Bool) (F2) (([(.bl (decide (e = some .NoBase))), (.bl (decide (e = some .NoNumber))), (.bl (decide (e = some .NoFigures))), (.bl (decide (e = some .NoRule)))] ++ [(.bl (decide (e = some .NoStand))), (.bl (decide (e = some .NoGood))), (.bl (decide (e = some .Endless))), (.bl (decide (e = some .NoRules)))]) ++ [(.bl (decide (e = some .NoStretch))), (.bl (decide (e = some .TooMany))), (.bl (decide (e = some .NoText)))]) (x1 ++ ([(decide (e = some .NoStretch)), (decide (e = some .TooMany)), (decide (e = some .NoText))] : (List Bool))) := Rs_app (Rs_mono (Sub.refl _) fr6) fr7
  have g5 := Gr.newO (o := .lst (([(.bl (decide (e = some .NoBase))), (.bl (decide (e = some .NoNumber))), (.bl (decide (e = some .NoFigures))), (.bl (decide (e = some .NoRule)))] ++ [(.bl (decide (e = some .NoStand))), (.bl (decide (e = some .NoGood))), (.bl (decide (e = some .Endless))), (.bl (decide (e = some .NoRules)))]) ++ [(.bl (decide (e = some .NoStretch))), (.bl (decide (e = some .TooMany))), (.bl (decide (e = some .NoText)))])) G6.sub np5
  have o5 := Ow.new (us := (([(.bl (decide (e = some .NoBase))), (.bl (decide (e = some .NoNumber))), (.bl (decide (e = some .NoFigures))), (.bl (decide (e = some .NoRule)))] ++ [(.bl (decide (e = some .NoStand))), (.bl (decide (e = some .NoGood))), (.bl (decide (e = some .Endless))), (.bl (decide (e = some .NoRules)))]) ++ [(.bl (decide (e = some .NoStretch))), (.bl (decide (e = some .TooMany))), (.bl (decide (e = some .NoText)))])) G6 np5
  have G7 := G6.step g5
  obtain ⟨F3, G8, ex3, fa4, nf3⟩ := o5.frzE G7
  have fr9 := Rs_mono ex3 fr8
  with_reducible refine x_gnE (σ' := ([some v_e, some (.str due), some (.ref p5), none, none, none, none] : L2.St)) (by with_unfolding_all rfl) ?_
  with_reducible refine x_seq ?_
  with_reducible refine x_asg ?_
  with_reducible refine x_op ?_
  refine ⟨_, rfl, ?_⟩
  with_reducible refine x_lst ?_
  with_reducible refine x_cons ?_
  with_reducible refine x_cb ?_
  with_reducible refine x_cons ?_
  refine ⟨_, rfl, ?_⟩
  with_reducible refine x_cons ?_
  with_reducible refine x_c ?_
  with_reducible refine x_nil ?_
  refine isiX_er T.er G8.sub (RX.mono ((ex1.trans ex2).trans ex3) f_e) .NoName ?_
  with_reducible refine x_cons ?_
  with_reducible refine x_cb ?_
  with_reducible refine x_cons ?_
  refine ⟨_, rfl, ?_⟩
  with_reducible refine x_cons ?_
  with_reducible refine x_c ?_
  with_reducible refine x_nil ?_
  refine isiX_er T.er G8.sub (RX.mono ((ex1.trans ex2).trans ex3) f_e) .NoRow ?_
  refine ⟨szle (show 2 ≤ 16777216 from by decide), fun p6 np6 => ?_⟩
  have fr10 : Rs (α := Bool) (F3) [(.bl (decide (e = some .NoName))), (.bl (decide (e = some .NoRow)))] ([(decide (e = some .NoName)), (decide (e = some .NoRow))] : (List Bool)) := (Rs_cons (.bl _) (Rs_cons (.bl _) Rs_nil))
  have g6 := Gr.newO (o := .lst [(.bl (decide (e = some .NoName))), (.bl (decide (e = some .NoRow)))]) G8.sub np6
  have o6 := Ow.new (us := [(.bl (decide (e = some .NoName))), (.bl (decide (e = some .NoRow)))]) G8 np6
  have G9 := G8.step g6
  obtain ⟨c3, hm⟩ := guardp hm
  refine ⟨_, _, _, _, rfl, rfl, (G9.sub _ _ fa4), o6.at_, szle (by rw [Rs_len (Rs_mono (Sub.refl _) fr9), Rs_len fr10]; exact c3), fun p7 np7 => ?_⟩
  have fr11 : Rs (α := Bool) (F3) ((([(.bl (decide (e = some .NoBase))), (.bl (decide (e = some .NoNumber))), (.bl (decide (e = some .NoFigures))), (.bl (decide (e = some .NoRule)))] ++ [(.bl (decide (e = some .NoStand))), (.bl (decide (e = some .NoGood))), (.bl (decide (e = some .Endless))), (.bl (decide (e = some .NoRules)))]) ++ [(.bl (decide (e = some .NoStretch))), (.bl (decide (e = some .TooMany))), (.bl (decide (e = some .NoText)))]) ++ [(.bl (decide (e = some .NoName))), (.bl (decide (e = some .NoRow)))]) ((x1 ++ ([(decide (e = some .NoStretch)), (decide (e = some .TooMany)), (decide (e = some .NoText))] : (List Bool))) ++ ([(decide (e = some .NoName)), (decide (e = some .NoRow))] : (List Bool))) := Rs_app (Rs_mono (Sub.refl _) fr9) fr10
  have g7 := Gr.newO (o := .lst ((([(.bl (decide (e = some .NoBase))), (.bl (decide (e = some .NoNumber))), (.bl (decide (e = some .NoFigures))), (.bl (decide (e = some .NoRule)))] ++ [(.bl (decide (e = some .NoStand))), (.bl (decide (e = some .NoGood))), (.bl (decide (e = some .Endless))), (.bl (decide (e = some .NoRules)))]) ++ [(.bl (decide (e = some .NoStretch))), (.bl (decide (e = some .TooMany))), (.bl (decide (e = some .NoText)))]) ++ [(.bl (decide (e = some .NoName))), (.bl (decide (e = some .NoRow)))])) G9.sub np7
  have o7 := Ow.new (us := ((([(.bl (decide (e = some .NoBase))), (.bl (decide (e = some .NoNumber))), (.bl (decide (e = some .NoFigures))), (.bl (decide (e = some .NoRule)))] ++ [(.bl (decide (e = some .NoStand))), (.bl (decide (e = some .NoGood))), (.bl (decide (e = some .Endless))), (.bl (decide (e = some .NoRules)))]) ++ [(.bl (decide (e = some .NoStretch))), (.bl (decide (e = some .TooMany))), (.bl (decide (e = some .NoText)))]) ++ [(.bl (decide (e = some .NoName))), (.bl (decide (e = some .NoRow)))])) G9 np7
  have G10 := G9.step g7
  obtain ⟨F4, G11, ex4, fa5, nf4⟩ := o7.frzE G10
  have fr12 := Rs_mono ex4 fr11
  obtain ⟨x2, hx2, hm⟩ := bindp hm
  replace hx2 := Option.some.inj hx2
  have fr13 : Rs (α := Bool) (F4) ((([(.bl (decide (e = some .NoBase))), (.bl (decide (e = some .NoNumber))), (.bl (decide (e = some .NoFigures))), (.bl (decide (e = some .NoRule)))] ++ [(.bl (decide (e = some .NoStand))), (.bl (decide (e = some .NoGood))), (.bl (decide (e = some .Endless))), (.bl (decide (e = some .NoRules)))]) ++ [(.bl (decide (e = some .NoStretch))), (.bl (decide (e = some .TooMany))), (.bl (decide (e = some .NoText)))]) ++ [(.bl (decide (e = some .NoName))), (.bl (decide (e = some .NoRow)))]) x2 := by rw [← hx2]; exact (Rs_mono (Sub.refl _) fr12)
  have fa6 := (Sub.refl _) _ _ fa5
  clear hx2
  with_reducible refine x_gnE (σ' := ([some v_e, some (.str due), some (.ref p7), none, none, none, none] : L2.St)) (by with_unfolding_all rfl) ?_
  with_reducible refine x_seq ?_
  with_reducible refine x_asg ?_
  with_reducible refine x_lst ?_
  with_reducible refine x_cons ?_
  with_reducible refine x_c ?_
  with_reducible refine x_cons ?_
  with_reducible refine x_c ?_
  with_reducible refine x_cons ?_
  with_reducible refine x_c ?_
  with_reducible refine x_cons ?_
  with_reducible refine x_c ?_
  with_reducible refine x_cons ?_
  with_reducible refine x_c ?_
  with_reducible refine x_cons ?_
  with_reducible refine x_c ?_
  with_reducible refine x_cons ?_
  with_reducible refine x_c ?_
  with_reducible refine x_cons ?_
  with_reducible refine x_c ?_
  with_reducible refine x_cons ?_
  with_reducible refine x_c ?_
  with_reducible refine x_cons ?_
  with_reducible refine x_c ?_
  with_reducible refine x_cons ?_
  with_reducible refine x_c ?_
  refine ⟨szle (show 11 ≤ 16777216 from by decide), fun p8 np8 => ?_⟩
  have fr14 : Rs (α := Str) (F4) [(.str ("base" : Str)), (.str ("number" : Str)), (.str ("figures" : Str)), (.str ("rule" : Str)), (.str ("stand" : Str)), (.str ("good" : Str)), (.str ("endless" : Str)), (.str ("rules" : Str)), (.str ("stretch" : Str)), (.str ("many" : Str)), (.str ("text" : Str))] ([("base" : Str), ("number" : Str), ("figures" : Str), ("rule" : Str), ("stand" : Str), ("good" : Str), ("endless" : Str), ("rules" : Str), ("stretch" : Str), ("many" : Str), ("text" : Str)] : (List Str)) := (Rs_cons (.str _) (Rs_cons (.str _) (Rs_cons (.str _) (Rs_cons (.str _) (Rs_cons (.str _) (Rs_cons (.str _) (Rs_cons (.str _) (Rs_cons (.str _) (Rs_cons (.str _) (Rs_cons (.str _) (Rs_cons (.str _) Rs_nil)))))))))))
  have g8 := Gr.newO (o := .lst [(.str ("base" : Str)), (.str ("number" : Str)), (.str ("figures" : Str)), (.str ("rule" : Str)), (.str ("stand" : Str)), (.str ("good" : Str)), (.str ("endless" : Str)), (.str ("rules" : Str)), (.str ("stretch" : Str)), (.str ("many" : Str)), (.str ("text" : Str))]) G11.sub np8
  have o8 := Ow.new (us := [(.str ("base" : Str)), (.str ("number" : Str)), (.str ("figures" : Str)), (.str ("rule" : Str)), (.str ("stand" : Str)), (.str ("good" : Str)), (.str ("endless" : Str)), (.str ("rules" : Str)), (.str ("stretch" : Str)), (.str ("many" : Str)), (.str ("text" : Str))]) G11 np8
  have G12 := G11.step g8
  obtain ⟨F5, G13, ex5, fa7, nf5⟩ := o8.frzE G12
  have fr15 := Rs_mono ex5 fr14
  obtain ⟨x3, hx3, hm⟩ := bindp hm
  replace hx3 := Option.some.inj hx3
  have fr16 : Rs (α := Str) (F5) [(.str ("base" : Str)), (.str ("number" : Str)), (.str ("figures" : Str)), (.str ("rule" : Str)), (.str ("stand" : Str)), (.str ("good" : Str)), (.str ("endless" : Str)), (.str ("rules" : Str)), (.str ("stretch" : Str)), (.str ("many" : Str)), (.str ("text" : Str))] x3 := by rw [← hx3]; exact (Rs_mono (Sub.refl _) fr15)
  have fa8 := (Sub.refl _) _ _ fa7
  clear hx3
  with_reducible refine x_gnE (σ' := ([some v_e, some (.str due), some (.ref p7), some (.ref p8), none, none, none] : L2.St)) (by with_unfolding_all rfl) ?_
  with_reducible refine x_seq ?_
  with_reducible refine x_asg ?_
  with_reducible refine x_lc ?_
  with_reducible refine x_zip ?_
  with_reducible refine x_cons ?_
  with_reducible refine x_op ?_
  refine ⟨_, rfl, ?_⟩
  with_reducible refine x_lst ?_
  with_reducible refine x_cons ?_
  with_reducible refine x_c ?_
  with_reducible refine x_cons ?_
  with_reducible refine x_c ?_
  refine ⟨szle (show 2 ≤ 16777216 from by decide), fun p9 np9 => ?_⟩
  have fr17 : Rs (α := Str) (F5) [(.str ("name" : Str)), (.str ("row" : Str))] ([("name" : Str), ("row" : Str)] : (List Str)) := (Rs_cons (.str _) (Rs_cons (.str _) Rs_nil))
  have g9 := Gr.newO (o := .lst [(.str ("name" : Str)), (.str ("row" : Str))]) G13.sub np9
  have o9 := Ow.new (us := [(.str ("name" : Str)), (.str ("row" : Str))]) G13 np9
  have G14 := G13.step g9
  obtain ⟨c4, hm⟩ := guardp hm
  refine ⟨_, _, _, _, rfl, rfl, (G14.sub _ _ fa8), o9.at_, szle (by rw [Rs_len (Rs_mono (Sub.refl _) fr16), Rs_len fr17]; exact c4), fun p10 np10 => ?_⟩
  have fr18 : Rs (α := Str) (F5) ([(.str ("base" : Str)), (.str ("number" : Str)), (.str ("figures" : Str)), (.str ("rule" : Str)), (.str ("stand" : Str)), (.str ("good" : Str)), (.str ("endless" : Str)), (.str ("rules" : Str)), (.str ("stretch" : Str)), (.str ("many" : Str)), (.str ("text" : Str))] ++ [(.str ("name" : Str)), (.str ("row" : Str))]) (x3 ++ ([("name" : Str), ("row" : Str)] : (List Str))) := Rs_app (Rs_mono (Sub.refl _) fr16) fr17
  have g10 := Gr.newO (o := .lst ([(.str ("base" : Str)), (.str ("number" : Str)), (.str ("figures" : Str)), (.str ("rule" : Str)), (.str ("stand" : Str)), (.str ("good" : Str)), (.str ("endless" : Str)), (.str ("rules" : Str)), (.str ("stretch" : Str)), (.str ("many" : Str)), (.str ("text" : Str))] ++ [(.str ("name" : Str)), (.str ("row" : Str))])) G14.sub np10
  have o10 := Ow.new (us := ([(.str ("base" : Str)), (.str ("number" : Str)), (.str ("figures" : Str)), (.str ("rule" : Str)), (.str ("stand" : Str)), (.str ("good" : Str)), (.str ("endless" : Str)), (.str ("rules" : Str)), (.str ("stretch" : Str)), (.str ("many" : Str)), (.str ("text" : Str))] ++ [(.str ("name" : Str)), (.str ("row" : Str))])) G14 np10
  have G15 := G14.step g10
  with_reducible refine x_cons ?_
  refine ⟨_, rfl, ?_⟩
  obtain ⟨F6, G16, ex6, fa9, nf6⟩ := o10.frzE G15
  have fr19 := Rs_mono ex6 fr18
  refine ⟨_, _, _, _, rfl, .inl (.inl (G16.sub _ _ fa9)), .inl (.inl (((ex5.trans ex6).trans G16.sub) _ _ fa6)), fun p11 np11 => ?_⟩
  have g11 := Gr.newO (o := .lst []) G16.sub np11
  have o11 := Ow.new (us := []) G16 np11
  have G17 := G16.step g11
  refine lc_zip (α := Str) (β := Bool) (fun (ts1 : List (Str × Bool)) H1 => ∃ (F7 : Hp) (x5 : List Str) (us2 : List V), forK (_law_kind_c1) ts1 x5 (_law_kind_k2 e due) = some r ∧ Sub (F6) F7 ∧ Gr NA F0 H F7 H1 ∧ Ow H F7 H1 p11 us2 ∧ Rs F7 us2 x5) (Rs_mono (Sub.refl _) fr19) (Rs_mono (ex5.trans ex6) fr13) ⟨F6, ([] : List Str), _, hm, (Sub.refl _), G17, o11, Rs_nil⟩ (fun _ _ h => ?_) (fun t1 ts2 v2 v3 T1 H1 d1 d2 np12 hW => ?_) (fun H1 hW => ?_)
  · obtain ⟨F9z, _, _, _, s9z, G9z, _⟩ := h
    exact ⟨G9z.sub _ _ (s9z _ _ ((Sub.refl _) _ _ fa9)), G9z.sub _ _ (s9z _ _ ((ex5.trans ex6) _ _ fa6))⟩
  · skip
    obtain ⟨F7, x5, us2, hm, s1, G18, o12, fr20⟩ := hW
    obtain ⟨next1, hnx1⟩ : ∃ nx, nx = fun s => forK (_law_kind_c1) ts2 s (_law_kind_k2 e due) := ⟨_, rfl⟩
    have hm : (_law_kind_c1) x5 t1 next1 = some r := by rw [hnx1]; exact forK_c hm
    rw [_law_kind_c1] at hm
    obtain rfl := str_of d1
    obtain rfl := bl_of d2
    obtain ⟨F8, g12, fa10⟩ := Gr.newE (o := .tup [(.str (t1).1), (.bl (t1).2)]) G18.sub np12
    have G19 := G18.step g12
    have o13 := o12.step g12
    refine ⟨_, _, rfl, .inl (.inl (G19.sub _ _ fa10)), rfl, ?_⟩
    refine ⟨_, _, rfl, ?_⟩
    with_reducible refine x_gnE (σ' := ([some v_e, some (.str due), some (.ref p7), some (.ref p8), none, some (.str (t1).1), none] : L2.St)) (by with_unfolding_all rfl) ?_
    refine ⟨_, _, rfl, ?_⟩
    with_reducible refine x_gnE (σ' := ([some v_e, some (.str due), some (.ref p7), some (.ref p8), none, some (.str (t1).1), some (.bl (t1).2)] : L2.St)) (by with_unfolding_all rfl) ?_
    refine ⟨rfl, ?_⟩
    refine ⟨rfl, ?_⟩
    with_reducible refine x_B ?_
    refine ⟨_, rfl, ?_⟩
    refine ⟨_, rfl, ?_⟩
    refine ifD (fun hc => ?_) (fun hc => ?_)
    · replace hm := itep hm hc
      refine ⟨_, rfl, ?_⟩
      obtain ⟨c5, hm⟩ := guardp hm
      have G20 := o13.mutG (o := .lst (us2 ++ [(.str (t1).1)])) G19
      have o14 := o13.mut (ws := us2 ++ [(.str (t1).1)])
      have fr21 : Rs (α := Str) (F8) (us2 ++ [(.str (t1).1)]) (x5 ++ [(t1).1]) := Rs_snoc (Rs_mono g12.ex fr20) (.str _)
      rw [hnx1] at hm
      exact ⟨_, o13.at_, szl (by rw [Rs_len (Rs_mono g12.ex fr20)]; exact c5), ⟨F8, (x5 ++ [(t1).1]), _, hm, (s1.trans g12.ex), G20, o14, fr21⟩⟩
    · replace hm := iten hm (bF hc)
      rw [hnx1] at hm
      exact ⟨F8, x5, _, hm, (s1.trans g12.ex), G19, o13, (Rs_mono g12.ex fr20)⟩
  · skip
    obtain ⟨F7, x5, us2, hm, s2, G21, o15, fr22⟩ := hW
    have hm : (_law_kind_k2 e due) x5 = some r := forK_n hm
    rw [_law_kind_k2] at hm
    obtain ⟨F9, G22, ex7, fa11, nf7⟩ := o15.frzE G21
    have fr23 := Rs_mono ex7 fr22
    with_reducible refine x_gnE (σ' := ([some v_e, some (.str due), some (.ref p7), some (.ref p8), some (.ref p11), none, none] : L2.St)) (by with_unfolding_all rfl) ?_
    with_reducible refine x_ret ?_
    with_reducible refine x_andV ?_
    with_reducible refine x_cb ?_
    with_reducible refine x_cons ?_
    refine ⟨_, rfl, ?_⟩
    with_reducible refine x_cons ?_
    with_reducible refine x_c ?_
    with_reducible refine x_nil ?_
    refine isiX_ve T.er G22.sub (RX.mono (((((((ex1.trans ex2).trans ex3).trans ex4).trans ex5).trans ex6).trans s2).trans ex7) f_e) ?_
    refine ⟨_, rfl, ?_⟩
    refine ifD (fun hc => ?_) (fun hc => ?_)
    · replace hm := itep hm hc
      with_reducible refine x_op ?_
      refine ⟨_, rfl, ?_⟩
      with_reducible refine x_lst ?_
      with_reducible refine x_cons ?_
      refine ⟨_, rfl, ?_⟩
      refine ⟨szle (show 1 ≤ 16777216 from by decide), fun p12 np13 => ?_⟩
      have fr24 : Rs (α := Str) (F9) [(.str due)] ([due] : (List Str)) := (Rs_cons (.str _) Rs_nil)
      have g13 := Gr.newO (o := .lst [(.str due)]) G22.sub np13
      have o16 := Ow.new (us := [(.str due)]) G22 np13
      have G23 := G22.step g13
      have d3 : R (α := PyData) (F9) (.ref p11) (PyData.list (x5.map fun z => (PyData.str z))) := (mk_lst ((Sub.refl _) _ _ fa11) (Rs_mono (Sub.refl _) fr23))
      obtain ⟨F10, G24, ex8, fa12, nf8⟩ := o16.frzE G23
      have fr25 := Rs_mono ex8 fr24
      have d4 : R (α := PyData) (F10) (.ref p12) (PyData.list (([due] : (List Str)).map fun z => (PyData.str z))) := (mk_lst ((Sub.refl _) _ _ fa12) (Rs_mono (Sub.refl _) fr25))
      obtain ⟨c6, hm⟩ := guardp hm
      refine eqA_use (a := (PyData.list (x5.map fun z => (PyData.str z)))) (b := (PyData.list (([due] : (List Str)).map fun z => (PyData.str z)))) G24.sub (RD.mono ex8 d3) (RD.mono (Sub.refl _) d4) c6 ?_
      obtain rfl : _ = r := Option.some.inj hm
      exact q _ _ _ G24 (.bl _)
    · replace hm := iten hm (bF hc)
      obtain rfl : _ = r := Option.some.inj hm
      exact q _ _ _ G22 (.bl _)

abbrev N_is_whole : List Str := ["thing"]
theorem sc_is_whole : FnScope N_is_whole ["thing"] (defScope s_is_whole) := ⟨rfl, rfl, rfl, by decide +kernel, rfl, by decide +kernel, by decide +kernel⟩
def sp_is_whole : Sp := fun vs H Q _ => ∃ (F : Hp) (v_thing : V) (thing : Int) (r : Bool), vs = [v_thing] ∧ Sub F H ∧ R F v_thing thing ∧ is_whole thing = some r ∧ ∀ N H2 v, Gr NA F H N H2 → R N v r → Q v H2
theorem ok_is_whole {P : Program} {w : World} {K : PySem.W.Frag} {mg : Str → Option Value} {base : Heap} (T : Txt K mg) : FnOk P w K mg base CX0 1 T.f_is_whole.f T.f_is_whole.fd ["thing"] sp_is_whole := by
  have nd := (sc_is_whole).nd
  refine T.f_is_whole.F.ok sc_is_whole (fun vs H Q E h => ?_) (fun cdv A0 outer s H vs Q E hr h => ?_)
  · obtain ⟨_, _, _, _, rfl, _⟩ := h
    rfl
  obtain ⟨F0, v_thing, thing, r, rfl, s0, f_thing, hm, q⟩ := h
  have G0 : Gr NA F0 H F0 H := Gr.refl s0
  obtain rfl := int_of f_thing
  refine ⟨_, (pss_one (ps_ret (pe_and (pe_callB (r := rIsi K) call_isi (by rfl) T.z_isinstance (by decide +kernel) (pa_cons (pv 0) (pa_cons (pe_bltn (v := .ty "int") (by rfl) T.z_int (by decide +kernel) rfl) pa_nil))) (pe_one (pe_not (pe_callB (r := rIsi K) call_isi (by rfl) T.z_isinstance (by decide +kernel) (pa_cons (pv 0) (pa_cons (pe_bltn (v := .ty "bool") (by rfl) T.z_bool (by decide +kernel) rfl) pa_nil)))))))), ?_⟩
  refine x_start (σ' := ([some (.int thing)] : L2.St)) (by with_unfolding_all rfl) ?_
  rw [is_whole] at hm
  with_reducible refine x_ret ?_
  with_reducible refine x_andV ?_
  with_reducible refine x_cb ?_
  with_reducible refine x_cons ?_
  refine ⟨_, rfl, ?_⟩
  refine ⟨_, _, _, _, true, rfl, ClsV.ty _, TyX.base (TyOf.int _), kit_ty (by decide +kernel), ?_⟩
  refine ⟨_, rfl, ?_⟩
  refine iteT ?_
  with_reducible refine x_notV ?_
  with_reducible refine x_cb ?_
  with_reducible refine x_cons ?_
  refine ⟨_, rfl, ?_⟩
  refine ⟨_, _, _, _, false, rfl, ClsV.ty _, TyX.base (TyOf.int _), kit_ty (by decide +kernel), ?_⟩
  refine ⟨_, rfl, ?_⟩
  obtain rfl : _ = r := Option.some.inj hm
  exact q _ _ _ G0 (.bl _)

abbrev N_is_base : List Str := ["thing"]
theorem sc_is_base : FnScope N_is_base ["thing"] (defScope s_is_base) := ⟨rfl, rfl, rfl, by decide +kernel, rfl, by decide +kernel, by decide +kernel⟩
def sp_is_base : Sp := fun vs H Q _ => ∃ (F : Hp) (v_thing : V) (thing : Int) (r : Bool), vs = [v_thing] ∧ Sub F H ∧ R F v_thing thing ∧ is_base thing = some r ∧ ∀ N H2 v, Gr NA F H N H2 → R N v r → Q v H2
theorem ok_is_base {P : Program} {w : World} {K : PySem.W.Frag} {mg : Str → Option Value} {base : Heap} (T : Txt K mg) : FnOk P w K mg base CX0 2 T.f_is_base.f T.f_is_base.fd ["thing"] sp_is_base := by
  have nd := (sc_is_base).nd
  refine T.f_is_base.F.ok sc_is_base (fun vs H Q E h => ?_) (fun cdv A0 outer s H vs Q E hr h => ?_)
  · obtain ⟨_, _, _, _, rfl, _⟩ := h
    rfl
  obtain ⟨F0, v_thing, thing, r, rfl, s0, f_thing, hm, q⟩ := h
  have G0 : Gr NA F0 H F0 H := Gr.refl s0
  obtain rfl := int_of f_thing
  refine ⟨_, (pss_one (ps_ret (pe_and (pe_call (ok_is_whole T) (hr.mono (by decide)) (by rfl) T.f_is_whole.g T.f_is_whole.F.kp T.f_is_whole.b .nil pass0 (pa_cons (pv 0) pa_nil)) (pe_one (pe_chain op_le op_le (pe_glob (v := .int 2) rfl T.c_LEAST_BASE.g ⟨_, rfl⟩) (pv 0) (pe_glob (v := .int 16) rfl T.c_MOST_BASE.g ⟨_, rfl⟩)))))), ?_⟩
  refine x_start (σ' := ([some (.int thing)] : L2.St)) (by with_unfolding_all rfl) ?_
  rw [is_base] at hm
  with_reducible refine x_ret ?_
  with_reducible refine x_andV ?_
  with_reducible refine x_call ?_
  with_reducible refine x_cons ?_
  refine ⟨_, rfl, ?_⟩
  obtain ⟨r1, hr1, hm⟩ := bindp hm
  refine ⟨_, _, thing, r1, rfl, G0.sub, (.int _), hr1, fun N1 H1 v1 g1 d1  => ?_⟩
  have G1 := G0.step g1
  obtain rfl := bl_of d1
  refine ⟨_, rfl, ?_⟩
  refine ifD (fun hc => ?_) (fun hc => ?_)
  · replace hm := itep hm hc
    with_reducible refine x_chain ?_
    with_reducible refine x_c ?_
    refine ⟨_, rfl, ?_⟩
    refine ⟨_, _, rfl, rfl, _, rfl, ?_⟩
    refine ifD (fun hc => ?_) (fun hc => ?_)
    · replace hm := itep hm hc
      with_reducible refine x_c ?_
      refine ⟨_, _, rfl, rfl, ?_⟩
      obtain rfl : _ = r := Option.some.inj hm
      exact q _ _ _ G1 (.bl _)
    · replace hm := iten hm (bF hc)
      obtain rfl : _ = r := Option.some.inj hm
      exact q _ _ _ G1 (.bl _)
  · replace hm := iten hm (bF hc)
    obtain rfl : _ = r := Option.some.inj hm
    exact q _ _ _ G1 (.bl _)

abbrev N_is_figure : List Str := ["base", "thing"]
theorem sc_is_figure : FnScope N_is_figure ["base", "thing"] (defScope s_is_figure) := ⟨rfl, rfl, rfl, by decide +kernel, rfl, by decide +kernel, by decide +kernel⟩
def sp_is_figure : Sp := fun vs H Q _ => ∃ (F : Hp) (v_base : V) (v_thing : V) (base : Int) (thing : Int) (r : Bool), vs = [v_base, v_thing] ∧ Sub F H ∧ R F v_base base ∧ R F v_thing thing ∧ is_figure base thing = some r ∧ ∀ N H2 v, Gr NA F H N H2 → R N v r → Q v H2
theorem ok_is_figure {P : Program} {w : World} {K : PySem.W.Frag} {mg : Str → Option Value} {base : Heap} (T : Txt K mg) : FnOk P w K mg base CX0 2 T.f_is_figure.f T.f_is_figure.fd ["base", "thing"] sp_is_figure := by
  have nd := (sc_is_figure).nd
  refine T.f_is_figure.F.ok sc_is_figure (fun vs H Q E h => ?_) (fun cdv A0 outer s H vs Q E hr h => ?_)
  · obtain ⟨_, _, _, _, _, _, rfl, _⟩ := h
    rfl
  obtain ⟨F0, v_base, v_thing, base, thing, r, rfl, s0, f_base, f_thing, hm, q⟩ := h
  have G0 : Gr NA F0 H F0 H := Gr.refl s0
  obtain rfl := int_of f_base
  obtain rfl := int_of f_thing
  refine ⟨_, (pss_one (ps_ret (pe_and (pe_call (ok_is_whole T) (hr.mono (by decide)) (by rfl) T.f_is_whole.g T.f_is_whole.F.kp T.f_is_whole.b .nil pass0 (pa_cons (pv 1) pa_nil)) (pe_one (pe_chain op_le op_lt pe_int (pv 1) (pv 0)))))), ?_⟩
  refine x_start (σ' := ([some (.int base), some (.int thing)] : L2.St)) (by with_unfolding_all rfl) ?_
  rw [is_figure] at hm
  with_reducible refine x_ret ?_
  with_reducible refine x_andV ?_
  with_reducible refine x_call ?_
  with_reducible refine x_cons ?_
  refine ⟨_, rfl, ?_⟩
  obtain ⟨r1, hr1, hm⟩ := bindp hm
  refine ⟨_, _, thing, r1, rfl, G0.sub, (.int _), hr1, fun N1 H1 v1 g1 d1  => ?_⟩
  have G1 := G0.step g1
  obtain rfl := bl_of d1
  refine ⟨_, rfl, ?_⟩
  refine ifD (fun hc => ?_) (fun hc => ?_)
  · replace hm := itep hm hc
    with_reducible refine x_chain ?_
    with_reducible refine x_c ?_
    refine ⟨_, rfl, ?_⟩
    refine ⟨_, _, rfl, rfl, _, rfl, ?_⟩
    refine ifD (fun hc => ?_) (fun hc => ?_)
    · replace hm := itep hm hc
      refine ⟨_, rfl, ?_⟩
      refine ⟨_, _, rfl, rfl, ?_⟩
      obtain rfl : _ = r := Option.some.inj hm
      exact q _ _ _ G1 (.bl _)
    · replace hm := iten hm (bF hc)
      obtain rfl : _ = r := Option.some.inj hm
      exact q _ _ _ G1 (.bl _)
  · replace hm := iten hm (bF hc)
    obtain rfl : _ = r := Option.some.inj hm
    exact q _ _ _ G1 (.bl _)

abbrev N_are_figures : List Str := ["base", "thing", "one"]
theorem sc_are_figures : FnScope N_are_figures ["base", "thing"] (defScope s_are_figures) := ⟨rfl, rfl, rfl, by decide +kernel, rfl, by decide +kernel, by decide +kernel⟩
def sp_are_figures : Sp := fun vs H Q _ => ∃ (F : Hp) (v_base : V) (v_thing : V) (base : Int) (thing : (List Int)) (r : Bool), vs = [v_base, v_thing] ∧ Sub F H ∧ R F v_base base ∧ R F v_thing thing ∧ are_figures base thing = some r ∧ ∀ N H2 v, Gr NA F H N H2 → R N v r → Q v H2
theorem ok_are_figures {P : Program} {w : World} {K : PySem.W.Frag} {mg : Str → Option Value} {base : Heap} (T : Txt K mg) : FnOk P w K mg base CX0 3 T.f_are_figures.f T.f_are_figures.fd ["base", "thing"] sp_are_figures := by
  have nd := (sc_are_figures).nd
  refine T.f_are_figures.F.ok sc_are_figures (fun vs H Q E h => ?_) (fun cdv A0 outer s H vs Q E hr h => ?_)
  · obtain ⟨_, _, _, _, _, _, rfl, _⟩ := h
    rfl
  obtain ⟨F0, v_base, v_thing, base, thing, r, rfl, s0, f_base, f_thing, hm, q⟩ := h
  have G0 : Gr NA F0 H F0 H := Gr.refl s0
  obtain rfl := int_of f_base
  obtain ⟨a1, us1, rfl, fa1, fr1⟩ := lst_of f_thing
  refine ⟨_, (pss_one (ps_ret (pe_and (pe_callB (r := rIsi K) call_isi (by rfl) T.z_isinstance (by decide +kernel) (pa_cons (pv 1) (pa_cons (pe_bltn (v := .ty "list") (by rfl) T.z_list (by decide +kernel) rfl) pa_nil))) (pe_one (pe_cmpR (op_eqT (α := (List Int)) (by decide) (hu64 hr)) (pe_lc (own := [("one", 2)]) (g := (gName 2)) rfl nd (pi_list (pv 1)) (blkOk_by (own := [("one", 2)]) (N := N_are_figures) (sc := defScope s_are_figures) (by decide +kernel)) (fun _ _ _ _ _ => pg_name (i := 2) nd rfl (Or.inl rfl)) (fun _ _ _ _ _ => pts_one (pt_not (pt_val (pe_call (ok_is_figure T) (hr.mono (by decide)) (by rfl) T.f_is_figure.g T.f_is_figure.F.kp T.f_is_figure.b .nil pass0 (pa_cons (pv 0) (pa_cons (pv 2) pa_nil)))))) (fun _ _ _ _ _ => (pv 2))) (pe_lst pa_nil) (nomark _)))))), ?_⟩
  refine x_start (σ' := ([some (.int base), some (.ref a1), none] : L2.St)) (by with_unfolding_all rfl) ?_
  rw [are_figures] at hm
  with_reducible refine x_ret ?_
  with_reducible refine x_andV ?_
  with_reducible refine x_cb ?_
  with_reducible refine x_cons ?_
  refine ⟨_, rfl, ?_⟩
  refine ⟨_, _, _, _, true, rfl, ClsV.ty _, TyX.base (TyOf.lst (G0.sub _ _ fa1)), kit_ty (by decide +kernel), ?_⟩
  refine ⟨_, rfl, ?_⟩
  refine iteT ?_
  with_reducible refine x_op ?_
  with_reducible refine x_lc ?_
  with_reducible refine x_iter ?_
  refine ⟨_, rfl, ?_⟩
  refine ⟨_, rfl, ⟨_, .inl (.inl (G0.sub _ _ fa1))⟩, fun p1 np1 => ?_⟩
  have g1 := Gr.newO (o := .lst []) G0.sub np1
  have o1 := Ow.new (us := []) G0 np1
  have G1 := G0.step g1
  refine lc_lst (α := Int) (fun (ts1 : List Int) H1 => ∃ (F1 : Hp) (x2 : List Int) (us3 : List V), forK (are_figures_c1 base) ts1 x2 (are_figures_k2) = some r ∧ Sub (F0) F1 ∧ Gr NA F0 H F1 H1 ∧ Ow H F1 H1 p1 us3 ∧ Rs F1 us3 x2) (Rs_mono (Sub.refl _) fr1) ⟨F0, ([] : List Int), _, hm, (Sub.refl _), G1, o1, Rs_nil⟩ (fun _ _ h => ?_) (fun t1 ts2 v1 H1 hv1 hW => ?_) (fun H1 hW => ?_)
  · obtain ⟨F9z, _, _, _, s9z, G9z, _⟩ := h
    exact G9z.sub _ _ (s9z _ _ ((Sub.refl _) _ _ fa1))
  · skip
    obtain ⟨F1, x2, us3, hm, s1, G2, o2, fr2⟩ := hW
    obtain ⟨next1, hnx1⟩ : ∃ nx, nx = fun s => forK (are_figures_c1 base) ts2 s (are_figures_k2) := ⟨_, rfl⟩
    have hm : (are_figures_c1 base) x2 t1 next1 = some r := by rw [hnx1]; exact forK_c hm
    rw [are_figures_c1] at hm
    obtain rfl := int_of hv1
    with_reducible refine x_gnE (σ' := ([some (.int base), some (.ref a1), some (.int t1)] : L2.St)) (by with_unfolding_all rfl) ?_
    refine ⟨rfl, ?_⟩
    with_reducible refine x_not ?_
    with_reducible refine x_B ?_
    with_reducible refine x_call ?_
    with_reducible refine x_cons ?_
    refine ⟨_, rfl, ?_⟩
    with_reducible refine x_cons ?_
    refine ⟨_, rfl, ?_⟩
    obtain ⟨r1, hr1, hm⟩ := bindp hm
    refine ⟨_, _, _, base, t1, r1, rfl, G2.sub, (.int _), (.int _), hr1, fun N1 H2 v2 g2 d1  => ?_⟩
    have G3 := G2.step g2
    have o3 := o2.step g2
    obtain rfl := bl_of d1
    refine ⟨_, rfl, ?_⟩
    refine ifD (fun hc => ?_) (fun hc => ?_)
    · replace hm := itep hm hc
      refine ⟨_, rfl, ?_⟩
      obtain ⟨c1, hm⟩ := guardp hm
      have G4 := o3.mutG (o := .lst (us3 ++ [(.int t1)])) G3
      have o4 := o3.mut (ws := us3 ++ [(.int t1)])
      have fr3 : Rs (α := Int) (N1) (us3 ++ [(.int t1)]) (x2 ++ [t1]) := Rs_snoc (Rs_mono g2.ex fr2) (.int _)
      rw [hnx1] at hm
      exact ⟨_, o3.at_, szl (by rw [Rs_len (Rs_mono g2.ex fr2)]; exact c1), ⟨N1, (x2 ++ [t1]), _, hm, (s1.trans g2.ex), G4, o4, fr3⟩⟩
    · replace hm := iten hm (bF hc)
      rw [hnx1] at hm
      exact ⟨N1, x2, _, hm, (s1.trans g2.ex), G3, o3, (Rs_mono g2.ex fr2)⟩
  · skip
    obtain ⟨F1, x2, us3, hm, s2, G5, o5, fr4⟩ := hW
    have hm : (are_figures_k2) x2 = some r := forK_n hm
    rw [are_figures_k2] at hm
    with_reducible refine x_lst ?_
    refine ⟨szle (show 0 ≤ 16777216 from by decide), fun p2 np2 => ?_⟩
    have fr5 : Rs (α := Int) (F1) [] ([] : (List Int)) := Rs_nil
    have g3 := Gr.newO (o := .lst []) G5.sub np2
    have o6 := Ow.new (us := []) G5 np2
    have ne1 := o5.ne_new np2
    have G6 := G5.step g3
    have o7 := o5.step g3
    refine ⟨_, x2, ([] : (List Int)), Sub.refl _, (mk_lst o7.at_ (Rs_mono G6.sub fr4)), (mk_lst o6.at_ (Rs_mono G6.sub fr5)), ?_⟩
    obtain rfl : _ = r := Option.some.inj hm
    exact q _ _ _ G6 (.bl _)

abbrev N_is_stretch : List Str := ["base", "thing"]
theorem sc_is_stretch : FnScope N_is_stretch ["base", "thing"] (defScope s_is_stretch) := ⟨rfl, rfl, rfl, by decide +kernel, rfl, by decide +kernel, by decide +kernel⟩
def sp_is_stretch : Sp := fun vs H Q _ => ∃ (F : Hp) (v_base : V) (v_thing : V) (base : Int) (thing : (List Int)) (r : Bool), vs = [v_base, v_thing] ∧ Sub F H ∧ R F v_base base ∧ R F v_thing thing ∧ is_stretch base thing = some r ∧ ∀ N H2 v, Gr NA F H N H2 → R N v r → Q v H2
theorem ok_is_stretch {P : Program} {w : World} {K : PySem.W.Frag} {mg : Str → Option Value} {base : Heap} (T : Txt K mg) : FnOk P w K mg base CX0 4 T.f_is_stretch.f T.f_is_stretch.fd ["base", "thing"] sp_is_stretch := by
  have nd := (sc_is_stretch).nd
  refine T.f_is_stretch.F.ok sc_is_stretch (fun vs H Q E h => ?_) (fun cdv A0 outer s H vs Q E hr h => ?_)
  · obtain ⟨_, _, _, _, _, _, rfl, _⟩ := h
    rfl
  obtain ⟨F0, v_base, v_thing, base, thing, r, rfl, s0, f_base, f_thing, hm, q⟩ := h
  have G0 : Gr NA F0 H F0 H := Gr.refl s0
  obtain rfl := int_of f_base
  obtain ⟨a1, us1, rfl, fa1, fr1⟩ := lst_of f_thing
  refine ⟨_, (pss_one (ps_ret (pe_and (pe_call (ok_are_figures T) (hr.mono (by decide)) (by rfl) T.f_are_figures.g T.f_are_figures.F.kp T.f_are_figures.b .nil pass0 (pa_cons (pv 0) (pa_cons (pv 1) pa_nil))) (pe_one (pe_chain op_le op_le pe_int (pe_callB (r := rLenT K) call_lenT (by rfl) T.z_len PySem.boot_len (pa_cons (pv 1) pa_nil)) (pe_glob (v := .int 4) rfl T.c_MOST_FIGURES.g ⟨_, rfl⟩)))))), ?_⟩
  refine x_start (σ' := ([some (.int base), some (.ref a1)] : L2.St)) (by with_unfolding_all rfl) ?_
  rw [is_stretch] at hm
  with_reducible refine x_ret ?_
  with_reducible refine x_andV ?_
  with_reducible refine x_call ?_
  with_reducible refine x_cons ?_
  refine ⟨_, rfl, ?_⟩
  with_reducible refine x_cons ?_
  refine ⟨_, rfl, ?_⟩
  obtain ⟨r1, hr1, hm⟩ := bindp hm
  refine ⟨_, _, _, base, thing, r1, rfl, G0.sub, (.int _), (mk_lst ((Sub.refl _) _ _ fa1) (Rs_mono (Sub.refl _) fr1)), hr1, fun N1 H1 v1 g1 d1  => ?_⟩
  have G1 := G0.step g1
  obtain rfl := bl_of d1
  refine ⟨_, rfl, ?_⟩
  refine ifD (fun hc => ?_) (fun hc => ?_)
  · replace hm := itep hm hc
    with_reducible refine x_chain ?_
    with_reducible refine x_c ?_
    refine useEv (.int (thing.length : Int)) (by exact (ev_lenT (Evl.ev_var rfl) ((g1.ex.trans G1.sub) _ _ fa1) (Rs_mono g1.ex fr1))) (fun H2 e1 => ?_)
    have g2 := gr_ex G1.sub e1
    have G2 := G1.step g2
    refine ⟨_, _, rfl, rfl, _, rfl, ?_⟩
    refine ifD (fun hc => ?_) (fun hc => ?_)
    · replace hm := itep hm hc
      with_reducible refine x_c ?_
      refine ⟨_, _, rfl, rfl, ?_⟩
      obtain rfl : _ = r := Option.some.inj hm
      exact q _ _ _ G2 (.bl _)
    · replace hm := iten hm (bF hc)
      obtain rfl : _ = r := Option.some.inj hm
      exact q _ _ _ G2 (.bl _)
  · replace hm := iten hm (bF hc)
    obtain rfl : _ = r := Option.some.inj hm
    exact q _ _ _ G1 (.bl _)

abbrev N_is_rule : List Str := ["thing", "base", "bad", "one", "k"]
theorem sc_is_rule : FnScope N_is_rule ["thing"] (defScope s_is_rule) := ⟨rfl, rfl, rfl, by decide +kernel, rfl, by decide +kernel, by decide +kernel⟩
def sp_is_rule : Sp := fun vs H Q _ => ∃ (F : Hp) (v_thing : V) (thing : (Int × (List (List Int)))) (r : Bool), vs = [v_thing] ∧ Sub F H ∧ R F v_thing thing ∧ is_rule thing = some r ∧ ∀ N H2 v, Gr NA F H N H2 → R N v r → Q v H2
theorem ok_is_rule {P : Program} {w : World} {K : PySem.W.Frag} {mg : Str → Option Value} {base : Heap} (T : Txt K mg) : FnOk P w K mg base CX0 5 T.f_is_rule.f T.f_is_rule.fd ["thing"] sp_is_rule := by
  have nd := (sc_is_rule).nd
  refine T.f_is_rule.F.ok sc_is_rule (fun vs H Q E h => ?_) (fun cdv A0 outer s H vs Q E hr h => ?_)
  · obtain ⟨_, _, _, _, rfl, _⟩ := h
    rfl
  obtain ⟨F0, v_thing, thing, r, rfl, s0, f_thing, hm, q⟩ := h
  have G0 : Gr NA F0 H F0 H := Gr.refl s0
  obtain ⟨a1, v1, v2, rfl, fa1, d1, d2⟩ := tup2_of f_thing
  obtain rfl := int_of d1
  obtain ⟨a2, us1, rfl, fa2, fr1⟩ := lst_of d2
  refine ⟨_, (pss_cons (ps_if (PW.pt (pw_or (pt_not (pt_val (pe_callB (r := rIsi K) call_isi (by rfl) T.z_isinstance (by decide +kernel) (pa_cons (pv 0) (pa_cons (pe_bltn (v := .ty "tuple") (by rfl) T.z_tuple (by decide +kernel) rfl) pa_nil))))) (pw_or (pt_cmp (pc_neI (pe_callB (r := rLenT K) call_lenT (by rfl) T.z_len PySem.boot_len (pa_cons (pv 0) pa_nil)) pe_int)) (pw_or1 (pt_not (pt_val (pe_call (ok_is_base T) (hr.mono (by decide)) (by rfl) T.f_is_base.g T.f_is_base.F.kp T.f_is_base.b .nil pass0 (pa_cons (pe_ix (r := rIxT K) ix_tup (pv 0) pe_int (fun _ _ => rfl)) pa_nil)))))))) (pss_one (ps_ret pe_bl)) pss_nil) (pss_cons (ps_asg (pv 0) (pg_tup rfl (pgs_cons (pg_name (i := 1) nd rfl (by first | exact Or.inl rfl | exact Or.inr rfl)) (pgs_cons (pg_name (i := 2) nd rfl (by first | exact Or.inl rfl | exact Or.inr rfl)) pgs_nil)))) (pss_cons (ps_if (PW.pt (pw_or (pt_not (pt_val (pe_callB (r := rIsi K) call_isi (by rfl) T.z_isinstance (by decide +kernel) (pa_cons (pv 2) (pa_cons (pe_bltn (v := .ty "list") (by rfl) T.z_list (by decide +kernel) rfl) pa_nil))))) (pw_or1 (pt_cmp (pc_gt (pe_callB (r := rLenT K) call_lenT (by rfl) T.z_len PySem.boot_len (pa_cons (pv 2) pa_nil)) (pe_glob (v := .int 4) rfl T.c_MOST_STRETCHES.g ⟨_, rfl⟩)))))) (pss_one (ps_ret pe_bl)) pss_nil) (pss_cons (ps_if (pt_cmpR (op_neT (α := (List (List Int))) (by decide) (hu64 hr)) (pe_lc (own := [("one", 3)]) (g := (gName 3)) rfl nd (pi_list (pv 2)) (blkOk_by (own := [("one", 3)]) (N := N_is_rule) (sc := defScope s_is_rule) (by decide +kernel)) (fun _ _ _ _ _ => pg_name (i := 3) nd rfl (Or.inl rfl)) (fun _ _ _ _ _ => pts_one (pt_not (pt_val (pe_call (ok_is_stretch T) (hr.mono (by decide)) (by rfl) T.f_is_stretch.g T.f_is_stretch.F.kp T.f_is_stretch.b .nil pass0 (pa_cons (pv 1) (pa_cons (pv 3) pa_nil)))))) (fun _ _ _ _ _ => (pv 3))) (pe_lst pa_nil) (nomark _)) (pss_one (ps_ret pe_bl)) pss_nil) (pss_one (ps_ret (pe_cmpR (op_eqT (α := (List Int)) (by decide) (hu64 hr)) (pe_lc (own := [("k", 4)]) (g := (gName 4)) rfl nd (pi_range2 (by rfl) T.z_range (pa_cons pe_int (pa_cons (pe_callB (r := rLenT K) call_lenT (by rfl) T.z_len PySem.boot_len (pa_cons (pv 2) pa_nil)) pa_nil))) (blkOk_by (own := [("k", 4)]) (N := N_is_rule) (sc := defScope s_is_rule) (by decide +kernel)) (fun _ _ _ _ _ => pg_name (i := 4) nd rfl (Or.inl rfl)) (fun _ _ _ _ _ => pts_one (pt_cmpR (op_geT' (α := (List Int)) (by decide) (hu64 hr)) (pe_ix (r := rIxL K) ix_list (pv 2) (pe_op op_sub (pv 4) pe_int) (fun _ _ => rfl)) (pe_ix (r := rIxL K) ix_list (pv 2) (pv 4) (fun _ _ => rfl)) (nomark _))) (fun _ _ _ _ _ => (pv 4))) (pe_lst pa_nil) (nomark _)))))))), ?_⟩
  refine x_start (σ' := ([some (.ref a1), none, none, none, none] : L2.St)) (by with_unfolding_all rfl) ?_
  rw [is_rule] at hm
  with_reducible refine x_seq ?_
  with_reducible refine x_if ?_
  with_reducible refine x_or ?_
  with_reducible refine x_not ?_
  with_reducible refine x_B ?_
  with_reducible refine x_cb ?_
  with_reducible refine x_cons ?_
  refine ⟨_, rfl, ?_⟩
  refine ⟨_, _, _, _, true, rfl, ClsV.ty _, TyX.base (TyOf.tup (G0.sub _ _ fa1)), kit_ty (by decide +kernel), ?_⟩
  refine ⟨_, rfl, ?_⟩
  refine iteF ?_
  with_reducible refine x_or ?_
  with_reducible refine x_B ?_
  with_reducible refine x_cmp ?_
  with_reducible refine x_cb ?_
  with_reducible refine x_cons ?_
  refine ⟨_, rfl, ?_⟩
  refine ⟨_, _, rfl, .inr (.inl (.inl (G0.sub _ _ fa1))), ?_⟩
  with_reducible refine x_c ?_
  refine ⟨_, _, rfl, rfl, ?_⟩
  refine ⟨_, rfl, ?_⟩
  refine ifD (fun hc => ?_) (fun hc => ?_)
  · replace hm := itep hm hc
    refine iteT ?_
    with_reducible refine x_ret ?_
    with_reducible refine x_c ?_
    obtain rfl : _ = r := Option.some.inj hm
    exact q _ _ _ G0 (.bl _)
  · replace hm := iten hm (bF hc)
    with_reducible refine x_not ?_
    with_reducible refine x_B ?_
    with_reducible refine x_call ?_
    with_reducible refine x_cons ?_
    with_reducible refine x_op ?_
    refine ⟨_, rfl, ?_⟩
    refine ⟨_, _, _, _, rfl, rfl, .inl (.inl (G0.sub _ _ fa1)), atI_nat (j := 0) rfl, ?_⟩
    obtain ⟨r1, hr1, hm⟩ := bindp hm
    refine ⟨_, _, (thing).1, r1, rfl, G0.sub, (.int _), hr1, fun N1 H1 v3 g1 d3  => ?_⟩
    have G1 := G0.step g1
    obtain rfl := bl_of d3
    refine ⟨_, rfl, ?_⟩
    refine ifD (fun hc => ?_) (fun hc => ?_)
    · replace hm := itep hm hc
      with_reducible refine x_ret ?_
      with_reducible refine x_c ?_
      obtain rfl : _ = r := Option.some.inj hm
      exact q _ _ _ G1 (.bl _)
    · replace hm := iten hm (bF hc)
      with_reducible refine x_next ?_
      with_reducible refine x_seq ?_
      with_reducible refine x_asg ?_
      refine ⟨_, rfl, ?_⟩
      refine ⟨_, _, rfl, .inl (.inl ((g1.ex.trans G1.sub) _ _ fa1)), rfl, ?_⟩
      refine ⟨_, _, rfl, ?_⟩
      with_reducible refine x_gnE (σ' := ([some (.ref a1), some (.int (thing).1), none, none, none] : L2.St)) (by with_unfolding_all rfl) ?_
      refine ⟨_, _, rfl, ?_⟩
      with_reducible refine x_gnE (σ' := ([some (.ref a1), some (.int (thing).1), some (.ref a2), none, none] : L2.St)) (by with_unfolding_all rfl) ?_
      refine ⟨rfl, ?_⟩
      with_reducible refine x_seq ?_
      with_reducible refine x_if ?_
      with_reducible refine x_or ?_
      with_reducible refine x_not ?_
      with_reducible refine x_B ?_
      with_reducible refine x_cb ?_
      with_reducible refine x_cons ?_
      refine ⟨_, rfl, ?_⟩
      refine ⟨_, _, _, _, true, rfl, ClsV.ty _, TyX.base (TyOf.lst ((g1.ex.trans G1.sub) _ _ fa2)), kit_ty (by decide +kernel), ?_⟩
      refine ⟨_, rfl, ?_⟩
      refine iteF ?_
      with_reducible refine x_B ?_
      refine useEv (.bl (decide ((4 : Int) < ((thing).2.length : Int)))) (by exact (ev_cmp (ev_lenT (Evl.ev_var rfl) ((g1.ex.trans G1.sub) _ _ fa2) (Rs_mono g1.ex fr1)) Evl.ev_c)) (fun H2 e1 => ?_)
      have g2 := gr_ex G1.sub e1
      have G2 := G1.step g2
      refine ⟨_, rfl, ?_⟩
      refine ifD (fun hc => ?_) (fun hc => ?_)
      · replace hm := itep hm hc
        with_reducible refine x_ret ?_
        with_reducible refine x_c ?_
        obtain rfl : _ = r := Option.some.inj hm
        exact q _ _ _ G2 (.bl _)
      · replace hm := iten hm (bF hc)
        with_reducible refine x_next ?_
        with_reducible refine x_seq ?_
        with_reducible refine x_if ?_
        with_reducible refine x_test ?_
        with_reducible refine x_op ?_
        with_reducible refine x_lc ?_
        with_reducible refine x_iter ?_
        refine ⟨_, rfl, ?_⟩
        refine ⟨_, rfl, ⟨_, .inl (.inl ((g1.ex.trans G2.sub) _ _ fa2))⟩, fun p1 np1 => ?_⟩
        have g3 := Gr.newO (o := .lst []) G2.sub np1
        have o1 := Ow.new (us := []) G2 np1
        have G3 := G2.step g3
        refine lc_lst (α := (List Int)) (fun (ts1 : List (List Int)) H3 => ∃ (F1 : Hp) (x2 : List (List Int)) (us3 : List V), forK (is_rule_c1 thing) ts1 x2 (is_rule_k2 thing) = some r ∧ Sub (N1) F1 ∧ Gr NA F0 H F1 H3 ∧ Ow H F1 H3 p1 us3 ∧ Rs F1 us3 x2) (Rs_mono g1.ex fr1) ⟨N1, ([] : List (List Int)), _, hm, (Sub.refl _), G3, o1, Rs_nil⟩ (fun _ _ h => ?_) (fun t1 ts2 v4 H1 hv1 hW => ?_) (fun H1 hW => ?_)
        · obtain ⟨F9z, _, _, _, s9z, G9z, _⟩ := h
          exact G9z.sub _ _ (s9z _ _ (g1.ex _ _ fa2))
        · skip
          obtain ⟨F1, x2, us3, hm, s1, G4, o2, fr2⟩ := hW
          obtain ⟨next1, hnx1⟩ : ∃ nx, nx = fun s => forK (is_rule_c1 thing) ts2 s (is_rule_k2 thing) := ⟨_, rfl⟩
          have hm : (is_rule_c1 thing) x2 t1 next1 = some r := by rw [hnx1]; exact forK_c hm
          rw [is_rule_c1] at hm
          obtain ⟨a3, us4, rfl, fa3, fr3⟩ := lst_of hv1
          with_reducible refine x_gnE (σ' := ([some (.ref a1), some (.int (thing).1), some (.ref a2), some (.ref a3), none] : L2.St)) (by with_unfolding_all rfl) ?_
          refine ⟨rfl, ?_⟩
          with_reducible refine x_not ?_
          with_reducible refine x_B ?_
          with_reducible refine x_call ?_
          with_reducible refine x_cons ?_
          refine ⟨_, rfl, ?_⟩
          with_reducible refine x_cons ?_
          refine ⟨_, rfl, ?_⟩
          obtain ⟨r2, hr2, hm⟩ := bindp hm
          refine ⟨_, _, _, (thing).1, t1, r2, rfl, G4.sub, (.int _), (mk_lst (s1 _ _ fa3) (Rs_mono s1 fr3)), hr2, fun N2 H4 v5 g4 d4  => ?_⟩
          have G5 := G4.step g4
          have o3 := o2.step g4
          obtain rfl := bl_of d4
          refine ⟨_, rfl, ?_⟩
          refine ifD (fun hc => ?_) (fun hc => ?_)
          · replace hm := itep hm hc
            refine ⟨_, rfl, ?_⟩
            obtain ⟨c1, hm⟩ := guardp hm
            have G6 := o3.mutG (o := .lst (us3 ++ [(.ref a3)])) G5
            have o4 := o3.mut (ws := us3 ++ [(.ref a3)])
            have fr4 : Rs (α := (List Int)) (N2) (us3 ++ [(.ref a3)]) (x2 ++ [t1]) := Rs_snoc (Rs_mono g4.ex fr2) (mk_lst ((s1.trans g4.ex) _ _ fa3) (Rs_mono (s1.trans g4.ex) fr3))
            rw [hnx1] at hm
            exact ⟨_, o3.at_, szl (by rw [Rs_len (Rs_mono g4.ex fr2)]; exact c1), ⟨N2, (x2 ++ [t1]), _, hm, (s1.trans g4.ex), G6, o4, fr4⟩⟩
          · replace hm := iten hm (bF hc)
            rw [hnx1] at hm
            exact ⟨N2, x2, _, hm, (s1.trans g4.ex), G5, o3, (Rs_mono g4.ex fr2)⟩
        · skip
          obtain ⟨F1, x2, us3, hm, s2, G7, o5, fr5⟩ := hW
          have hm : (is_rule_k2 thing) x2 = some r := forK_n hm
          rw [is_rule_k2] at hm
          with_reducible refine x_lst ?_
          refine ⟨szle (show 0 ≤ 16777216 from by decide), fun p2 np2 => ?_⟩
          have fr6 : Rs (α := (List Int)) (F1) [] ([] : (List (List Int))) := Rs_nil
          have g5 := Gr.newO (o := .lst []) G7.sub np2
          have o6 := Ow.new (us := []) G7 np2
          have ne1 := o5.ne_new np2
          have G8 := G7.step g5
          have o7 := o5.step g5
          refine ⟨_, x2, ([] : (List (List Int))), Sub.refl _, (mk_lst o7.at_ (Rs_mono G8.sub fr5)), (mk_lst o6.at_ (Rs_mono G8.sub fr6)), ?_⟩
          refine ⟨_, rfl, ?_⟩
          refine ifD (fun hc => ?_) (fun hc => ?_)
          · replace hm := itep hm hc
            with_reducible refine x_ret ?_
            with_reducible refine x_c ?_
            obtain rfl : _ = r := Option.some.inj hm
            exact q _ _ _ G8 (.bl _)
          · replace hm := iten hm (bF hc)
            with_reducible refine x_next ?_
            with_reducible refine x_ret ?_
            with_reducible refine x_op ?_
            with_reducible refine x_lc ?_
            with_reducible refine x_rng2 ?_
            with_reducible refine x_cons ?_
            with_reducible refine x_c ?_
            with_reducible refine x_cons ?_
            refine useEv (.int ((thing).2.length : Int)) (by exact (ev_lenT (Evl.ev_var rfl) (((g1.ex.trans s2).trans G8.sub) _ _ fa2) (Rs_mono (g1.ex.trans s2) fr1))) (fun H5 e2 => ?_)
            have g6 := gr_ex G8.sub e2
            have G9 := G8.step g6
            obtain ⟨c2, hm⟩ := guardp hm
            refine ⟨_, _, rfl, c2.ok, fun p3 np3 => ?_⟩
            have g7 := Gr.newO (o := .lst []) G9.sub np3
            have o8 := Ow.new (us := []) G9 np3
            have G10 := G9.step g7
            refine lc_rng (lo := (1 : Int)) (hi := ((thing).2.length : Int)) rfl (fun (ts3 : List Int) H6 => ∃ (F2 : Hp) (x4 : List Int) (us6 : List V), forK (is_rule_c3 thing) ts3 x4 (is_rule_k4) = some r ∧ Sub (F1) F2 ∧ Gr NA F0 H F2 H6 ∧ Ow H F2 H6 p3 us6 ∧ Rs F2 us6 x4) ⟨F1, ([] : List Int), _, hm, (Sub.refl _), G10, o8, Rs_nil⟩ (fun t2 ts4 H1 hW => ?_) (fun H1 hW => ?_)
            · skip
              obtain ⟨F2, x4, us6, hm, s3, G11, o9, fr7⟩ := hW
              obtain ⟨next2, hnx2⟩ : ∃ nx, nx = fun s => forK (is_rule_c3 thing) ts4 s (is_rule_k4) := ⟨_, rfl⟩
              have hm : (is_rule_c3 thing) x4 t2 next2 = some r := by rw [hnx2]; exact forK_c hm
              rw [is_rule_c3] at hm
              with_reducible refine x_gnE (σ' := ([some (.ref a1), some (.int (thing).1), some (.ref a2), none, some (.int t2)] : L2.St)) (by with_unfolding_all rfl) ?_
              refine ⟨rfl, ?_⟩
              with_reducible refine x_test ?_
              with_reducible refine x_op ?_
              with_reducible refine x_op ?_
              refine ⟨_, rfl, ?_⟩
              refine useEv (.int (t2 - (1 : Int))) (by exact (Evl.ev_op (Evl.ev_var rfl) Evl.ev_c Evl.rv_I0)) (fun H7 e3 => ?_)
              have g8 := gr_ex G11.sub e3
              have G12 := G11.step g8
              have o10 := o9.step g8
              obtain ⟨x5, hx1, hm⟩ := bindp hm
              obtain ⟨v7, hu1, d5⟩ := Rs_at (Rs_mono ((g1.ex.trans s2).trans s3) fr1) hx1
              refine ⟨_, _, _, _, rfl, rfl, .inl (.inl ((((g1.ex.trans s2).trans s3).trans G12.sub) _ _ fa2)), hu1, ?_⟩
              obtain ⟨a4, us7, rfl, fa4, fr8⟩ := lst_of d5
              with_reducible refine x_op ?_
              refine ⟨_, rfl, ?_⟩
              refine ⟨_, rfl, ?_⟩
              obtain ⟨x6, hx2, hm⟩ := bindp hm
              obtain ⟨v8, hu2, d6⟩ := Rs_at (Rs_mono ((g1.ex.trans s2).trans s3) fr1) hx2
              refine ⟨_, _, _, _, rfl, rfl, .inl (.inl ((((g1.ex.trans s2).trans s3).trans G12.sub) _ _ fa2)), hu2, ?_⟩
              obtain ⟨a5, us8, rfl, fa5, fr9⟩ := lst_of d6
              refine ⟨_, x5, x6, Sub.refl _, (RD.mono G12.sub (mk_lst ((Sub.refl _) _ _ fa4) (Rs_mono (Sub.refl _) fr8))), (RD.mono G12.sub (mk_lst ((Sub.refl _) _ _ fa5) (Rs_mono (Sub.refl _) fr9))), ?_⟩
              refine ⟨_, rfl, ?_⟩
              refine ifD (fun hc => ?_) (fun hc => ?_)
              · replace hm := itep hm hc
                refine ⟨_, rfl, ?_⟩
                obtain ⟨c3, hm⟩ := guardp hm
                have G13 := o10.mutG (o := .lst (us6 ++ [(.int t2)])) G12
                have o11 := o10.mut (ws := us6 ++ [(.int t2)])
                have fr10 : Rs (α := Int) (F2) (us6 ++ [(.int t2)]) (x4 ++ [t2]) := Rs_snoc fr7 (.int _)
                rw [hnx2] at hm
                exact ⟨_, o10.at_, szl (by rw [Rs_len fr7]; exact c3), ⟨F2, (x4 ++ [t2]), _, hm, s3, G13, o11, fr10⟩⟩
              · replace hm := iten hm (bF hc)
                rw [hnx2] at hm
                exact ⟨F2, x4, _, hm, s3, G12, o10, fr7⟩
            · skip
              obtain ⟨F2, x4, us6, hm, s4, G14, o12, fr11⟩ := hW
              have hm : (is_rule_k4) x4 = some r := forK_n hm
              rw [is_rule_k4] at hm
              with_reducible refine x_lst ?_
              refine ⟨szle (show 0 ≤ 16777216 from by decide), fun p4 np4 => ?_⟩
              have fr12 : Rs (α := Int) (F2) [] ([] : (List Int)) := Rs_nil
              have g9 := Gr.newO (o := .lst []) G14.sub np4
              have o13 := Ow.new (us := []) G14 np4
              have ne2 := o12.ne_new np4
              have G15 := G14.step g9
              have o14 := o12.step g9
              refine ⟨_, x4, ([] : (List Int)), Sub.refl _, (mk_lst o14.at_ (Rs_mono G15.sub fr11)), (mk_lst o13.at_ (Rs_mono G15.sub fr12)), ?_⟩
              obtain rfl : _ = r := Option.some.inj hm
              exact q _ _ _ G15 (.bl _)

abbrev N_need_rules : List Str := ["thing", "one"]
theorem sc_need_rules : FnScope N_need_rules ["thing"] (defScope s_need_rules) := ⟨rfl, rfl, rfl, by decide +kernel, rfl, by decide +kernel, by decide +kernel⟩
def sp_need_rules : Sp := fun vs H Q E => ∃ (F : Hp) (v_thing : V) (thing : (List (Int × (List (List Int))))) (r : (Except Er Unit)), vs = [v_thing] ∧ Sub F H ∧ R F v_thing thing ∧ need_rules thing = some r ∧ (∀ x9, r = .ok x9 → ∀ N H2 v, Gr NA F H N H2 → R N v x9 → Q v H2) ∧ ∀ e9, r = .error e9 → ∀ N H2, Gr NA F H N H2 → E (.ref (ErT.ad e9)) none H2
theorem ok_need_rules {P : Program} {w : World} {K : PySem.W.Frag} {mg : Str → Option Value} {base : Heap} (T : Txt K mg) : FnOk P w K mg base (L2.CX P w) 6 T.f_need_rules.f T.f_need_rules.fd ["thing"] sp_need_rules := by
  have nd := (sc_need_rules).nd
  refine T.f_need_rules.F.okX sc_need_rules (fun vs H Q E h => ?_) (fun cdv A0 outer s H vs Q E hr h => ?_)
  · obtain ⟨_, _, _, _, rfl, _⟩ := h
    rfl
  obtain ⟨F0, v_thing, thing, r, rfl, s0, f_thing, hm, q, qe⟩ := h
  have G0 : Gr NA F0 H F0 H := Gr.refl s0
  obtain ⟨a1, us1, rfl, fa1, fr1⟩ := lst_of f_thing
  refine ⟨_, (pss_cons (ps_if (PW.pt (pw_or (pt_not (pt_val (pe_callB (r := rIsi K) call_isi (by rfl) T.z_isinstance (by decide +kernel) (pa_cons (pv 0) (pa_cons (pe_bltn (v := .ty "list") (by rfl) T.z_list (by decide +kernel) rfl) pa_nil))))) (pw_or1 (pt_not (pt_chain op_le op_le pe_int (pe_callB (r := rLenT K) call_lenT (by rfl) T.z_len PySem.boot_len (pa_cons (pv 0) pa_nil)) (pe_glob (v := .int 3) rfl T.c_MOST_RULES.g ⟨_, rfl⟩)))))) (pss_one (ps_raiseE rfl (takes_of rfl rfl rfl rfl) (T.er.r .NoRules) (by rfl))) pss_nil) (pss_one (ps_if (pt_cmpR (op_neT (α := (List (Int × (List (List Int))))) (by decide) (hu64 hr)) (pe_lc (own := [("one", 1)]) (g := (gName 1)) rfl nd (pi_list (pv 0)) (blkOk_by (own := [("one", 1)]) (N := N_need_rules) (sc := defScope s_need_rules) (by decide +kernel)) (fun _ _ _ _ _ => pg_name (i := 1) nd rfl (Or.inl rfl)) (fun _ _ _ _ _ => pts_one (pt_not (pt_val (pe_call (ok_is_rule T) (hr.mono (by decide)) (by rfl) T.f_is_rule.g T.f_is_rule.F.kp T.f_is_rule.b .nil pass0 (pa_cons (pv 1) pa_nil))))) (fun _ _ _ _ _ => (pv 1))) (pe_lst pa_nil) (nomark _)) (pss_one (ps_raiseE rfl (takes_of rfl rfl rfl rfl) (T.er.r .NoRules) (by rfl))) pss_nil))), ?_⟩
  refine x_start (σ' := ([some (.ref a1), none] : L2.St)) (by with_unfolding_all rfl) ?_
  rw [need_rules] at hm
  with_reducible refine x_seq ?_
  with_reducible refine x_if ?_
  with_reducible refine x_or ?_
  with_reducible refine x_not ?_
  with_reducible refine x_B ?_
  with_reducible refine x_cb ?_
  with_reducible refine x_cons ?_
  refine ⟨_, rfl, ?_⟩
  refine ⟨_, _, _, _, true, rfl, ClsV.ty _, TyX.base (TyOf.lst (G0.sub _ _ fa1)), kit_ty (by decide +kernel), ?_⟩
  refine ⟨_, rfl, ?_⟩
  refine iteF ?_
  with_reducible refine x_not ?_
  with_reducible refine x_test ?_
  with_reducible refine x_chain ?_
  with_reducible refine x_c ?_
  refine useEv (.int (thing.length : Int)) (by exact (ev_lenT (Evl.ev_var rfl) (G0.sub _ _ fa1) (Rs_mono (Sub.refl _) fr1))) (fun H1 e1 => ?_)
  have g1 := gr_ex G0.sub e1
  have G1 := G0.step g1
  refine ⟨_, _, rfl, rfl, _, rfl, ?_⟩
  refine ifD (fun hc => ?_) (fun hc => ?_)
  · replace hm := itep hm hc
    with_reducible refine x_c ?_
    refine ⟨_, _, rfl, rfl, ?_⟩
    refine ⟨_, rfl, ?_⟩
    refine ifD (fun hc => ?_) (fun hc => ?_)
    · replace hm := itep hm hc
      obtain rfl : Except.error _ = r := Option.some.inj hm
      exact qe _ rfl _ _ G1
    · replace hm := iten hm (bF hc)
      with_reducible refine x_next ?_
      with_reducible refine x_if ?_
      with_reducible refine x_test ?_
      with_reducible refine x_op ?_
      with_reducible refine x_lc ?_
      with_reducible refine x_iter ?_
      refine ⟨_, rfl, ?_⟩
      refine ⟨_, rfl, ⟨_, .inl (.inl (G1.sub _ _ fa1))⟩, fun p1 np1 => ?_⟩
      have g2 := Gr.newO (o := .lst []) G1.sub np1
      have o1 := Ow.new (us := []) G1 np1
      have G2 := G1.step g2
      refine lc_lst (α := (Int × (List (List Int)))) (fun (ts1 : List (Int × (List (List Int)))) H2 => ∃ (F1 : Hp) (x2 : List (Int × (List (List Int)))) (us3 : List V), forK (need_rules_c1) ts1 x2 (need_rules_k2) = some r ∧ Sub (F0) F1 ∧ Gr NA F0 H F1 H2 ∧ Ow H F1 H2 p1 us3 ∧ Rs F1 us3 x2) (Rs_mono (Sub.refl _) fr1) ⟨F0, ([] : List (Int × (List (List Int)))), _, hm, (Sub.refl _), G2, o1, Rs_nil⟩ (fun _ _ h => ?_) (fun t1 ts2 v1 H1 hv1 hW => ?_) (fun H1 hW => ?_)
      · obtain ⟨F9z, _, _, _, s9z, G9z, _⟩ := h
        exact G9z.sub _ _ (s9z _ _ ((Sub.refl _) _ _ fa1))
      · skip
        obtain ⟨F1, x2, us3, hm, s1, G3, o2, fr2⟩ := hW
        obtain ⟨next1, hnx1⟩ : ∃ nx, nx = fun s => forK (need_rules_c1) ts2 s (need_rules_k2) := ⟨_, rfl⟩
        have hm : (need_rules_c1) x2 t1 next1 = some r := by rw [hnx1]; exact forK_c hm
        rw [need_rules_c1] at hm
        obtain ⟨a2, v2, v3, rfl, fa2, d1, d2⟩ := tup2_of hv1
        obtain rfl := int_of d1
        obtain ⟨a3, us4, rfl, fa3, fr3⟩ := lst_of d2
        with_reducible refine x_gnE (σ' := ([some (.ref a1), some (.ref a2)] : L2.St)) (by with_unfolding_all rfl) ?_
        refine ⟨rfl, ?_⟩
        with_reducible refine x_not ?_
        with_reducible refine x_B ?_
        with_reducible refine x_call ?_
        with_reducible refine x_cons ?_
        refine ⟨_, rfl, ?_⟩
        obtain ⟨r1, hr1, hm⟩ := bindp hm
        refine ⟨_, _, t1, r1, rfl, G3.sub, (mk_tup2 (s1 _ _ fa2) (.int _) (mk_lst (s1 _ _ fa3) (Rs_mono s1 fr3))), hr1, fun N1 H3 v4 g3 d3  => ?_⟩
        have G4 := G3.step g3
        have o3 := o2.step g3
        obtain rfl := bl_of d3
        refine ⟨_, rfl, ?_⟩
        refine ifD (fun hc => ?_) (fun hc => ?_)
        · replace hm := itep hm hc
          refine ⟨_, rfl, ?_⟩
          obtain ⟨c1, hm⟩ := guardp hm
          have G5 := o3.mutG (o := .lst (us3 ++ [(.ref a2)])) G4
          have o4 := o3.mut (ws := us3 ++ [(.ref a2)])
          have fr4 : Rs (α := (Int × (List (List Int)))) (N1) (us3 ++ [(.ref a2)]) (x2 ++ [t1]) := Rs_snoc (Rs_mono g3.ex fr2) (mk_tup2 ((s1.trans g3.ex) _ _ fa2) (.int _) (mk_lst ((s1.trans g3.ex) _ _ fa3) (Rs_mono (s1.trans g3.ex) fr3)))
          rw [hnx1] at hm
          exact ⟨_, o3.at_, szl (by rw [Rs_len (Rs_mono g3.ex fr2)]; exact c1), ⟨N1, (x2 ++ [t1]), _, hm, (s1.trans g3.ex), G5, o4, fr4⟩⟩
        · replace hm := iten hm (bF hc)
          rw [hnx1] at hm
          exact ⟨N1, x2, _, hm, (s1.trans g3.ex), G4, o3, (Rs_mono g3.ex fr2)⟩
      · skip
        obtain ⟨F1, x2, us3, hm, s2, G6, o5, fr5⟩ := hW
        have hm : (need_rules_k2) x2 = some r := forK_n hm
        rw [need_rules_k2] at hm
        with_reducible refine x_lst ?_
        refine ⟨szle (show 0 ≤ 16777216 from by decide), fun p2 np2 => ?_⟩
        have fr6 : Rs (α := (Int × (List (List Int)))) (F1) [] ([] : (List (Int × (List (List Int))))) := Rs_nil
        have g4 := Gr.newO (o := .lst []) G6.sub np2
        have o6 := Ow.new (us := []) G6 np2
        have ne1 := o5.ne_new np2
        have G7 := G6.step g4
        have o7 := o5.step g4
        refine ⟨_, x2, ([] : (List (Int × (List (List Int))))), Sub.refl _, (mk_lst o7.at_ (Rs_mono G7.sub fr5)), (mk_lst o6.at_ (Rs_mono G7.sub fr6)), ?_⟩
        refine ⟨_, rfl, ?_⟩
        refine ifD (fun hc => ?_) (fun hc => ?_)
        · replace hm := itep hm hc
          obtain rfl : Except.error _ = r := Option.some.inj hm
          exact qe _ rfl _ _ G7
        · replace hm := iten hm (bF hc)
          with_reducible refine x_next ?_
          obtain rfl : Except.ok _ = r := Option.some.inj hm
          exact q _ rfl _ _ _ G7 .non
  · replace hm := iten hm (bF hc)
    refine ⟨_, rfl, ?_⟩
    refine iteT ?_
    obtain rfl : Except.error _ = r := Option.some.inj hm
    exact qe _ rfl _ _ G1

abbrev N_stands_in : List Str := ["stretch", "figures", "size", "at"]
theorem sc_stands_in : FnScope N_stands_in ["stretch", "figures"] (defScope s_stands_in) := ⟨rfl, rfl, rfl, by decide +kernel, rfl, by decide +kernel, by decide +kernel⟩
def sp_stands_in : Sp := fun vs H Q _ => ∃ (F : Hp) (v_stretch : V) (v_figures : V) (stretch : (List Int)) (figures : (List Int)) (r : Bool), vs = [v_stretch, v_figures] ∧ Sub F H ∧ R F v_stretch stretch ∧ R F v_figures figures ∧ stands_in stretch figures = some r ∧ ∀ N H2 v, Gr NA F H N H2 → R N v r → Q v H2
theorem ok_stands_in {P : Program} {w : World} {K : PySem.W.Frag} {mg : Str → Option Value} {base : Heap} (T : Txt K mg) : FnOk P w K mg base CX0 1 T.f_stands_in.f T.f_stands_in.fd ["stretch", "figures"] sp_stands_in := by
  have nd := (sc_stands_in).nd
  refine T.f_stands_in.F.ok sc_stands_in (fun vs H Q E h => ?_) (fun cdv A0 outer s H vs Q E hr h => ?_)
  · obtain ⟨_, _, _, _, _, _, rfl, _⟩ := h
    rfl
  obtain ⟨F0, v_stretch, v_figures, stretch, figures, r, rfl, s0, f_stretch, f_figures, hm, q⟩ := h
  have G0 : Gr NA F0 H F0 H := Gr.refl s0
  obtain ⟨a1, us1, rfl, fa1, fr1⟩ := lst_of f_stretch
  obtain ⟨a2, us2, rfl, fa2, fr2⟩ := lst_of f_figures
  refine ⟨_, (pss_cons (ps_set (i := 2) nd rfl (by first | exact Or.inl rfl | exact Or.inr rfl) (pe_callB (r := rLenT K) call_lenT (by rfl) T.z_len PySem.boot_len (pa_cons (pv 0) pa_nil))) (pss_one (ps_ret (pe_cmpR (op_neT (α := (List Int)) (by decide) (hu64 hr)) (pe_lc (own := [("at", 3)]) (g := (gName 3)) rfl nd (pi_range1 (by rfl) T.z_range (pa_cons (pe_op op_add (pe_op op_sub (pe_callB (r := rLenT K) call_lenT (by rfl) T.z_len PySem.boot_len (pa_cons (pv 1) pa_nil)) (pv 2)) pe_int) pa_nil)) (blkOk_by (own := [("at", 3)]) (N := N_stands_in) (sc := defScope s_stands_in) (by decide +kernel)) (fun _ _ _ _ _ => pg_name (i := 3) nd rfl (Or.inl rfl)) (fun _ _ _ _ _ => pts_one (pt_cmpR (op_eqT (α := (List Int)) (by decide) (hu64 hr)) (pe_slice (r := rSlL K) sl_list (pv 1) (po_some (pv 3)) (po_some (pe_op op_add (pv 3) (pv 2)))) (pv 0) (nomark _))) (fun _ _ _ _ _ => (pv 3))) (pe_lst pa_nil) (nomark _))))), ?_⟩
  refine x_start (σ' := ([some (.ref a1), some (.ref a2), none, none] : L2.St)) (by with_unfolding_all rfl) ?_
  rw [stands_in] at hm
  with_reducible refine x_seq ?_
  with_reducible refine x_asg ?_
  refine useEv (.int (stretch.length : Int)) (by exact (ev_lenT (Evl.ev_var rfl) (G0.sub _ _ fa1) (Rs_mono (Sub.refl _) fr1))) (fun H1 e1 => ?_)
  have g1 := gr_ex G0.sub e1
  have G1 := G0.step g1
  with_reducible refine x_gnE (σ' := ([some (.ref a1), some (.ref a2), some (.int (stretch.length : Int)), none] : L2.St)) (by with_unfolding_all rfl) ?_
  with_reducible refine x_ret ?_
  with_reducible refine x_op ?_
  with_reducible refine x_lc ?_
  with_reducible refine x_rng1 ?_
  with_reducible refine x_cons ?_
  refine useEv (.int (((figures.length : Int) - (stretch.length : Int)) + (1 : Int))) (by exact (Evl.ev_op (Evl.ev_op (ev_lenT (Evl.ev_var rfl) (G1.sub _ _ fa2) (Rs_mono (Sub.refl _) fr2)) (Evl.ev_var rfl) Evl.rv_I0) Evl.ev_c Evl.rv_I0)) (fun H2 e2 => ?_)
  have g2 := gr_ex G1.sub e2
  have G2 := G1.step g2
  obtain ⟨c1, hm⟩ := guardp hm
  refine ⟨_, rfl, c1.lo, c1.hi, fun p1 np1 => ?_⟩
  have g3 := Gr.newO (o := .lst []) G2.sub np1
  have o1 := Ow.new (us := []) G2 np1
  have G3 := G2.step g3
  refine lc_rng (lo := 0) (hi := (((figures.length : Int) - (stretch.length : Int)) + (1 : Int))) (by rw [Int.sub_zero]) (fun (ts1 : List Int) H3 => ∃ (F1 : Hp) (x2 : List Int) (us4 : List V), forK (stands_in_c1 figures stretch) ts1 x2 (stands_in_k2) = some r ∧ Sub (F0) F1 ∧ Gr NA F0 H F1 H3 ∧ Ow H F1 H3 p1 us4 ∧ Rs F1 us4 x2) ⟨F0, ([] : List Int), _, hm, (Sub.refl _), G3, o1, Rs_nil⟩ (fun t1 ts2 H1 hW => ?_) (fun H1 hW => ?_)
  · skip
    obtain ⟨F1, x2, us4, hm, s1, G4, o2, fr3⟩ := hW
    obtain ⟨next1, hnx1⟩ : ∃ nx, nx = fun s => forK (stands_in_c1 figures stretch) ts2 s (stands_in_k2) := ⟨_, rfl⟩
    have hm : (stands_in_c1 figures stretch) x2 t1 next1 = some r := by rw [hnx1]; exact forK_c hm
    rw [stands_in_c1] at hm
    with_reducible refine x_gnE (σ' := ([some (.ref a1), some (.ref a2), some (.int (stretch.length : Int)), some (.int t1)] : L2.St)) (by with_unfolding_all rfl) ?_
    refine ⟨rfl, ?_⟩
    with_reducible refine x_test ?_
    with_reducible refine x_op ?_
    with_reducible refine x_sl ?_
    refine ⟨_, rfl, ?_⟩
    with_reducible refine x_part ?_
    refine ⟨_, rfl, ?_⟩
    refine ⟨_, rfl, ?_⟩
    with_reducible refine x_part ?_
    refine useEv (.int (t1 + (stretch.length : Int))) (by exact (Evl.ev_op (Evl.ev_var rfl) (Evl.ev_var rfl) Evl.rv_I0)) (fun H4 e3 => ?_)
    have g4 := gr_ex G4.sub e3
    have G5 := G4.step g4
    have o3 := o2.step g4
    refine ⟨_, rfl, ?_⟩
    refine ⟨_, _, rfl, .inl (.inl ((s1.trans G5.sub) _ _ fa2)), fun p2 np2 => ?_⟩
    have fr4 : Rs (α := Int) (F1) (cutV us2 (some t1) (some (t1 + (stretch.length : Int)))) (cutT figures (some t1) (some (t1 + (stretch.length : Int)))) := Rs_cut (Rs_mono s1 fr2)
    have g5 := Gr.newO (o := .lst (cutV us2 (some t1) (some (t1 + (stretch.length : Int))))) G5.sub np2
    have o4 := Ow.new (us := (cutV us2 (some t1) (some (t1 + (stretch.length : Int))))) G5 np2
    have ne1 := o3.ne_new np2
    have G6 := G5.step g5
    have o5 := o3.step g5
    refine ⟨_, rfl, ?_⟩
    refine ⟨_, (cutT figures (some t1) (some (t1 + (stretch.length : Int)))), stretch, Sub.refl _, (mk_lst o4.at_ (Rs_mono G6.sub fr4)), (RD.mono G6.sub (mk_lst (s1 _ _ fa1) (Rs_mono s1 fr1))), ?_⟩
    refine ⟨_, rfl, ?_⟩
    refine ifD (fun hc => ?_) (fun hc => ?_)
    · replace hm := itep hm hc
      refine ⟨_, rfl, ?_⟩
      obtain ⟨c2, hm⟩ := guardp hm
      have G7 := o5.mutG (o := .lst (us4 ++ [(.int t1)])) G6
      have o6 := o5.mut (ws := us4 ++ [(.int t1)])
      have fr5 : Rs (α := Int) (F1) (us4 ++ [(.int t1)]) (x2 ++ [t1]) := Rs_snoc fr3 (.int _)
      have o7 := o4.other (ws := us4 ++ [(.int t1)]) (Ne.symm (Ne.symm ne1))
      rw [hnx1] at hm
      exact ⟨_, o5.at_, szl (by rw [Rs_len fr3]; exact c2), ⟨F1, (x2 ++ [t1]), _, hm, s1, G7, o6, fr5⟩⟩
    · replace hm := iten hm (bF hc)
      rw [hnx1] at hm
      exact ⟨F1, x2, _, hm, s1, G6, o5, fr3⟩
  · skip
    obtain ⟨F1, x2, us4, hm, s2, G8, o8, fr6⟩ := hW
    have hm : (stands_in_k2) x2 = some r := forK_n hm
    rw [stands_in_k2] at hm
    with_reducible refine x_lst ?_
    refine ⟨szle (show 0 ≤ 16777216 from by decide), fun p3 np3 => ?_⟩
    have fr7 : Rs (α := Int) (F1) [] ([] : (List Int)) := Rs_nil
    have g6 := Gr.newO (o := .lst []) G8.sub np3
    have o9 := Ow.new (us := []) G8 np3
    have ne2 := o8.ne_new np3
    have G9 := G8.step g6
    have o10 := o8.step g6
    refine ⟨_, x2, ([] : (List Int)), Sub.refl _, (mk_lst o10.at_ (Rs_mono G9.sub fr6)), (mk_lst o9.at_ (Rs_mono G9.sub fr7)), ?_⟩
    obtain rfl : _ = r := Option.some.inj hm
    exact q _ _ _ G9 (.bl _)

abbrev N_one_rule : List Str := ["rules", "known", "base", "bad", "stretch", "found", "rule", "other"]
theorem sc_one_rule : FnScope N_one_rule ["rules"] (defScope s_one_rule) := ⟨rfl, rfl, rfl, by decide +kernel, rfl, by decide +kernel, by decide +kernel⟩
def sp_one_rule : Sp := fun vs H Q E => ∃ (F : Hp) (v_rules : V) (rules : (List (Int × (List (List Int))))) (r : (Except Er (Int × (List (List Int))))), vs = [v_rules] ∧ Sub F H ∧ R F v_rules rules ∧ one_rule rules = some r ∧ (∀ x9, r = .ok x9 → ∀ N H2 v, Gr NA F H N H2 → NR H N v x9 → Q v H2) ∧ ∀ e9, r = .error e9 → ∀ N H2, Gr NA F H N H2 → E (.ref (ErT.ad e9)) none H2
theorem ok_one_rule {P : Program} {w : World} {K : PySem.W.Frag} {mg : Str → Option Value} {base : Heap} (T : Txt K mg) : FnOk P w K mg base (L2.CX P w) 7 T.f_one_rule.f T.f_one_rule.fd ["rules"] sp_one_rule := by
  have nd := (sc_one_rule).nd
  refine T.f_one_rule.F.okX sc_one_rule (fun vs H Q E h => ?_) (fun cdv A0 outer s H vs Q E hr h => ?_)
  · obtain ⟨_, _, _, _, rfl, _⟩ := h
    rfl
  obtain ⟨F0, v_rules, rules, r, rfl, s0, f_rules, hm, q, qe⟩ := h
  have G0 : Gr NA F0 H F0 H := Gr.refl s0
  obtain ⟨a1, us1, rfl, fa1, fr1⟩ := lst_of f_rules
  refine ⟨_, (pss_cons (ps_expr (pe_callS (ok_need_rules T) (hr.mono (by decide)) (by rfl) T.f_need_rules.g T.f_need_rules.F.kp T.f_need_rules.b (fun σ => passAt (takes_of rfl rfl rfl rfl) σ) (pa_cons (pv 0) pa_nil))) (pss_cons (ps_if (pt_cmpR (op_neT (α := (List (Int × (List (List Int))))) (by decide) (hu64 hr)) (pe_lc (own := [("rule", 6)]) (g := (gName 6)) rfl nd (pi_list (pv 0)) (blkOk_by (own := [("rule", 6)]) (N := N_one_rule) (sc := defScope s_one_rule) (by decide +kernel)) (fun _ _ _ _ _ => pg_name (i := 6) nd rfl (Or.inl rfl)) (fun _ _ _ _ _ => pts_one (pt_cmp (pc_neI (pe_ix (r := rIxT K) ix_tup (pv 6) pe_int (fun _ _ => rfl)) (pe_ix (r := rIxT K) ix_tup (pe_ix (r := rIxL K) ix_list (pv 0) pe_int (fun _ _ => rfl)) pe_int (fun _ _ => rfl))))) (fun _ _ _ _ _ => (pv 6))) (pe_lst pa_nil) (nomark _)) (pss_one (ps_raiseE rfl (takes_of rfl rfl rfl rfl) (T.er.r .NoRules) (by rfl))) pss_nil) (pss_cons (ps_set (i := 1) nd rfl (by first | exact Or.inl rfl | exact Or.inr rfl) pe_dnewT) (pss_cons (ps_for (passes_of rfl) rfl (pi_list (pv 0)) (pg_tup rfl (pgs_cons (pg_name (i := 2) nd rfl (by first | exact Or.inl rfl | exact Or.inr rfl)) (pgs_cons (pg_name (i := 3) nd rfl (by first | exact Or.inl rfl | exact Or.inr rfl)) pgs_nil))) (pss_one (ps_for (passes_of rfl) rfl (pi_list (pv 3)) (pg_name (i := 4) nd rfl (by first | exact Or.inl rfl | exact Or.inr rfl)) (pss_one (ps_dput (hu_of hr) (pv 1) (pe_callTy (r := rTupL K) call_tupL (by rfl) T.z_tuple (by decide +kernel) (pa_cons (pv 4) pa_nil)) (pv 4) (by rfl)))))) (pss_cons (ps_set (i := 5) nd rfl (by first | exact Or.inl rfl | exact Or.inr rfl) (pe_lst pa_nil)) (pss_cons (ps_lock (ps_for (passes_of rfl) rfl (pi_valuesT (pv 1)) (pg_name (i := 4) nd rfl (by first | exact Or.inl rfl | exact Or.inr rfl)) (pss_one (ps_if (pt_cmpR (op_eqT (α := (List (List Int))) (by decide) (hu64 hr)) (pe_lc (own := [("other", 7)]) (g := (gName 7)) rfl nd (pi_valuesT (pv 1)) (blkOk_by (own := [("other", 7)]) (N := N_one_rule) (sc := defScope s_one_rule) (by decide +kernel)) (fun _ _ _ _ _ => pg_name (i := 7) nd rfl (Or.inl rfl)) (fun _ _ _ _ _ => pts_one (PW.pt (pw_and (pt_cmpR (op_neT (α := (List Int)) (by decide) (hu64 hr)) (pv 7) (pv 4) (nomark _)) (pw_and1 (pt_val (pe_call (ok_stands_in T) (hr.mono (by decide)) (by rfl) T.f_stands_in.g T.f_stands_in.F.kp T.f_stands_in.b .nil pass0 (pa_cons (pv 7) (pa_cons (pv 4) pa_nil)))))))) (fun _ _ _ _ _ => (pv 7))) (pe_lst pa_nil) (nomark _)) (pss_one (ps_expr (pe_bm PySem.F.plainAttrs_list PySem.F.slot_list_append PySem.F.type_list_append mt_append (pv 5) (pa_cons (pe_callTy (r := rListT K) call_listT (by rfl) T.z_list (by decide +kernel) (pa_cons (pv 4) pa_nil)) pa_nil)))) pss_nil)))) (pss_cons (ps_if (pt_cmp (pc_gt (pe_callB (r := rLenT K) call_lenT (by rfl) T.z_len PySem.boot_len (pa_cons (pv 5) pa_nil)) (pe_glob (v := .int 4) rfl T.c_MOST_STRETCHES.g ⟨_, rfl⟩))) (pss_one (ps_raiseE rfl (takes_of rfl rfl rfl rfl) (T.er.r .TooMany) (by rfl))) pss_nil) (pss_one (ps_ret (pe_tup (pa_cons (pe_ix (r := rIxT K) ix_tup (pe_ix (r := rIxL K) ix_list (pv 0) pe_int (fun _ _ => rfl)) pe_int (fun _ _ => rfl)) (pa_cons (pe_callB (r := rSortedM (List Int)) (call_sortedM (by decide) (hu200' hr)) (by rfl) T.z_sorted (by decide +kernel) (pa_cons (pv 5) pa_nil)) pa_nil)))))))))))), ?_⟩
  refine x_start (σ' := ([some (.ref a1), none, none, none, none, none, none, none] : L2.St)) (by with_unfolding_all rfl) ?_
  rw [one_rule] at hm
  with_reducible refine x_seq ?_
  with_reducible refine x_drop ?_
  with_reducible refine x_callS ?_
  with_reducible refine x_cons ?_
  refine ⟨_, rfl, ?_⟩
  obtain ⟨r1, hr1, hm⟩ := bindp hm
  refine ⟨_, _, rules, r1, rfl, G0.sub, (mk_lst ((Sub.refl _) _ _ fa1) (Rs_mono (Sub.refl _) fr1)), hr1, fun y1 e9 N1 H1 v1 g1 d1 => ?_, fun er1 e9 N1 H1 g1 => ?_⟩
  · subst e9; rw [exB_ok] at hm
    have G1 := G0.step g1
    obtain rfl := non_of d1
    with_reducible refine x_seq ?_
    with_reducible refine x_if ?_
    with_reducible refine x_test ?_
    with_reducible refine x_op ?_
    with_reducible refine x_lc ?_
    with_reducible refine x_iter ?_
    refine ⟨_, rfl, ?_⟩
    refine ⟨_, rfl, ⟨_, .inl (.inl ((g1.ex.trans G1.sub) _ _ fa1))⟩, fun p1 np1 => ?_⟩
    have g2 := Gr.newO (o := .lst []) G1.sub np1
    have o1 := Ow.new (us := []) G1 np1
    have G2 := G1.step g2
    refine lc_lst (α := (Int × (List (List Int)))) (fun (ts1 : List (Int × (List (List Int)))) H2 => ∃ (F1 : Hp) (x2 : List (Int × (List (List Int)))) (us3 : List V), forK (one_rule_c1 rules) ts1 x2 (one_rule_k2 rules) = some r ∧ Sub (N1) F1 ∧ Gr NA F0 H F1 H2 ∧ Ow H F1 H2 p1 us3 ∧ Rs F1 us3 x2) (Rs_mono g1.ex fr1) ⟨N1, ([] : List (Int × (List (List Int)))), _, hm, (Sub.refl _), G2, o1, Rs_nil⟩ (fun _ _ h => ?_) (fun t1 ts2 v2 H1 hv1 hW => ?_) (fun H1 hW => ?_)
    · obtain ⟨F9z, _, _, _, s9z, G9z, _⟩ := h
      exact G9z.sub _ _ (s9z _ _ (g1.ex _ _ fa1))
    · skip
      obtain ⟨F1, x2, us3, hm, s1, G3, o2, fr2⟩ := hW
      obtain ⟨next1, hnx1⟩ : ∃ nx, nx = fun s => forK (one_rule_c1 rules) ts2 s (one_rule_k2 rules) := ⟨_, rfl⟩
      have hm : (one_rule_c1 rules) x2 t1 next1 = some r := by rw [hnx1]; exact forK_c hm
      rw [one_rule_c1] at hm
      obtain ⟨a2, v3, v4, rfl, fa2, d2, d3⟩ := tup2_of hv1
      obtain rfl := int_of d2
      obtain ⟨a3, us4, rfl, fa3, fr3⟩ := lst_of d3
      with_reducible refine x_gnE (σ' := ([some (.ref a1), none, none, none, none, none, some (.ref a2), none] : L2.St)) (by with_unfolding_all rfl) ?_
      refine ⟨rfl, ?_⟩
      with_reducible refine x_B ?_
      with_reducible refine x_cmp ?_
      with_reducible refine x_op ?_
      refine ⟨_, rfl, ?_⟩
      refine ⟨_, _, _, _, rfl, rfl, .inl (.inl ((s1.trans G3.sub) _ _ fa2)), atI_nat (j := 0) rfl, ?_⟩
      with_reducible refine x_op ?_
      with_reducible refine x_op ?_
      refine ⟨_, rfl, ?_⟩
      with_reducible refine x_c ?_
      obtain ⟨x3, hx1, hm⟩ := bindp hm
      obtain ⟨v5, hu1, d4⟩ := Rs_at (Rs_mono (g1.ex.trans s1) fr1) hx1
      refine ⟨_, _, _, _, rfl, rfl, .inl (.inl (((g1.ex.trans s1).trans G3.sub) _ _ fa1)), hu1, ?_⟩
      obtain ⟨a4, v6, v7, rfl, fa4, d5, d6⟩ := tup2_of d4
      obtain rfl := int_of d5
      obtain ⟨a5, us5, rfl, fa5, fr4⟩ := lst_of d6
      refine ⟨_, _, _, _, rfl, rfl, .inl (.inl (G3.sub _ _ fa4)), atI_nat (j := 0) rfl, ?_⟩
      refine ⟨_, _, rfl, rfl, ?_⟩
      refine ⟨_, rfl, ?_⟩
      refine ifD (fun hc => ?_) (fun hc => ?_)
      · replace hm := itep hm hc
        refine ⟨_, rfl, ?_⟩
        obtain ⟨c1, hm⟩ := guardp hm
        have G4 := o2.mutG (o := .lst (us3 ++ [(.ref a2)])) G3
        have o3 := o2.mut (ws := us3 ++ [(.ref a2)])
        have fr5 : Rs (α := (Int × (List (List Int)))) (F1) (us3 ++ [(.ref a2)]) (x2 ++ [t1]) := Rs_snoc fr2 (mk_tup2 (s1 _ _ fa2) (.int _) (mk_lst (s1 _ _ fa3) (Rs_mono s1 fr3)))
        rw [hnx1] at hm
        exact ⟨_, o2.at_, szl (by rw [Rs_len fr2]; exact c1), ⟨F1, (x2 ++ [t1]), _, hm, s1, G4, o3, fr5⟩⟩
      · replace hm := iten hm (bF hc)
        rw [hnx1] at hm
        exact ⟨F1, x2, _, hm, s1, G3, o2, fr2⟩
    · skip
      obtain ⟨F1, x2, us3, hm, s2, G5, o4, fr6⟩ := hW
      have hm : (one_rule_k2 rules) x2 = some r := forK_n hm
      rw [one_rule_k2] at hm
      with_reducible refine x_lst ?_
      refine ⟨szle (show 0 ≤ 16777216 from by decide), fun p2 np2 => ?_⟩
      have fr7 : Rs (α := (Int × (List (List Int)))) (F1) [] ([] : (List (Int × (List (List Int))))) := Rs_nil
      have fr8 : NRs (α := (Int × (List (List Int)))) H (F1) [] ([] : (List (Int × (List (List Int))))) := NRs_nil
      have g3 := Gr.newO (o := .lst []) G5.sub np2
      have o5 := Ow.new (us := []) G5 np2
      have ne1 := o4.ne_new np2
      have G6 := G5.step g3
      have o6 := o4.step g3
      refine ⟨_, x2, ([] : (List (Int × (List (List Int))))), Sub.refl _, (mk_lst o6.at_ (Rs_mono G6.sub fr6)), (mk_lst o5.at_ (Rs_mono G6.sub fr7)), ?_⟩
      refine ⟨_, rfl, ?_⟩
      refine ifD (fun hc => ?_) (fun hc => ?_)
      · replace hm := itep hm hc
        obtain rfl : Except.error _ = r := Option.some.inj hm
        exact qe _ rfl _ _ G6
      · replace hm := iten hm (bF hc)
        with_reducible refine x_next ?_
        with_reducible refine x_seq ?_
        with_reducible refine x_asg ?_
        refine fun p3 np3 => ?_
        have g4 := Gr.newO (o := .dT []) G6.sub np3
        have o7 := OwO.new (o := .dT []) G6 np3
        have G7 := G6.step g4
        with_reducible refine x_gnE (σ' := ([some (.ref a1), some (.ref p3), none, none, none, none, none, none] : L2.St)) (by with_unfolding_all rfl) ?_
        with_reducible refine x_seq ?_
        with_reducible refine x_for ?_
        with_reducible refine x_iter ?_
        refine ⟨_, rfl, ?_⟩
        refine ⟨_, rfl, ⟨_, .inl (.inl (((g1.ex.trans s2).trans G7.sub) _ _ fa1))⟩, ?_⟩
        refine for_lst (α := (Int × (List (List Int)))) (fun (ts3 : List (Int × (List (List Int)))) σ H3 => ∃ (F2 : Hp) (x4 : (List (TI × (List Int)))) (p4 : Addr) (us6 : List ((List Key) × V)) (y2 : Option V) (y3 : Option V) (y4 : Option V), forK (one_rule_b3) ts3 x4 (one_rule_e4 rules) = some r ∧ Sub (F1) F2 ∧ Gr NA F0 H F2 H3 ∧ OwO H F2 H3 p4 (.dT us6) ∧ RsK keyT F2 us6 x4 ∧ σ = [some (.ref a1), some (.ref p4), y3, y2, y4, none, none, none]) (Rs_mono (g1.ex.trans s2) fr1) ⟨F1, ([] : (List (TI × (List Int)))), _, _, _, _, _, hm, (Sub.refl _), G7, o7, (RsK_nil (key := keyT)), rfl⟩ (fun _ _ _ h => ?_) (fun t2 ts4 v8 σ H1 hv2 hW => ?_) (fun σ H1 hW => ?_)
        · obtain ⟨F2, x4, p4, us6, y2, y3, y4, _, s9z, G9z, _⟩ := h
          exact G9z.sub _ _ (s9z _ _ ((g1.ex.trans s2) _ _ fa1))
        · skip
          obtain ⟨F2, x4, p4, us6, y2, y3, y4, hm, s3, G8, o8, fr9, rfl⟩ := hW
          obtain ⟨next2, hnx2⟩ : ∃ nx, nx = fun s => forK (one_rule_b3) ts4 s (one_rule_e4 rules) := ⟨_, rfl⟩
          have hm : (one_rule_b3) x4 t2 next2 = some r := by rw [hnx2]; exact forK_c hm
          rw [one_rule_b3] at hm
          obtain ⟨a6, v9, v10, rfl, fa6, d7, d8⟩ := tup2_of hv2
          obtain rfl := int_of d7
          obtain ⟨a7, us7, rfl, fa7, fr10⟩ := lst_of d8
          refine ⟨_, _, rfl, .inl (.inl ((s3.trans G8.sub) _ _ fa6)), rfl, ?_⟩
          refine ⟨_, _, rfl, ?_⟩
          with_reducible refine x_gnE (σ' := ([some (.ref a1), some (.ref p4), some (.int (t2).1), y2, y4, none, none, none] : L2.St)) (by with_unfolding_all rfl) ?_
          refine ⟨_, _, rfl, ?_⟩
          with_reducible refine x_gnE (σ' := ([some (.ref a1), some (.ref p4), some (.int (t2).1), some (.ref a7), y4, none, none, none] : L2.St)) (by with_unfolding_all rfl) ?_
          refine ⟨rfl, ?_⟩
          with_reducible refine x_for ?_
          with_reducible refine x_iter ?_
          refine ⟨_, rfl, ?_⟩
          refine ⟨_, rfl, ⟨_, .inl (.inl ((s3.trans G8.sub) _ _ fa7))⟩, ?_⟩
          refine for_lst (α := (List Int)) (fun (ts5 : List (List Int)) σ H4 => ∃ (F3 : Hp) (x5 : (List (TI × (List Int)))) (p5 : Addr) (us8 : List ((List Key) × V)) (y5 : Option V), forK (one_rule_b5) ts5 x5 (one_rule_e6 next2) = some r ∧ Sub (F2) F3 ∧ Gr NA F0 H F3 H4 ∧ OwO H F3 H4 p5 (.dT us8) ∧ RsK keyT F3 us8 x5 ∧ σ = [some (.ref a1), some (.ref p5), some (.int (t2).1), some (.ref a7), y5, none, none, none]) (Rs_mono s3 fr10) ⟨F2, x4, _, _, _, hm, (Sub.refl _), G8, o8, fr9, rfl⟩ (fun _ _ _ h => ?_) (fun t3 ts6 v11 σ H1 hv3 hW => ?_) (fun σ H1 hW => ?_)
          · obtain ⟨F3, x5, p5, us8, y5, _, s9z, G9z, _⟩ := h
            exact G9z.sub _ _ (s9z _ _ (s3 _ _ fa7))
          · skip
            obtain ⟨F3, x5, p5, us8, y5, hm, s4, G9, o9, fr11, rfl⟩ := hW
            obtain ⟨next3, hnx3⟩ : ∃ nx, nx = fun s => forK (one_rule_b5) ts6 s (one_rule_e6 next2) := ⟨_, rfl⟩
            have hm : (one_rule_b5) x5 t3 next3 = some r := by rw [hnx3]; exact forK_c hm
            rw [one_rule_b5] at hm
            obtain ⟨a8, us9, rfl, fa8, fr12⟩ := lst_of hv3
            with_reducible refine x_gnE (σ' := ([some (.ref a1), some (.ref p5), some (.int (t2).1), some (.ref a7), some (.ref a8), none, none, none] : L2.St)) (by with_unfolding_all rfl) ?_
            with_reducible refine x_dput ?_
            refine ⟨_, rfl, ?_⟩
            refine ⟨_, rfl, ?_⟩
            with_reducible refine x_cb ?_
            with_reducible refine x_cons ?_
            refine ⟨_, rfl, ?_⟩
            have fr13 := (Rs_mono s4 fr12)
            refine ⟨_, _, rfl, .inl ⟨.inl (.inl ((s4.trans G9.sub) _ _ fa8)), fun p6 np4 => ?_⟩⟩
            obtain ⟨F4, g5, fa9⟩ := Gr.newE (o := .tup us9) G9.sub np4
            have G10 := G9.step g5
            have o10 := o9.step g5
            have d9 := mk_tupi (xs := t3) fa9 (Rs_mono g5.ex fr13)
            have ka1 := tupi_at (xs := t3) fa9 (Rs_mono g5.ex fr13)
            obtain ⟨c2, hm⟩ := guardp hm
            refine ⟨_, _, rfl, DPut.t (k := keyT (⟨t3⟩ : TI)) o10.at_ (G10.sub _ _ ka1) (szl (by rw [RsK_len (RsK_mono g5.ex fr11)]; exact c2)), ?_⟩
            have G11 := o10.mutG (o' := .dT (putK us8 (keyT (⟨t3⟩ : TI)) (.ref a8))) G10
            have o11 := o10.mut (o' := .dT (putK us8 (keyT (⟨t3⟩ : TI)) (.ref a8)))
            have fr14 := RsK_put keyT_inj (k := (⟨t3⟩ : TI)) (v := (.ref a8)) (y := t3) (mk_lst ((s4.trans g5.ex) _ _ fa8) (Rs_mono (s4.trans g5.ex) fr12)) (RsK_mono g5.ex fr11)
            rw [hnx3] at hm
            exact ⟨F4, (putT x5 (⟨t3⟩ : TI) t3), _, _, _, hm, (s4.trans g5.ex), G11, o11, fr14, rfl⟩
          · skip
            obtain ⟨F3, x5, p5, us8, y5, hm, s5, G12, o12, fr15, rfl⟩ := hW
            have hm : (one_rule_e6 next2) x5 = some r := forK_n hm
            rw [one_rule_e6] at hm
            rw [hnx2] at hm
            exact ⟨F3, x5, _, _, _, _, _, hm, (s3.trans s5), G12, o12, fr15, rfl⟩
        · skip
          obtain ⟨F2, x4, p4, us6, y2, y3, y4, hm, s6, G13, o13, fr16, rfl⟩ := hW
          have hm : (one_rule_e4 rules) x4 = some r := forK_n hm
          rw [one_rule_e4] at hm
          with_reducible refine x_seq ?_
          with_reducible refine x_asg ?_
          with_reducible refine x_lst ?_
          refine ⟨szle (show 0 ≤ 16777216 from by decide), fun p7 np5 => ?_⟩
          have fr17 : Rs (α := (List Int)) (F2) [] ([] : (List (List Int))) := Rs_nil
          have fr18 : NRs (α := (List Int)) H (F2) [] ([] : (List (List Int))) := NRs_nil
          have g6 := Gr.newO (o := .lst []) G13.sub np5
          have o14 := Ow.new (us := []) G13 np5
          have ne2 := o13.ne_new np5
          have G14 := G13.step g6
          have o15 := o13.step g6
          with_reducible refine x_gnE (σ' := ([some (.ref a1), some (.ref p4), y3, y2, y4, some (.ref p7), none, none] : L2.St)) (by with_unfolding_all rfl) ?_
          with_reducible refine x_seq ?_
          with_reducible refine x_lock ?_
          refine ⟨_, _, o15.at_, trivial, fun od1 => ?_⟩
          have G15 := o15.mutG (o' := .frz od1 (.dT us6)) G14
          have o16 := o15.mut (o' := .frz od1 (.dT us6))
          have o17 := o14.otherO (o := .frz od1 (.dT us6)) (Ne.symm (Ne.symm ne2))
          with_reducible refine x_for ?_
          with_reducible refine x_valsT ?_
          refine ⟨_, rfl, ?_⟩
          refine ⟨_, _, _, rfl, o16.at_, ?_⟩
          refine for_vals (β := (List Int)) (fun (ts7 : List (List Int)) σ H5 => ∃ (F5 : Hp) (x6 : (List (List Int))) (p8 : Addr) (us10 : List V) (y6 : Option V), forK (one_rule_b7 x4) ts7 x6 (one_rule_e8 rules) = some r ∧ Sub (F2) F5 ∧ Gr NA F0 H F5 H5 ∧ Ow H F5 H5 p8 us10 ∧ Rs F5 us10 x6 ∧ NRs H F5 us10 x6 ∧ OwO H F5 H5 p4 (.frz od1 (.dT us6)) ∧ p8 ≠ p4 ∧ σ = [some (.ref a1), some (.ref p4), y3, y2, y6, some (.ref p8), none, none]) fr16 ⟨F2, ([] : (List (List Int))), _, _, _, hm, (Sub.refl _), G15, o17, fr17, fr18, o16, (Ne.symm ne2), rfl⟩ (fun _ _ _ h => ?_) (fun t4 ts8 v12 σ H1 hv4 hW => ?_) (fun σ H1 hW => ?_)
          · obtain ⟨F5, x6, p8, us10, y6, _, s9z, G9z, _, _, _, q9, _⟩ := h
            exact q9.at_
          · skip
            obtain ⟨F5, x6, p8, us10, y6, hm, s7, G16, o18, fr19, fr20, o19, ne3, rfl⟩ := hW
            obtain ⟨next4, hnx4⟩ : ∃ nx, nx = fun s => forK (one_rule_b7 x4) ts8 s (one_rule_e8 rules) := ⟨_, rfl⟩
            have hm : (one_rule_b7 x4) x6 t4 next4 = some r := by rw [hnx4]; exact forK_c hm
            rw [one_rule_b7] at hm
            obtain ⟨a9, us11, rfl, fa10, fr21⟩ := lst_of hv4
            with_reducible refine x_gnE (σ' := ([some (.ref a1), some (.ref p4), y3, y2, some (.ref a9), some (.ref p8), none, none] : L2.St)) (by with_unfolding_all rfl) ?_
            with_reducible refine x_if ?_
            with_reducible refine x_test ?_
            with_reducible refine x_op ?_
            with_reducible refine x_lc ?_
            with_reducible refine x_valsT ?_
            refine ⟨_, rfl, ?_⟩
            refine ⟨_, _, _, rfl, o19.at_, fun p9 np6 => ?_⟩
            have g7 := Gr.newO (o := .lst []) G16.sub np6
            have o20 := Ow.new (us := []) G16 np6
            have ne4 := o18.ne_new np6
            have ne5 := o19.ne_new np6
            have G17 := G16.step g7
            have o21 := o18.step g7
            have o22 := o19.step g7
            refine lc_vals (β := (List Int)) (fun (ts9 : List (List Int)) H6 => ∃ (F6 : Hp) (x8 : List (List Int)) (us13 : List V), forK (one_rule_c9 t4) ts9 x8 (one_rule_k10 x6 next4 t4) = some r ∧ Sub (F5) F6 ∧ Gr NA F0 H F6 H6 ∧ Ow H F6 H6 p9 us13 ∧ Rs F6 us13 x8 ∧ Ow H F6 H6 p8 us10 ∧ OwO H F6 H6 p4 (.frz od1 (.dT us6))) (RsK_mono s7 fr16) ⟨F5, ([] : List (List Int)), _, hm, (Sub.refl _), G17, o20, Rs_nil, o21, o22⟩ (fun _ _ h => ?_) (fun t5 ts10 v13 H1 hv5 hW => ?_) (fun H1 hW => ?_)
            · obtain ⟨F9z, _, _, _, s9z, G9z, _, _, _, q9⟩ := h
              exact q9.at_
            · skip
              obtain ⟨F6, x8, us13, hm, s8, G18, o23, fr22, o24, o25⟩ := hW
              obtain ⟨next5, hnx5⟩ : ∃ nx, nx = fun s => forK (one_rule_c9 t4) ts10 s (one_rule_k10 x6 next4 t4) := ⟨_, rfl⟩
              have hm : (one_rule_c9 t4) x8 t5 next5 = some r := by rw [hnx5]; exact forK_c hm
              rw [one_rule_c9] at hm
              obtain ⟨a10, us14, rfl, fa11, fr23⟩ := lst_of hv5
              with_reducible refine x_gnE (σ' := ([some (.ref a1), some (.ref p4), y3, y2, some (.ref a9), some (.ref p8), none, some (.ref a10)] : L2.St)) (by with_unfolding_all rfl) ?_
              refine ⟨rfl, ?_⟩
              with_reducible refine x_and ?_
              with_reducible refine x_test ?_
              refine useEv (.bl (!(eqT t5 t4))) (by exact (ev_neqVar (α := (List Int)) (Evl.ev_var rfl) (Evl.ev_var rfl) (RD.mono G18.sub (mk_lst (s8 _ _ fa11) (Rs_mono s8 fr23))) (RD.mono G18.sub (mk_lst ((s7.trans s8) _ _ fa10) (Rs_mono (s7.trans s8) fr21))))) (fun H7 e1 => ?_)
              have g8 := gr_ex G18.sub e1
              have G19 := G18.step g8
              have o26 := o23.step g8
              have o27 := o24.step g8
              have o28 := o25.step g8
              refine ⟨_, rfl, ?_⟩
              refine ifD (fun hc => ?_) (fun hc => ?_)
              · replace hm := itep hm hc
                with_reducible refine x_B ?_
                with_reducible refine x_call ?_
                with_reducible refine x_cons ?_
                refine ⟨_, rfl, ?_⟩
                with_reducible refine x_cons ?_
                refine ⟨_, rfl, ?_⟩
                obtain ⟨r2, hr2, hm⟩ := bindp hm
                refine ⟨_, _, _, t5, t4, r2, rfl, G19.sub, (mk_lst (s8 _ _ fa11) (Rs_mono s8 fr23)), (mk_lst ((s7.trans s8) _ _ fa10) (Rs_mono (s7.trans s8) fr21)), hr2, fun N2 H8 v14 g9 d10  => ?_⟩
                have G20 := G19.step g9
                have o29 := o26.step g9
                have o30 := o27.step g9
                have o31 := o28.step g9
                obtain rfl := bl_of d10
                refine ⟨_, rfl, ?_⟩
                refine ifD (fun hc => ?_) (fun hc => ?_)
                · replace hm := itep hm hc
                  refine ⟨_, rfl, ?_⟩
                  obtain ⟨c3, hm⟩ := guardp hm
                  have G21 := o29.mutG (o := .lst (us13 ++ [(.ref a10)])) G20
                  have o32 := o29.mut (ws := us13 ++ [(.ref a10)])
                  have fr24 : Rs (α := (List Int)) (N2) (us13 ++ [(.ref a10)]) (x8 ++ [t5]) := Rs_snoc (Rs_mono g9.ex fr22) (mk_lst ((s8.trans g9.ex) _ _ fa11) (Rs_mono (s8.trans g9.ex) fr23))
                  have o33 := o30.other (ws := us13 ++ [(.ref a10)]) (Ne.symm ne4)
                  have o34 := o31.other (ws := us13 ++ [(.ref a10)]) (Ne.symm ne5)
                  rw [hnx5] at hm
                  exact ⟨_, o29.at_, szl (by rw [Rs_len (Rs_mono g9.ex fr22)]; exact c3), ⟨N2, (x8 ++ [t5]), _, hm, (s8.trans g9.ex), G21, o32, fr24, o33, o34⟩⟩
                · replace hm := iten hm (bF hc)
                  rw [hnx5] at hm
                  exact ⟨N2, x8, _, hm, (s8.trans g9.ex), G20, o29, (Rs_mono g9.ex fr22), o30, o31⟩
              · replace hm := iten hm (bF hc)
                refine iteF ?_
                rw [hnx5] at hm
                exact ⟨F6, x8, _, hm, s8, G19, o26, fr22, o27, o28⟩
            · skip
              obtain ⟨F6, x8, us13, hm, s9, G22, o35, fr25, o36, o37⟩ := hW
              have hm : (one_rule_k10 x6 next4 t4) x8 = some r := forK_n hm
              rw [one_rule_k10] at hm
              with_reducible refine x_lst ?_
              refine ⟨szle (show 0 ≤ 16777216 from by decide), fun p10 np7 => ?_⟩
              have fr26 : Rs (α := (List Int)) (F6) [] ([] : (List (List Int))) := Rs_nil
              have fr27 : NRs (α := (List Int)) H (F6) [] ([] : (List (List Int))) := NRs_nil
              have g10 := Gr.newO (o := .lst []) G22.sub np7
              have o38 := Ow.new (us := []) G22 np7
              have ne6 := o35.ne_new np7
              have ne7 := o36.ne_new np7
              have ne8 := o37.ne_new np7
              have G23 := G22.step g10
              have o39 := o35.step g10
              have o40 := o36.step g10
              have o41 := o37.step g10
              refine ⟨_, x8, ([] : (List (List Int))), Sub.refl _, (mk_lst o39.at_ (Rs_mono G23.sub fr25)), (mk_lst o38.at_ (Rs_mono G23.sub fr26)), ?_⟩
              refine ⟨_, rfl, ?_⟩
              refine ifD (fun hc => ?_) (fun hc => ?_)
              · replace hm := itep hm hc
                with_reducible refine x_drop ?_
                with_reducible refine x_bm ?_
                refine ⟨_, rfl, ?_⟩
                refine ⟨.inl ⟨rfl, _, .inl (.inl o40.at_)⟩, ?_⟩
                with_reducible refine x_cons ?_
                with_reducible refine x_cb ?_
                with_reducible refine x_cons ?_
                refine ⟨_, rfl, ?_⟩
                refine ⟨_, _, rfl, .inl (.inl (.inl (((s7.trans s9).trans G23.sub) _ _ fa10))), fun p11 np8 => ?_⟩
                have g11 := Gr.newO (o := .lst us11) G23.sub np8
                have o42 := Ow.new (us := us11) G23 np8
                have ne9 := o40.ne_new np8
                have ne10 := o41.ne_new np8
                have G24 := G23.step g11
                have o43 := o40.step g11
                have o44 := o41.step g11
                obtain ⟨F7, G25, ex1, fa12, nf1⟩ := o42.frzE G24
                have o45 := o43.frzN (Ne.symm (Ne.symm ne9)) nf1
                have o46 := o44.frzN (Ne.symm (Ne.symm ne10)) nf1
                have fr28 := Rs_mono ex1 (Rs_mono (s7.trans s9) fr21)
                have n01 := o42.n0
                have fr29 := NRs_mono (H0 := H) ex1 (NRs_flatI (Rs_mono (s7.trans s9) fr21))
                obtain ⟨c4, hm⟩ := guardp hm
                refine ⟨_, _, _, rfl, rfl, o45.at_, szl (by rw [Rs_len (Rs_mono ex1 (Rs_mono s9 fr19))]; exact c4), ?_⟩
                have fr30 := NRs_snoc (α := (List Int)) (x := t4) (NRs_mono ex1 (NRs_mono s9 fr20)) (mkN_lst n01 ((Sub.refl _) _ _ fa12) (NRs_mono (Sub.refl _) fr29))
                have G26 := o45.mutG (o := .lst (us10 ++ [(.ref p11)])) G25
                have o47 := o45.mut (ws := us10 ++ [(.ref p11)])
                have o48 := o46.other (ws := us10 ++ [(.ref p11)]) ne3
                have fr31 : Rs (α := (List Int)) (F7) (us10 ++ [(.ref p11)]) (x6 ++ [t4]) := Rs_snoc (Rs_mono ex1 (Rs_mono s9 fr19)) (mk_lst ((Sub.refl _) _ _ fa12) (Rs_mono (Sub.refl _) fr28))
                rw [hnx4] at hm
                exact ⟨F7, (x6 ++ [t4]), _, _, _, hm, ((s7.trans s9).trans ex1), G26, o47, fr31, fr30, o48, ne3, rfl⟩
              · replace hm := iten hm (bF hc)
                with_reducible refine x_next ?_
                rw [hnx4] at hm
                exact ⟨F6, x6, _, _, _, hm, (s7.trans s9), G23, o40, (Rs_mono s9 fr19), (NRs_mono s9 fr20), o41, ne3, rfl⟩
          · skip
            obtain ⟨F5, x6, p8, us10, y6, hm, s10, G27, o49, fr32, fr33, o50, ne11, rfl⟩ := hW
            have hm : (one_rule_e8 rules) x6 = some r := forK_n hm
            rw [one_rule_e8] at hm
            refine ⟨o50.at_, ?_⟩
            have G28 := o50.mutG (o' := .dT us6) G27
            have o51 := o50.mut (o' := .dT us6)
            have o52 := o49.otherO (o := .dT us6) (Ne.symm ne11)
            with_reducible refine x_seq ?_
            with_reducible refine x_if ?_
            with_reducible refine x_B ?_
            refine useEv (.bl (decide ((4 : Int) < (x6.length : Int)))) (by exact (ev_cmp (ev_lenT (Evl.ev_var rfl) o52.at_ fr32) Evl.ev_c)) (fun H9 e2 => ?_)
            have g12 := gr_ex G28.sub e2
            have G29 := G28.step g12
            have o53 := o52.step g12
            have o54 := o51.step g12
            refine ⟨_, rfl, ?_⟩
            refine ifD (fun hc => ?_) (fun hc => ?_)
            · replace hm := itep hm hc
              obtain rfl : Except.error _ = r := Option.some.inj hm
              exact qe _ rfl _ _ G29
            · replace hm := iten hm (bF hc)
              with_reducible refine x_next ?_
              with_reducible refine x_ret ?_
              with_reducible refine x_tup ?_
              with_reducible refine x_cons ?_
              with_reducible refine x_op ?_
              with_reducible refine x_op ?_
              refine ⟨_, rfl, ?_⟩
              with_reducible refine x_c ?_
              obtain ⟨x9, hx2, hm⟩ := bindp hm
              obtain ⟨v15, hu2, d11⟩ := Rs_at (Rs_mono (((g1.ex.trans s2).trans s6).trans s10) fr1) hx2
              refine ⟨_, _, _, _, rfl, rfl, .inl (.inl (((((g1.ex.trans s2).trans s6).trans s10).trans G29.sub) _ _ fa1)), hu2, ?_⟩
              obtain ⟨a11, v16, v17, rfl, fa13, d12, d13⟩ := tup2_of d11
              obtain rfl := int_of d12
              obtain ⟨a12, us15, rfl, fa14, fr34⟩ := lst_of d13
              refine ⟨_, _, _, _, rfl, rfl, .inl (.inl (G29.sub _ _ fa13)), atI_nat (j := 0) rfl, ?_⟩
              with_reducible refine x_cons ?_
              with_reducible refine x_cb ?_
              with_reducible refine x_cons ?_
              refine ⟨_, rfl, ?_⟩
              obtain ⟨c5, hm⟩ := guardp hm
              refine ⟨_, _, _, x6, rfl, o53.at_, G29.sub, fr32, c5, fun p12 us16 np9 fr35 hm1 => ?_⟩
              have g13 := Gr.newO (o := .lst us16) G29.sub np9
              have o55 := Ow.new (us := us16) G29 np9
              have ne12 := o53.ne_new np9
              have ne13 := o54.ne_new np9
              have G30 := G29.step g13
              have o56 := o53.step g13
              have o57 := o54.step g13
              obtain ⟨F8, G31, ex2, fa15, nf2⟩ := o55.frzE G30
              have o58 := o56.frzN (Ne.symm (Ne.symm ne12)) nf2
              have o59 := o57.frzN (Ne.symm (Ne.symm ne13)) nf2
              have fr36 := Rs_mono ex2 fr35
              have n02 := o55.n0
              have fr37 := NRs_mono (H0 := H) ex2 (NRs_sub fr33 hm1 fr35)
              refine ⟨szle (show 2 ≤ 16777216 from by decide), fun p13 np10 => ?_⟩
              obtain ⟨F9, g14, fa16⟩ := Gr.newE (o := .tup [(.int (x9).1), (.ref p12)]) G31.sub np10
              have G32 := G31.step g14
              have o60 := o58.step g14
              have o61 := o59.step g14
              obtain rfl : Except.ok _ = r := Option.some.inj hm
              exact q _ rfl _ _ _ G32 (mkN_tup2 ((Sub.refl _) _ _ fa16) (.int _) (mkN_lst n02 (g14.ex _ _ fa15) (NRs_mono g14.ex fr37)))
  · subst e9; rw [exB_err] at hm
    have G33 := G0.step g1
    obtain rfl : Except.error _ = r := Option.some.inj hm
    exact qe _ rfl _ _ G33

abbrev N__law_asked : List Str := ["rules", "due", "caught", "found", "e"]
theorem sc__law_asked : FnScope N__law_asked ["rules", "due"] (defScope s__law_asked) := ⟨rfl, rfl, rfl, by decide +kernel, rfl, by decide +kernel, by decide +kernel⟩
def sp__law_asked : Sp := fun vs H Q _ => ∃ (F : Hp) (v_rules : V) (v_due : V) (rules : (List (Int × (List (List Int))))) (due : PyData) (r : PyData), vs = [v_rules, v_due] ∧ Sub F H ∧ R F v_rules rules ∧ R F v_due due ∧ _law_asked rules due = some r ∧ ∀ N H2 v, Gr NA F H N H2 → NR H N v r → Q v H2
theorem ok__law_asked {P : Program} {w : World} {K : PySem.W.Frag} {mg : Str → Option Value} {base : Heap} (T : Txt K mg) : FnOk P w K mg base CX0 8 T.f__law_asked.f T.f__law_asked.fd ["rules", "due"] sp__law_asked := by
  have nd := (sc__law_asked).nd
  refine T.f__law_asked.F.ok sc__law_asked (fun vs H Q E h => ?_) (fun cdv A0 outer s H vs Q E hr h => ?_)
  · obtain ⟨_, _, _, _, _, _, rfl, _⟩ := h
    rfl
  obtain ⟨F0, v_rules, v_due, rules, due, r, rfl, s0, f_rules, f_due, hm, q⟩ := h
  have G0 : Gr NA F0 H F0 H := Gr.refl s0
  obtain ⟨a1, us1, rfl, fa1, fr1⟩ := lst_of f_rules
  refine ⟨_, (pss_cons (ps_set (i := 2) nd rfl (by first | exact Or.inl rfl | exact Or.inr rfl) pe_non) (pss_cons (ps_set (i := 3) nd rfl (by first | exact Or.inl rfl | exact Or.inr rfl) pe_non) (pss_cons (ps_try_keep (i := 4) (L := .ref ErT.lack) rfl rfl nd rfl rfl ⟨by rfl, by decide, Or.inl T.er.lg⟩ (fun W pn xe tk _ => (pss_one (ps_set (i := 3) nd rfl (by first | exact Or.inl rfl | exact Or.inr rfl) (pe_callS (ok_one_rule T) (hr.mono (by decide)) (by rfl) T.f_one_rule.g T.f_one_rule.F.kp T.f_one_rule.b (fun σ => passAt tk σ) (pa_cons (pv 0) pa_nil))))) (fun a9 pn => (pss_one (ps_set (i := 2) nd rfl (by first | exact Or.inl rfl | exact Or.inr rfl) (pv 4))))) (pss_cons (ps_if (pt_cmp (pc_isN (pv 2))) (pss_one (ps_ret (pe_ix (r := rIxL K) ix_list (pe_lst (pa_cons (pv 3) (pa_cons pe_str pa_nil))) (pe_callTy call_int1 (by rfl) T.z_int (by decide +kernel) (pa_cons (pe_callB (r := rIsi K) call_isi (by rfl) T.z_isinstance (by decide +kernel) (pa_cons (pv 3) (pa_cons (pe_bltn (v := .ty "str") (by rfl) T.z_str (by decide +kernel) rfl) pa_nil))) pa_nil)) (fun _ _ => rfl)))) pss_nil) (pss_one (ps_ret (pe_ix (r := rIxL K) ix_list (pe_lst (pa_cons pe_str (pa_cons (pv 1) pa_nil))) (pe_callTy call_int1 (by rfl) T.z_int (by decide +kernel) (pa_cons (pe_and (pe_callB (r := rIsi K) call_isi (by rfl) T.z_isinstance (by decide +kernel) (pa_cons (pv 1) (pa_cons (pe_bltn (v := .ty "str") (by rfl) T.z_str (by decide +kernel) rfl) pa_nil))) (pe_one (pe_call (ok__law_kind T) (hr.mono (by decide)) (by rfl) T.f__law_kind.g T.f__law_kind.F.kp T.f__law_kind.b .nil pass0 (pa_cons (pv 2) (pa_cons (pv 1) pa_nil))))) pa_nil)) (fun _ _ => rfl)))))))), ?_⟩
  refine x_start (σ' := ([some (.ref a1), some v_due, none, none, none] : L2.St)) (by with_unfolding_all rfl) ?_
  rw [_law_asked] at hm
  with_reducible refine x_seq ?_
  with_reducible refine x_asg ?_
  with_reducible refine x_c ?_
  with_reducible refine x_gnE (σ' := ([some (.ref a1), some v_due, some .non, none, none] : L2.St)) (by with_unfolding_all rfl) ?_
  with_reducible refine x_seq ?_
  with_reducible refine x_asg ?_
  with_reducible refine x_c ?_
  with_reducible refine x_gnE (σ' := ([some (.ref a1), some v_due, some .non, some .non, none] : L2.St)) (by with_unfolding_all rfl) ?_
  with_reducible refine x_seq ?_
  with_reducible refine x_asg ?_
  with_reducible refine x_callS ?_
  with_reducible refine x_cons ?_
  refine ⟨_, rfl, ?_⟩
  obtain ⟨r1, hr1, hm⟩ := bindp hm
  refine ⟨_, _, rules, r1, rfl, G0.sub, (mk_lst ((Sub.refl _) _ _ fa1) (Rs_mono (Sub.refl _) fr1)), hr1, fun y1 e9 N1 H1 v1 g1 d1 => ?_, fun er1 e9 N1 H1 g1 => ?_⟩
  · subst e9; rw [exB_ok] at hm
    have G1 := G0.step g1
    have d2 := RN.up (H0 := H) (fun a9 e9 => G0.fresh e9) d1
    obtain ⟨a2, v2, v3, rfl, fa2, d3, d4⟩ := NR_tup2_of d2
    obtain rfl := int_of (NR_r d3)
    obtain ⟨a3, us2, rfl, fa3, fr3, n01⟩ := NR_lst_of d4
    with_reducible refine x_gnE (σ' := ([some (.ref a1), some v_due, some .non, some (.ref a2), none] : L2.St)) (by with_unfolding_all rfl) ?_
    with_reducible refine x_seq ?_
    with_reducible refine x_if ?_
    with_reducible refine x_B ?_
    with_reducible refine x_isN' ?_
    refine ⟨_, rfl, ?_⟩
    refine ⟨_, rfl, ?_⟩
    refine ⟨_, rfl, ?_⟩
    refine ifD (fun hc => ?_) (fun hc => ?_)
    · replace hm := itep hm hc
      with_reducible refine x_ret ?_
      with_reducible refine x_op ?_
      with_reducible refine x_lst ?_
      with_reducible refine x_cons ?_
      refine ⟨_, rfl, ?_⟩
      have d5 : R (α := PyData) (N1) (.ref a2) (PyData.tuple [(PyData.int (y1).1), (PyData.list ((y1).2.map fun z => (PyData.list (z.map fun z => (PyData.int z)))))]) := (.tup ((Sub.refl _) _ _ fa2) (.cons (.int _) (.cons (mk_lst ((Sub.refl _) _ _ fa3) (Rs_mono (Sub.refl _) (NRs_rs fr3))) .nil)))
      have d6 : NR (α := PyData) H (N1) (.ref a2) (PyData.tuple [(PyData.int (y1).1), (PyData.list ((y1).2.map fun z => (PyData.list (z.map fun z => (PyData.int z)))))]) := by have h9 := (mkN_tup2 ((Sub.refl _) _ _ fa2) (.int _) (mkN_lst n01 ((Sub.refl _) _ _ fa3) (NRs_mono (Sub.refl _) fr3))); exact h9
      with_reducible refine x_cons ?_
      with_reducible refine x_c ?_
      have d7 : R (α := PyData) (N1) (.str ("told" : Str)) (PyData.str ("told" : Str)) := (.str _)
      have d8 : NR (α := PyData) H (N1) (.str ("told" : Str)) (PyData.str ("told" : Str)) := by have h9 := (show RN H (N1) (.str ("told" : Str)) (PyData.str ("told" : Str)) from (.str _)); exact h9
      refine ⟨szle (show 2 ≤ 16777216 from by decide), fun p1 np1 => ?_⟩
      have fr4 : Rs (α := PyData) (N1) [(.ref a2), (.str ("told" : Str))] ([(PyData.tuple [(PyData.int (y1).1), (PyData.list ((y1).2.map fun z => (PyData.list (z.map fun z => (PyData.int z)))))]), (PyData.str ("told" : Str))] : (List PyData)) := (Rs_cons (RD.mono (Sub.refl _) d5) (Rs_cons (RD.mono (Sub.refl _) d7) Rs_nil))
      have fr5 : NRs (α := PyData) H (N1) [(.ref a2), (.str ("told" : Str))] ([(PyData.tuple [(PyData.int (y1).1), (PyData.list ((y1).2.map fun z => (PyData.list (z.map fun z => (PyData.int z)))))]), (PyData.str ("told" : Str))] : (List PyData)) := (NRs_cons (RN.mono (Sub.refl _) d6) (NRs_cons (RN.mono (Sub.refl _) d8) NRs_nil))
      have g2 := Gr.newO (o := .lst [(.ref a2), (.str ("told" : Str))]) G1.sub np1
      have o1 := Ow.new (us := [(.ref a2), (.str ("told" : Str))]) G1 np1
      have G2 := G1.step g2
      with_reducible refine x_cb ?_
      with_reducible refine x_cons ?_
      with_reducible refine x_cb ?_
      with_reducible refine x_cons ?_
      refine ⟨_, rfl, ?_⟩
      refine ⟨_, _, _, _, false, rfl, ClsV.ty _, TyX.base (TyOf.tup (G2.sub _ _ fa2)), kit_ty (by decide +kernel), ?_⟩
      refine .inr ⟨_, rfl, ?_⟩
      obtain ⟨x1, hx1, hm⟩ := bindp hm
      obtain ⟨v4, hu1, d9⟩ := NRs_at fr5 hx1
      refine ⟨_, _, _, _, rfl, rfl, .inl (.inl o1.at_), hu1, ?_⟩
      obtain rfl : _ = r := Option.some.inj hm
      exact q _ _ _ G2 (RN.mono (Sub.refl _) d9)
    · replace hm := iten hm (bF hc)
      with_reducible refine x_next ?_
      with_reducible refine x_ret ?_
      with_reducible refine x_op ?_
      with_reducible refine x_lst ?_
      with_reducible refine x_cons ?_
      with_reducible refine x_c ?_
      have d10 : R (α := PyData) (N1) (.str ("other" : Str)) (PyData.str ("other" : Str)) := (.str _)
      have d11 : NR (α := PyData) H (N1) (.str ("other" : Str)) (PyData.str ("other" : Str)) := by have h9 := (show RN H (N1) (.str ("other" : Str)) (PyData.str ("other" : Str)) from (.str _)); exact h9
      with_reducible refine x_cons ?_
      refine ⟨_, rfl, ?_⟩
      refine ⟨szle (show 2 ≤ 16777216 from by decide), fun p2 np2 => ?_⟩
      have fr6 : Rs (α := PyData) (N1) [(.str ("other" : Str)), v_due] ([(PyData.str ("other" : Str)), due] : (List PyData)) := (Rs_cons (RD.mono (Sub.refl _) d10) (Rs_cons (RD.mono g1.ex f_due) Rs_nil))
      obtain ⟨c1, hm⟩ := guardp hm
      have fr7 : NRs (α := PyData) H (N1) [(.str ("other" : Str)), v_due] ([(PyData.str ("other" : Str)), due] : (List PyData)) := (NRs_cons (RN.mono (Sub.refl _) d11) (NRs_cons (NR_flat (RD.mono g1.ex f_due) c1) NRs_nil))
      have g3 := Gr.newO (o := .lst [(.str ("other" : Str)), v_due]) G1.sub np2
      have o2 := Ow.new (us := [(.str ("other" : Str)), v_due]) G1 np2
      have G3 := G1.step g3
      with_reducible refine x_cb ?_
      with_reducible refine x_cons ?_
      with_reducible refine x_andV ?_
      with_reducible refine x_cb ?_
      with_reducible refine x_cons ?_
      refine ⟨_, rfl, ?_⟩
      with_reducible refine x_cons ?_
      with_reducible refine x_c ?_
      with_reducible refine x_nil ?_
      refine isi_str (K := K) G3.sub (RD.mono g1.ex f_due) _ ?_
      refine ⟨_, rfl, ?_⟩
      refine ifD (fun hc => ?_) (fun hc => ?_)
      · replace hm := itep hm hc
        with_reducible refine x_call ?_
        with_reducible refine x_cons ?_
        refine ⟨_, rfl, ?_⟩
        with_reducible refine x_cons ?_
        refine ⟨_, rfl, ?_⟩
        obtain ⟨x2, hx2, hm⟩ := bindp hm
        obtain rfl := asStr_of (RD.mono g1.ex f_due) hx2
        obtain ⟨r2, hr2, hm⟩ := bindp hm
        refine ⟨_, _, _, (none : (Option Er)), x2, r2, rfl, G3.sub, (RX.mono (Sub.refl _) RX_none), (.str _), hr2, fun N2 H2 v5 g4 d12  => ?_⟩
        have G4 := G3.step g4
        have o3 := o2.step g4
        obtain rfl := bl_of d12
        refine .inr ⟨_, rfl, ?_⟩
        obtain ⟨x3, hx3, hm⟩ := bindp hm
        obtain ⟨v6, hu2, d13⟩ := NRs_at (NRs_mono g4.ex fr7) hx3
        refine ⟨_, _, _, _, rfl, rfl, .inl (.inl o3.at_), hu2, ?_⟩
        obtain rfl : _ = r := Option.some.inj hm
        exact q _ _ _ G4 (RN.mono (Sub.refl _) d13)
      · replace hm := iten hm (bF hc)
        refine .inr ⟨_, rfl, ?_⟩
        obtain ⟨x4, hx4, hm⟩ := bindp hm
        obtain ⟨v7, hu3, d14⟩ := NRs_at fr7 hx4
        refine ⟨_, _, _, _, rfl, rfl, .inl (.inl o2.at_), hu3, ?_⟩
        obtain rfl : _ = r := Option.some.inj hm
        exact q _ _ _ G3 (RN.mono (Sub.refl _) d14)
  · subst e9; rw [exB_err] at hm
    have G5 := G0.step g1
    refine x_keep T.er (fun a4 na1 => ?_)
    obtain ⟨F1, g5, fa4⟩ := Gr.newE (o := EV (ErT.ad er1) a4) G5.sub na1
    have G6 := G5.step g5
    have d15 : RX F1 (.ref a4) (some er1) := ⟨_, rfl, fa4⟩
    refine x_stE (σ' := ([some (.ref a1), some v_due, some .non, some .non, some (.ref a4)] : L2.St)) (by with_unfolding_all rfl) ?_
    with_reducible refine x_asg ?_
    refine ⟨_, rfl, ?_⟩
    with_reducible refine x_gnE (σ' := ([some (.ref a1), some v_due, some (.ref a4), some .non, some (.ref a4)] : L2.St)) (by with_unfolding_all rfl) ?_
    refine x_nxS (σ' := ([some (.ref a1), some v_due, some (.ref a4), some .non, none] : L2.St)) (by with_unfolding_all rfl) ?_
    with_reducible refine x_seq ?_
    with_reducible refine x_if ?_
    with_reducible refine x_B ?_
    refine useEv (.bl ((some er1)).isNone) (by exact (ev_isNX (Evl.ev_var rfl) (RX.mono (Sub.refl _) d15))) (fun H3 e1 => ?_)
    have g6 := gr_ex G6.sub e1
    have G7 := G6.step g6
    refine ⟨_, rfl, ?_⟩
    refine ifD (fun hc => ?_) (fun hc => ?_)
    · replace hm := itep hm hc
      with_reducible refine x_ret ?_
      with_reducible refine x_op ?_
      with_reducible refine x_lst ?_
      with_reducible refine x_cons ?_
      refine ⟨_, rfl, ?_⟩
      have d16 : R (α := PyData) (F1) .non PyData.none := .non
      have d17 : NR (α := PyData) H (F1) .non PyData.none := by have h9 := (show RN H (F1) .non PyData.none from .non); exact h9
      with_reducible refine x_cons ?_
      with_reducible refine x_c ?_
      have d18 : R (α := PyData) (F1) (.str ("told" : Str)) (PyData.str ("told" : Str)) := (.str _)
      have d19 : NR (α := PyData) H (F1) (.str ("told" : Str)) (PyData.str ("told" : Str)) := by have h9 := (show RN H (F1) (.str ("told" : Str)) (PyData.str ("told" : Str)) from (.str _)); exact h9
      refine ⟨szle (show 2 ≤ 16777216 from by decide), fun p3 np3 => ?_⟩
      have fr8 : Rs (α := PyData) (F1) [.non, (.str ("told" : Str))] ([PyData.none, (PyData.str ("told" : Str))] : (List PyData)) := (Rs_cons (RD.mono (Sub.refl _) d16) (Rs_cons (RD.mono (Sub.refl _) d18) Rs_nil))
      have fr9 : NRs (α := PyData) H (F1) [.non, (.str ("told" : Str))] ([PyData.none, (PyData.str ("told" : Str))] : (List PyData)) := (NRs_cons (RN.mono (Sub.refl _) d17) (NRs_cons (RN.mono (Sub.refl _) d19) NRs_nil))
      have g7 := Gr.newO (o := .lst [.non, (.str ("told" : Str))]) G7.sub np3
      have o4 := Ow.new (us := [.non, (.str ("told" : Str))]) G7 np3
      have G8 := G7.step g7
      with_reducible refine x_cb ?_
      with_reducible refine x_cons ?_
      with_reducible refine x_cb ?_
      with_reducible refine x_cons ?_
      refine ⟨_, rfl, ?_⟩
      refine ⟨_, _, _, _, false, rfl, ClsV.ty _, TyX.base (TyOf.non), kit_ty (by decide +kernel), ?_⟩
      refine .inr ⟨_, rfl, ?_⟩
      obtain ⟨x5, hx5, hm⟩ := bindp hm
      obtain ⟨v8, hu4, d20⟩ := NRs_at fr9 hx5
      refine ⟨_, _, _, _, rfl, rfl, .inl (.inl o4.at_), hu4, ?_⟩
      obtain rfl : _ = r := Option.some.inj hm
      exact q _ _ _ G8 (RN.mono (Sub.refl _) d20)
    · replace hm := iten hm (bF hc)
      with_reducible refine x_next ?_
      with_reducible refine x_ret ?_
      with_reducible refine x_op ?_
      with_reducible refine x_lst ?_
      with_reducible refine x_cons ?_
      with_reducible refine x_c ?_
      have d21 : R (α := PyData) (F1) (.str ("other" : Str)) (PyData.str ("other" : Str)) := (.str _)
      have d22 : NR (α := PyData) H (F1) (.str ("other" : Str)) (PyData.str ("other" : Str)) := by have h9 := (show RN H (F1) (.str ("other" : Str)) (PyData.str ("other" : Str)) from (.str _)); exact h9
      with_reducible refine x_cons ?_
      refine ⟨_, rfl, ?_⟩
      refine ⟨szle (show 2 ≤ 16777216 from by decide), fun p4 np4 => ?_⟩
      have fr10 : Rs (α := PyData) (F1) [(.str ("other" : Str)), v_due] ([(PyData.str ("other" : Str)), due] : (List PyData)) := (Rs_cons (RD.mono (Sub.refl _) d21) (Rs_cons (RD.mono (g1.ex.trans g5.ex) f_due) Rs_nil))
      obtain ⟨c2, hm⟩ := guardp hm
      have fr11 : NRs (α := PyData) H (F1) [(.str ("other" : Str)), v_due] ([(PyData.str ("other" : Str)), due] : (List PyData)) := (NRs_cons (RN.mono (Sub.refl _) d22) (NRs_cons (NR_flat (RD.mono (g1.ex.trans g5.ex) f_due) c2) NRs_nil))
      have g8 := Gr.newO (o := .lst [(.str ("other" : Str)), v_due]) G7.sub np4
      have o5 := Ow.new (us := [(.str ("other" : Str)), v_due]) G7 np4
      have G9 := G7.step g8
      with_reducible refine x_cb ?_
      with_reducible refine x_cons ?_
      with_reducible refine x_andV ?_
      with_reducible refine x_cb ?_
      with_reducible refine x_cons ?_
      refine ⟨_, rfl, ?_⟩
      with_reducible refine x_cons ?_
      with_reducible refine x_c ?_
      with_reducible refine x_nil ?_
      refine isi_str (K := K) G9.sub (RD.mono (g1.ex.trans g5.ex) f_due) _ ?_
      refine ⟨_, rfl, ?_⟩
      refine ifD (fun hc => ?_) (fun hc => ?_)
      · replace hm := itep hm hc
        with_reducible refine x_call ?_
        with_reducible refine x_cons ?_
        refine ⟨_, rfl, ?_⟩
        with_reducible refine x_cons ?_
        refine ⟨_, rfl, ?_⟩
        obtain ⟨x6, hx6, hm⟩ := bindp hm
        obtain rfl := asStr_of (RD.mono (g1.ex.trans g5.ex) f_due) hx6
        obtain ⟨r3, hr3, hm⟩ := bindp hm
        refine ⟨_, _, _, (some er1), x6, r3, rfl, G9.sub, (RX.mono (Sub.refl _) d15), (.str _), hr3, fun N3 H4 v9 g9 d23  => ?_⟩
        have G10 := G9.step g9
        have o6 := o5.step g9
        obtain rfl := bl_of d23
        refine .inr ⟨_, rfl, ?_⟩
        obtain ⟨x7, hx7, hm⟩ := bindp hm
        obtain ⟨v10, hu5, d24⟩ := NRs_at (NRs_mono g9.ex fr11) hx7
        refine ⟨_, _, _, _, rfl, rfl, .inl (.inl o6.at_), hu5, ?_⟩
        obtain rfl : _ = r := Option.some.inj hm
        exact q _ _ _ G10 (RN.mono (Sub.refl _) d24)
      · replace hm := iten hm (bF hc)
        refine .inr ⟨_, rfl, ?_⟩
        obtain ⟨x8, hx8, hm⟩ := bindp hm
        obtain ⟨v11, hu6, d25⟩ := NRs_at fr11 hx8
        refine ⟨_, _, _, _, rfl, rfl, .inl (.inl o5.at_), hu6, ?_⟩
        obtain rfl : _ = r := Option.some.inj hm
        exact q _ _ _ G9 (RN.mono (Sub.refl _) d25)

abbrev N__law_lacks : List Str := ["bad", "figures", "one", "size", "at"]
theorem sc__law_lacks : FnScope N__law_lacks ["bad", "figures"] (defScope s__law_lacks) := ⟨rfl, rfl, rfl, by decide +kernel, rfl, by decide +kernel, by decide +kernel⟩
def sp__law_lacks : Sp := fun vs H Q _ => ∃ (F : Hp) (v_bad : V) (v_figures : V) (bad : (List (List Int))) (figures : (List Int)) (r : Bool), vs = [v_bad, v_figures] ∧ Sub F H ∧ R F v_bad bad ∧ R F v_figures figures ∧ _law_lacks bad figures = some r ∧ ∀ N H2 v, Gr NA F H N H2 → R N v r → Q v H2
theorem ok__law_lacks {P : Program} {w : World} {K : PySem.W.Frag} {mg : Str → Option Value} {base : Heap} (T : Txt K mg) : FnOk P w K mg base CX0 1 T.f__law_lacks.f T.f__law_lacks.fd ["bad", "figures"] sp__law_lacks := by
  have nd := (sc__law_lacks).nd
  refine T.f__law_lacks.F.ok sc__law_lacks (fun vs H Q E h => ?_) (fun cdv A0 outer s H vs Q E hr h => ?_)
  · obtain ⟨_, _, _, _, _, _, rfl, _⟩ := h
    rfl
  obtain ⟨F0, v_bad, v_figures, bad, figures, r, rfl, s0, f_bad, f_figures, hm, q⟩ := h
  have G0 : Gr NA F0 H F0 H := Gr.refl s0
  obtain ⟨a1, us1, rfl, fa1, fr1⟩ := lst_of f_bad
  obtain ⟨a2, us2, rfl, fa2, fr2⟩ := lst_of f_figures
  refine ⟨_, (pss_cons (ps_for PassesOwn.never rfl (pi_list (pv 0)) (pg_name (i := 2) nd rfl (by first | exact Or.inl rfl | exact Or.inr rfl)) (pss_cons (ps_set (i := 3) nd rfl (by first | exact Or.inl rfl | exact Or.inr rfl) (pe_callB (r := rLenT K) call_lenT (by rfl) T.z_len PySem.boot_len (pa_cons (pv 2) pa_nil))) (pss_one (ps_if (pt_cmpR (op_neT (α := (List Int)) (by decide) (hu64 hr)) (pe_lc (own := [("at", 4)]) (g := (gName 4)) rfl nd (pi_range1 (by rfl) T.z_range (pa_cons (pe_op op_sub (pe_op op_add (pe_callB (r := rLenT K) call_lenT (by rfl) T.z_len PySem.boot_len (pa_cons (pv 1) pa_nil)) pe_int) (pv 3)) pa_nil)) (blkOk_by (own := [("at", 4)]) (N := N__law_lacks) (sc := defScope s__law_lacks) (by decide +kernel)) (fun _ _ _ _ _ => pg_name (i := 4) nd rfl (Or.inl rfl)) (fun _ _ _ _ _ => pts_one (pt_cmpR (op_eqT (α := (List Int)) (by decide) (hu64 hr)) (pe_slice (r := rSlL K) sl_list (pv 1) (po_some (pv 4)) (po_some (pe_op op_add (pv 4) (pv 3)))) (pv 2) (nomark _))) (fun _ _ _ _ _ => (pv 4))) (pe_lst pa_nil) (nomark _)) (pss_one (ps_ret pe_bl)) pss_nil)))) (pss_one (ps_ret pe_bl))), ?_⟩
  refine x_start (σ' := ([some (.ref a1), some (.ref a2), none, none, none] : L2.St)) (by with_unfolding_all rfl) ?_
  rw [_law_lacks] at hm
  with_reducible refine x_seq ?_
  with_reducible refine x_for ?_
  with_reducible refine x_iter ?_
  refine ⟨_, rfl, ?_⟩
  refine ⟨_, rfl, ⟨_, .inl (.inl (G0.sub _ _ fa1))⟩, ?_⟩
  refine for_lst (α := (List Int)) (fun (ts1 : List (List Int)) σ H1 => ∃ (F1 : Hp) (y1 : Option V) (y2 : Option V), forK (_law_lacks_b1 figures) ts1 () (_law_lacks_e2) = some r ∧ Sub (F0) F1 ∧ Gr NA F0 H F1 H1 ∧ σ = [some (.ref a1), some (.ref a2), y1, y2, none]) (Rs_mono (Sub.refl _) fr1) ⟨F0, _, _, hm, (Sub.refl _), G0, rfl⟩ (fun _ _ _ h => ?_) (fun t1 ts2 v1 σ H1 hv1 hW => ?_) (fun σ H1 hW => ?_)
  · obtain ⟨F1, y1, y2, _, s9z, G9z, _⟩ := h
    exact G9z.sub _ _ (s9z _ _ ((Sub.refl _) _ _ fa1))
  · skip
    obtain ⟨F1, y1, y2, hm, s1, G1, rfl⟩ := hW
    obtain ⟨next1, hnx1⟩ : ∃ nx, nx = fun s => forK (_law_lacks_b1 figures) ts2 s (_law_lacks_e2) := ⟨_, rfl⟩
    have hm : (_law_lacks_b1 figures) () t1 next1 = some r := by rw [hnx1]; exact forK_c hm
    rw [_law_lacks_b1] at hm
    obtain ⟨a3, us3, rfl, fa3, fr3⟩ := lst_of hv1
    with_reducible refine x_gnE (σ' := ([some (.ref a1), some (.ref a2), some (.ref a3), y2, none] : L2.St)) (by with_unfolding_all rfl) ?_
    with_reducible refine x_seq ?_
    with_reducible refine x_asg ?_
    refine useEv (.int (t1.length : Int)) (by exact (ev_lenT (Evl.ev_var rfl) ((s1.trans G1.sub) _ _ fa3) (Rs_mono s1 fr3))) (fun H2 e1 => ?_)
    have g1 := gr_ex G1.sub e1
    have G2 := G1.step g1
    with_reducible refine x_gnE (σ' := ([some (.ref a1), some (.ref a2), some (.ref a3), some (.int (t1.length : Int)), none] : L2.St)) (by with_unfolding_all rfl) ?_
    with_reducible refine x_if ?_
    with_reducible refine x_test ?_
    with_reducible refine x_op ?_
    with_reducible refine x_lc ?_
    with_reducible refine x_rng1 ?_
    with_reducible refine x_cons ?_
    refine useEv (.int (((figures.length : Int) + (1 : Int)) - (t1.length : Int))) (by exact (Evl.ev_op (Evl.ev_op (ev_lenT (Evl.ev_var rfl) ((s1.trans G2.sub) _ _ fa2) (Rs_mono s1 fr2)) Evl.ev_c Evl.rv_I0) (Evl.ev_var rfl) Evl.rv_I0)) (fun H3 e2 => ?_)
    have g2 := gr_ex G2.sub e2
    have G3 := G2.step g2
    obtain ⟨c1, hm⟩ := guardp hm
    refine ⟨_, rfl, c1.lo, c1.hi, fun p1 np1 => ?_⟩
    have g3 := Gr.newO (o := .lst []) G3.sub np1
    have o1 := Ow.new (us := []) G3 np1
    have G4 := G3.step g3
    refine lc_rng (lo := 0) (hi := (((figures.length : Int) + (1 : Int)) - (t1.length : Int))) (by rw [Int.sub_zero]) (fun (ts3 : List Int) H4 => ∃ (F2 : Hp) (x2 : List Int) (us5 : List V), forK (_law_lacks_c3 figures t1) ts3 x2 (_law_lacks_k4 next1) = some r ∧ Sub (F1) F2 ∧ Gr NA F0 H F2 H4 ∧ Ow H F2 H4 p1 us5 ∧ Rs F2 us5 x2) ⟨F1, ([] : List Int), _, hm, (Sub.refl _), G4, o1, Rs_nil⟩ (fun t2 ts4 H1 hW => ?_) (fun H1 hW => ?_)
    · skip
      obtain ⟨F2, x2, us5, hm, s2, G5, o2, fr4⟩ := hW
      obtain ⟨next2, hnx2⟩ : ∃ nx, nx = fun s => forK (_law_lacks_c3 figures t1) ts4 s (_law_lacks_k4 next1) := ⟨_, rfl⟩
      have hm : (_law_lacks_c3 figures t1) x2 t2 next2 = some r := by rw [hnx2]; exact forK_c hm
      rw [_law_lacks_c3] at hm
      with_reducible refine x_gnE (σ' := ([some (.ref a1), some (.ref a2), some (.ref a3), some (.int (t1.length : Int)), some (.int t2)] : L2.St)) (by with_unfolding_all rfl) ?_
      refine ⟨rfl, ?_⟩
      with_reducible refine x_test ?_
      with_reducible refine x_op ?_
      with_reducible refine x_sl ?_
      refine ⟨_, rfl, ?_⟩
      with_reducible refine x_part ?_
      refine ⟨_, rfl, ?_⟩
      refine ⟨_, rfl, ?_⟩
      with_reducible refine x_part ?_
      refine useEv (.int (t2 + (t1.length : Int))) (by exact (Evl.ev_op (Evl.ev_var rfl) (Evl.ev_var rfl) Evl.rv_I0)) (fun H5 e3 => ?_)
      have g4 := gr_ex G5.sub e3
      have G6 := G5.step g4
      have o3 := o2.step g4
      refine ⟨_, rfl, ?_⟩
      refine ⟨_, _, rfl, .inl (.inl (((s1.trans s2).trans G6.sub) _ _ fa2)), fun p2 np2 => ?_⟩
      have fr5 : Rs (α := Int) (F2) (cutV us2 (some t2) (some (t2 + (t1.length : Int)))) (cutT figures (some t2) (some (t2 + (t1.length : Int)))) := Rs_cut (Rs_mono (s1.trans s2) fr2)
      have g5 := Gr.newO (o := .lst (cutV us2 (some t2) (some (t2 + (t1.length : Int))))) G6.sub np2
      have o4 := Ow.new (us := (cutV us2 (some t2) (some (t2 + (t1.length : Int))))) G6 np2
      have ne1 := o3.ne_new np2
      have G7 := G6.step g5
      have o5 := o3.step g5
      refine ⟨_, rfl, ?_⟩
      refine ⟨_, (cutT figures (some t2) (some (t2 + (t1.length : Int)))), t1, Sub.refl _, (mk_lst o4.at_ (Rs_mono G7.sub fr5)), (RD.mono G7.sub (mk_lst ((s1.trans s2) _ _ fa3) (Rs_mono (s1.trans s2) fr3))), ?_⟩
      refine ⟨_, rfl, ?_⟩
      refine ifD (fun hc => ?_) (fun hc => ?_)
      · replace hm := itep hm hc
        refine ⟨_, rfl, ?_⟩
        obtain ⟨c2, hm⟩ := guardp hm
        have G8 := o5.mutG (o := .lst (us5 ++ [(.int t2)])) G7
        have o6 := o5.mut (ws := us5 ++ [(.int t2)])
        have fr6 : Rs (α := Int) (F2) (us5 ++ [(.int t2)]) (x2 ++ [t2]) := Rs_snoc fr4 (.int _)
        have o7 := o4.other (ws := us5 ++ [(.int t2)]) (Ne.symm (Ne.symm ne1))
        rw [hnx2] at hm
        exact ⟨_, o5.at_, szl (by rw [Rs_len fr4]; exact c2), ⟨F2, (x2 ++ [t2]), _, hm, s2, G8, o6, fr6⟩⟩
      · replace hm := iten hm (bF hc)
        rw [hnx2] at hm
        exact ⟨F2, x2, _, hm, s2, G7, o5, fr4⟩
    · skip
      obtain ⟨F2, x2, us5, hm, s3, G9, o8, fr7⟩ := hW
      have hm : (_law_lacks_k4 next1) x2 = some r := forK_n hm
      rw [_law_lacks_k4] at hm
      with_reducible refine x_lst ?_
      refine ⟨szle (show 0 ≤ 16777216 from by decide), fun p3 np3 => ?_⟩
      have fr8 : Rs (α := Int) (F2) [] ([] : (List Int)) := Rs_nil
      have g6 := Gr.newO (o := .lst []) G9.sub np3
      have o9 := Ow.new (us := []) G9 np3
      have ne2 := o8.ne_new np3
      have G10 := G9.step g6
      have o10 := o8.step g6
      refine ⟨_, x2, ([] : (List Int)), Sub.refl _, (mk_lst o10.at_ (Rs_mono G10.sub fr7)), (mk_lst o9.at_ (Rs_mono G10.sub fr8)), ?_⟩
      refine ⟨_, rfl, ?_⟩
      refine ifD (fun hc => ?_) (fun hc => ?_)
      · replace hm := itep hm hc
        with_reducible refine x_ret ?_
        with_reducible refine x_c ?_
        obtain rfl : _ = r := Option.some.inj hm
        exact q _ _ _ G10 (.bl _)
      · replace hm := iten hm (bF hc)
        with_reducible refine x_next ?_
        rw [hnx1] at hm
        exact ⟨F2, _, _, hm, (s1.trans s3), G10, rfl⟩
  · skip
    obtain ⟨F1, y1, y2, hm, s4, G11, rfl⟩ := hW
    have hm : (_law_lacks_e2) () = some r := forK_n hm
    rw [_law_lacks_e2] at hm
    with_reducible refine x_ret ?_
    with_reducible refine x_c ?_
    obtain rfl : _ = r := Option.some.inj hm
    exact q _ _ _ G11 (.bl _)

abbrev N__law_due : List Str := ["rules", "base", "bad", "known", "one", "every", "left", "other"]
theorem sc__law_due : FnScope N__law_due ["rules"] (defScope s__law_due) := ⟨rfl, rfl, rfl, by decide +kernel, rfl, by decide +kernel, by decide +kernel⟩
def sp__law_due : Sp := fun vs H Q _ => ∃ (F : Hp) (v_rules : V) (rules : (List (Int × (List (List Int))))) (r : PyData), vs = [v_rules] ∧ Sub F H ∧ R F v_rules rules ∧ _law_due rules = some r ∧ ∀ N H2 v, Gr NA F H N H2 → R N v r → Q v H2
theorem ok__law_due {P : Program} {w : World} {K : PySem.W.Frag} {mg : Str → Option Value} {base : Heap} (T : Txt K mg) : FnOk P w K mg base CX0 2 T.f__law_due.f T.f__law_due.fd ["rules"] sp__law_due := by
  have nd := (sc__law_due).nd
  refine T.f__law_due.F.ok sc__law_due (fun vs H Q E h => ?_) (fun cdv A0 outer s H vs Q E hr h => ?_)
  · obtain ⟨_, _, _, _, rfl, _⟩ := h
    rfl
  obtain ⟨F0, v_rules, rules, r, rfl, s0, f_rules, hm, q⟩ := h
  have G0 : Gr NA F0 H F0 H := Gr.refl s0
  obtain ⟨a1, us1, rfl, fa1, fr1⟩ := lst_of f_rules
  refine ⟨_, (pss_cons (ps_if (pt_cmpR (op_neT (α := (List Int)) (by decide) (hu64 hr)) (pe_lc (own := [("base", 1), ("bad", 2)]) (g := ((gTup K 2 (gCons (gName 1) (gCons (gName 2) gNil))))) rfl nd (pi_list (pv 0)) (blkOk_by (own := [("base", 1), ("bad", 2)]) (N := N__law_due) (sc := defScope s__law_due) (by decide +kernel)) (fun _ _ _ _ _ => pg_tup rfl (pgs_cons (pg_name (i := 1) nd rfl (Or.inl rfl) (Or.inr rfl)) (pgs_cons (pg_name (i := 2) nd rfl (Or.inl rfl) (Or.inr rfl)) pgs_nil))) (fun _ _ _ _ _ => pts_one (pt_cmp (pc_neI (pv 1) (pe_ix (r := rIxT K) ix_tup (pe_ix (r := rIxL K) ix_list (pv 0) pe_int (fun _ _ => rfl)) pe_int (fun _ _ => rfl))))) (fun _ _ _ _ _ => (pv 1))) (pe_lst pa_nil) (nomark _)) (pss_one (ps_ret pe_str)) pss_nil) (pss_cons (ps_set (i := 3) nd rfl (by first | exact Or.inl rfl | exact Or.inr rfl) pe_dnewT) (pss_cons (ps_for PassesOwn.never rfl (pi_list (pv 0)) (pg_tup rfl (pgs_cons (pg_name (i := 1) nd rfl (by first | exact Or.inl rfl | exact Or.inr rfl)) (pgs_cons (pg_name (i := 2) nd rfl (by first | exact Or.inl rfl | exact Or.inr rfl)) pgs_nil))) (pss_one (ps_for PassesOwn.never rfl (pi_list (pv 2)) (pg_name (i := 4) nd rfl (by first | exact Or.inl rfl | exact Or.inr rfl)) (pss_one (ps_dput (hu_of hr) (pv 3) (pe_callTy (r := rTupL K) call_tupL (by rfl) T.z_tuple (by decide +kernel) (pa_cons (pv 4) pa_nil)) pe_bl (by rfl)))))) (pss_cons (ps_set (i := 5) nd rfl (by first | exact Or.inl rfl | exact Or.inr rfl) (pe_lc (own := [("one", 4)]) (g := (gName 4)) rfl nd (pi_list (pe_callB (r := rSortDT) (call_sortedDT (by rfl) (hu200' hr)) (by rfl) T.z_sorted (by decide +kernel) (pa_cons (pv 3) pa_nil))) (blkOk_by (own := [("one", 4)]) (N := N__law_due) (sc := defScope s__law_due) (by decide +kernel)) (fun _ _ _ _ _ => pg_name (i := 4) nd rfl (Or.inl rfl)) (fun _ _ _ _ _ => pts_nil) (fun _ _ _ _ _ => (pe_callTy (r := rListT K) call_listT (by rfl) T.z_list (by decide +kernel) (pa_cons (pv 4) pa_nil))))) (pss_cons (ps_setLc (i := 6) (own := [("one", 4)]) (g := (gName 4)) rfl nd rfl rfl (sw_true rfl rfl rfl (by decide +kernel)) (pi_list (pv 5)) (blkOk_by (own := [("one", 4)]) (N := N__law_due) (sc := defScope s__law_due) (by decide +kernel)) (fun _ _ _ _ _ => pg_name (i := 4) nd rfl (Or.inr rfl)) (fun _ _ _ _ _ => pts_one (pt_val (pe_call (ok__law_lacks T) (hr.mono (by decide)) (by rfl) T.f__law_lacks.g T.f__law_lacks.F.kp T.f__law_lacks.b .nil pass0 (pa_cons (pe_lc (own := [("other", 7)]) (g := (gName 7)) rfl nd (show PI _ _ _ (iList K _) from pi_list (pv 5)) (by exact blkOk_in (own := [("other", 7)]) (N := N__law_due) (sc := defScope s__law_due) rfl rfl (by decide +kernel)) (fun _ _ _ _ _ => pg_name (i := 7) nd rfl (Or.inl rfl)) (fun _ _ _ _ _ => pts_one (pt_cmpR (op_neT (α := (List Int)) (by decide) (hu64 hr)) (pv 7) (pv 4) (nomark _))) (fun _ _ _ _ _ => (pv 7))) (pa_cons (pv 4) pa_nil))))) (fun _ _ _ _ _ => (pv 4))) (pss_one (ps_ret (pe_ix (r := rIxL K) ix_list (pe_lst (pa_cons (pe_tup (pa_cons (pe_ix (r := rIxT K) ix_tup (pe_ix (r := rIxL K) ix_list (pv 0) pe_int (fun _ _ => rfl)) pe_int (fun _ _ => rfl)) (pa_cons (pv 6) pa_nil))) (pa_cons pe_str pa_nil))) (pe_callTy call_int1 (by rfl) T.z_int (by decide +kernel) (pa_cons (pe_cmp (pc_gt (pe_callB (r := rLenT K) call_lenT (by rfl) T.z_len PySem.boot_len (pa_cons (pv 6) pa_nil)) pe_int)) pa_nil)) (fun _ _ => rfl))))))))), ?_⟩
  refine x_start (σ' := ([some (.ref a1), none, none, none, none, none, none, none] : L2.St)) (by with_unfolding_all rfl) ?_
  rw [_law_due] at hm
  with_reducible refine x_seq ?_
  with_reducible refine x_if ?_
  with_reducible refine x_test ?_
  with_reducible refine x_op ?_
  with_reducible refine x_lc ?_
  with_reducible refine x_iter ?_
  refine ⟨_, rfl, ?_⟩
  refine ⟨_, rfl, ⟨_, .inl (.inl (G0.sub _ _ fa1))⟩, fun p1 np1 => ?_⟩
  have g1 := Gr.newO (o := .lst []) G0.sub np1
  have o1 := Ow.new (us := []) G0 np1
  have G1 := G0.step g1
  refine lc_lst (α := (Int × (List (List Int)))) (fun (ts1 : List (Int × (List (List Int)))) H1 => ∃ (F1 : Hp) (x2 : List Int) (us3 : List V), forK (_law_due_c1 rules) ts1 x2 (_law_due_k2 rules) = some r ∧ Sub (F0) F1 ∧ Gr NA F0 H F1 H1 ∧ Ow H F1 H1 p1 us3 ∧ Rs F1 us3 x2) (Rs_mono (Sub.refl _) fr1) ⟨F0, ([] : List Int), _, hm, (Sub.refl _), G1, o1, Rs_nil⟩ (fun _ _ h => ?_) (fun t1 ts2 v1 H1 hv1 hW => ?_) (fun H1 hW => ?_)
  · obtain ⟨F9z, _, _, _, s9z, G9z, _⟩ := h
    exact G9z.sub _ _ (s9z _ _ ((Sub.refl _) _ _ fa1))
  · skip
    obtain ⟨F1, x2, us3, hm, s1, G2, o2, fr2⟩ := hW
    obtain ⟨next1, hnx1⟩ : ∃ nx, nx = fun s => forK (_law_due_c1 rules) ts2 s (_law_due_k2 rules) := ⟨_, rfl⟩
    have hm : (_law_due_c1 rules) x2 t1 next1 = some r := by rw [hnx1]; exact forK_c hm
    rw [_law_due_c1] at hm
    obtain ⟨a2, v2, v3, rfl, fa2, d1, d2⟩ := tup2_of hv1
    obtain rfl := int_of d1
    obtain ⟨a3, us4, rfl, fa3, fr3⟩ := lst_of d2
    refine ⟨_, _, rfl, .inl (.inl ((s1.trans G2.sub) _ _ fa2)), rfl, ?_⟩
    refine ⟨_, _, rfl, ?_⟩
    with_reducible refine x_gnE (σ' := ([some (.ref a1), some (.int (t1).1), none, none, none, none, none, none] : L2.St)) (by with_unfolding_all rfl) ?_
    refine ⟨_, _, rfl, ?_⟩
    with_reducible refine x_gnE (σ' := ([some (.ref a1), some (.int (t1).1), some (.ref a3), none, none, none, none, none] : L2.St)) (by with_unfolding_all rfl) ?_
    refine ⟨rfl, ?_⟩
    refine ⟨rfl, ?_⟩
    with_reducible refine x_B ?_
    with_reducible refine x_cmp ?_
    refine ⟨_, rfl, ?_⟩
    with_reducible refine x_op ?_
    with_reducible refine x_op ?_
    refine ⟨_, rfl, ?_⟩
    with_reducible refine x_c ?_
    obtain ⟨x3, hx1, hm⟩ := bindp hm
    obtain ⟨v4, hu1, d3⟩ := Rs_at (Rs_mono s1 fr1) hx1
    refine ⟨_, _, _, _, rfl, rfl, .inl (.inl ((s1.trans G2.sub) _ _ fa1)), hu1, ?_⟩
    obtain ⟨a4, v5, v6, rfl, fa4, d4, d5⟩ := tup2_of d3
    obtain rfl := int_of d4
    obtain ⟨a5, us5, rfl, fa5, fr4⟩ := lst_of d5
    refine ⟨_, _, _, _, rfl, rfl, .inl (.inl (G2.sub _ _ fa4)), atI_nat (j := 0) rfl, ?_⟩
    refine ⟨_, _, rfl, rfl, ?_⟩
    refine ⟨_, rfl, ?_⟩
    refine ifD (fun hc => ?_) (fun hc => ?_)
    · replace hm := itep hm hc
      refine ⟨_, rfl, ?_⟩
      obtain ⟨c1, hm⟩ := guardp hm
      have G3 := o2.mutG (o := .lst (us3 ++ [(.int (t1).1)])) G2
      have o3 := o2.mut (ws := us3 ++ [(.int (t1).1)])
      have fr5 : Rs (α := Int) (F1) (us3 ++ [(.int (t1).1)]) (x2 ++ [(t1).1]) := Rs_snoc fr2 (.int _)
      rw [hnx1] at hm
      exact ⟨_, o2.at_, szl (by rw [Rs_len fr2]; exact c1), ⟨F1, (x2 ++ [(t1).1]), _, hm, s1, G3, o3, fr5⟩⟩
    · replace hm := iten hm (bF hc)
      rw [hnx1] at hm
      exact ⟨F1, x2, _, hm, s1, G2, o2, fr2⟩
  · skip
    obtain ⟨F1, x2, us3, hm, s2, G4, o4, fr6⟩ := hW
    have hm : (_law_due_k2 rules) x2 = some r := forK_n hm
    rw [_law_due_k2] at hm
    with_reducible refine x_lst ?_
    refine ⟨szle (show 0 ≤ 16777216 from by decide), fun p2 np2 => ?_⟩
    have fr7 : Rs (α := Int) (F1) [] ([] : (List Int)) := Rs_nil
    have g2 := Gr.newO (o := .lst []) G4.sub np2
    have o5 := Ow.new (us := []) G4 np2
    have ne1 := o4.ne_new np2
    have G5 := G4.step g2
    have o6 := o4.step g2
    refine ⟨_, x2, ([] : (List Int)), Sub.refl _, (mk_lst o6.at_ (Rs_mono G5.sub fr6)), (mk_lst o5.at_ (Rs_mono G5.sub fr7)), ?_⟩
    refine ⟨_, rfl, ?_⟩
    refine ifD (fun hc => ?_) (fun hc => ?_)
    · replace hm := itep hm hc
      with_reducible refine x_ret ?_
      with_reducible refine x_c ?_
      have d6 : R (α := PyData) (F1) (.str ("rules" : Str)) (PyData.str ("rules" : Str)) := (.str _)
      obtain rfl : _ = r := Option.some.inj hm
      exact q _ _ _ G5 (RD.mono (Sub.refl _) d6)
    · replace hm := iten hm (bF hc)
      with_reducible refine x_next ?_
      with_reducible refine x_seq ?_
      with_reducible refine x_asg ?_
      refine fun p3 np3 => ?_
      have g3 := Gr.newO (o := .dT []) G5.sub np3
      have o7 := OwO.new (o := .dT []) G5 np3
      have G6 := G5.step g3
      with_reducible refine x_gnE (σ' := ([some (.ref a1), none, none, some (.ref p3), none, none, none, none] : L2.St)) (by with_unfolding_all rfl) ?_
      with_reducible refine x_seq ?_
      with_reducible refine x_for ?_
      with_reducible refine x_iter ?_
      refine ⟨_, rfl, ?_⟩
      refine ⟨_, rfl, ⟨_, .inl (.inl ((s2.trans G6.sub) _ _ fa1))⟩, ?_⟩
      refine for_lst (α := (Int × (List (List Int)))) (fun (ts3 : List (Int × (List (List Int)))) σ H2 => ∃ (F2 : Hp) (x4 : (List (TI × Bool))) (p4 : Addr) (us6 : List ((List Key) × V)) (y1 : Option V) (y2 : Option V) (y3 : Option V), forK (_law_due_b3) ts3 x4 (_law_due_e4 rules) = some r ∧ Sub (F1) F2 ∧ Gr NA F0 H F2 H2 ∧ OwO H F2 H2 p4 (.dT us6) ∧ RsK keyT F2 us6 x4 ∧ σ = [some (.ref a1), y2, y1, some (.ref p4), y3, none, none, none]) (Rs_mono s2 fr1) ⟨F1, ([] : (List (TI × Bool))), _, _, _, _, _, hm, (Sub.refl _), G6, o7, (RsK_nil (key := keyT)), rfl⟩ (fun _ _ _ h => ?_) (fun t2 ts4 v7 σ H1 hv2 hW => ?_) (fun σ H1 hW => ?_)
      · obtain ⟨F2, x4, p4, us6, y1, y2, y3, _, s9z, G9z, _⟩ := h
        exact G9z.sub _ _ (s9z _ _ (s2 _ _ fa1))
      · skip
        obtain ⟨F2, x4, p4, us6, y1, y2, y3, hm, s3, G7, o8, fr8, rfl⟩ := hW
        obtain ⟨next2, hnx2⟩ : ∃ nx, nx = fun s => forK (_law_due_b3) ts4 s (_law_due_e4 rules) := ⟨_, rfl⟩
        have hm : (_law_due_b3) x4 t2 next2 = some r := by rw [hnx2]; exact forK_c hm
        rw [_law_due_b3] at hm
        obtain ⟨a6, v8, v9, rfl, fa6, d7, d8⟩ := tup2_of hv2
        obtain rfl := int_of d7
        obtain ⟨a7, us7, rfl, fa7, fr9⟩ := lst_of d8
        refine ⟨_, _, rfl, .inl (.inl ((s3.trans G7.sub) _ _ fa6)), rfl, ?_⟩
        refine ⟨_, _, rfl, ?_⟩
        with_reducible refine x_gnE (σ' := ([some (.ref a1), some (.int (t2).1), y1, some (.ref p4), y3, none, none, none] : L2.St)) (by with_unfolding_all rfl) ?_
        refine ⟨_, _, rfl, ?_⟩
        with_reducible refine x_gnE (σ' := ([some (.ref a1), some (.int (t2).1), some (.ref a7), some (.ref p4), y3, none, none, none] : L2.St)) (by with_unfolding_all rfl) ?_
        refine ⟨rfl, ?_⟩
        with_reducible refine x_for ?_
        with_reducible refine x_iter ?_
        refine ⟨_, rfl, ?_⟩
        refine ⟨_, rfl, ⟨_, .inl (.inl ((s3.trans G7.sub) _ _ fa7))⟩, ?_⟩
        refine for_lst (α := (List Int)) (fun (ts5 : List (List Int)) σ H3 => ∃ (F3 : Hp) (x5 : (List (TI × Bool))) (p5 : Addr) (us8 : List ((List Key) × V)) (y4 : Option V), forK (_law_due_b5) ts5 x5 (_law_due_e6 next2) = some r ∧ Sub (F2) F3 ∧ Gr NA F0 H F3 H3 ∧ OwO H F3 H3 p5 (.dT us8) ∧ RsK keyT F3 us8 x5 ∧ σ = [some (.ref a1), some (.int (t2).1), some (.ref a7), some (.ref p5), y4, none, none, none]) (Rs_mono s3 fr9) ⟨F2, x4, _, _, _, hm, (Sub.refl _), G7, o8, fr8, rfl⟩ (fun _ _ _ h => ?_) (fun t3 ts6 v10 σ H1 hv3 hW => ?_) (fun σ H1 hW => ?_)
        · obtain ⟨F3, x5, p5, us8, y4, _, s9z, G9z, _⟩ := h
          exact G9z.sub _ _ (s9z _ _ (s3 _ _ fa7))
        · skip
          obtain ⟨F3, x5, p5, us8, y4, hm, s4, G8, o9, fr10, rfl⟩ := hW
          obtain ⟨next3, hnx3⟩ : ∃ nx, nx = fun s => forK (_law_due_b5) ts6 s (_law_due_e6 next2) := ⟨_, rfl⟩
          have hm : (_law_due_b5) x5 t3 next3 = some r := by rw [hnx3]; exact forK_c hm
          rw [_law_due_b5] at hm
          obtain ⟨a8, us9, rfl, fa8, fr11⟩ := lst_of hv3
          with_reducible refine x_gnE (σ' := ([some (.ref a1), some (.int (t2).1), some (.ref a7), some (.ref p5), some (.ref a8), none, none, none] : L2.St)) (by with_unfolding_all rfl) ?_
          with_reducible refine x_dput ?_
          with_reducible refine x_c ?_
          refine ⟨_, rfl, ?_⟩
          with_reducible refine x_cb ?_
          with_reducible refine x_cons ?_
          refine ⟨_, rfl, ?_⟩
          have fr12 := (Rs_mono s4 fr11)
          refine ⟨_, _, rfl, .inl ⟨.inl (.inl ((s4.trans G8.sub) _ _ fa8)), fun p6 np4 => ?_⟩⟩
          obtain ⟨F4, g4, fa9⟩ := Gr.newE (o := .tup us9) G8.sub np4
          have G9 := G8.step g4
          have o10 := o9.step g4
          have d9 := mk_tupi (xs := t3) fa9 (Rs_mono g4.ex fr12)
          have ka1 := tupi_at (xs := t3) fa9 (Rs_mono g4.ex fr12)
          obtain ⟨c2, hm⟩ := guardp hm
          refine ⟨_, _, rfl, DPut.t (k := keyT (⟨t3⟩ : TI)) o10.at_ (G9.sub _ _ ka1) (szl (by rw [RsK_len (RsK_mono g4.ex fr10)]; exact c2)), ?_⟩
          have G10 := o10.mutG (o' := .dT (putK us8 (keyT (⟨t3⟩ : TI)) (.bl true))) G9
          have o11 := o10.mut (o' := .dT (putK us8 (keyT (⟨t3⟩ : TI)) (.bl true)))
          have fr13 := RsK_put keyT_inj (k := (⟨t3⟩ : TI)) (v := (.bl true)) (y := true) (.bl _) (RsK_mono g4.ex fr10)
          rw [hnx3] at hm
          exact ⟨F4, (putT x5 (⟨t3⟩ : TI) true), _, _, _, hm, (s4.trans g4.ex), G10, o11, fr13, rfl⟩
        · skip
          obtain ⟨F3, x5, p5, us8, y4, hm, s5, G11, o12, fr14, rfl⟩ := hW
          have hm : (_law_due_e6 next2) x5 = some r := forK_n hm
          rw [_law_due_e6] at hm
          rw [hnx2] at hm
          exact ⟨F3, x5, _, _, _, _, _, hm, (s3.trans s5), G11, o12, fr14, rfl⟩
      · skip
        obtain ⟨F2, x4, p4, us6, y1, y2, y3, hm, s6, G12, o13, fr15, rfl⟩ := hW
        have hm : (_law_due_e4 rules) x4 = some r := forK_n hm
        rw [_law_due_e4] at hm
        with_reducible refine x_seq ?_
        with_reducible refine x_asg ?_
        with_reducible refine x_lc ?_
        with_reducible refine x_iter ?_
        with_reducible refine x_cb ?_
        with_reducible refine x_cons ?_
        refine ⟨_, rfl, ?_⟩
        obtain ⟨c3, hm⟩ := guardp hm
        obtain ⟨c4, hm⟩ := guardp hm
        refine ⟨_, _, (x4.map (·.1)), rfl, o13.at_, RsK_keys fr15, c3, c4, fun p7 bs1 np5 tk1 => ?_⟩
        have g5 := Gr.newO (o := .lst (bs1.map V.ref)) G12.sub np5
        have o14 := Ow.new (us := (bs1.map V.ref)) G12 np5
        have ne2 := o13.ne_new np5
        have G13 := G12.step g5
        have o15 := o13.step g5
        have tk2 := tk1.new (o := .lst (bs1.map V.ref)) np5
        refine ⟨_, rfl, ⟨_, .inl (.inl o14.at_)⟩, fun p8 np6 => ?_⟩
        have g6 := Gr.newO (o := .lst []) G13.sub np6
        have o16 := Ow.new (us := []) G13 np6
        have ne3 := o15.ne_new np6
        have ne4 := o14.ne_new np6
        have G14 := G13.step g6
        have o17 := o15.step g6
        have o18 := o14.step g6
        have tk3 := tk2.gr g6
        refine lc_tk (bs := bs1) (fun (ts7 : List TI) H4 => ∃ (F5 : Hp) (x7 : List (List Int)) (us11 : List V), forK (_law_due_c7) ts7 x7 (_law_due_k8 rules) = some r ∧ Sub (F2) F5 ∧ Gr NA F0 H F5 H4 ∧ Ow H F5 H4 p8 us11 ∧ Rs F5 us11 x7 ∧ TK H4 bs1 (sortT (x4.map (·.1))) ∧ OwO H F5 H4 p4 (.dT us6) ∧ Ow H F5 H4 p7 (bs1.map V.ref)) ⟨F2, ([] : List (List Int)), _, hm, (Sub.refl _), G14, o16, Rs_nil, tk3, o17, o18⟩ (fun _ _ h => ?_) (fun t4 ts8 v11 H1 hv4 hW => ?_) (fun H1 hW => ?_)
        · obtain ⟨F9z, _, _, _, s9z, G9z, _, _, k9, _, q9⟩ := h
          exact ⟨q9.at_, k9⟩
        · skip
          obtain ⟨F5, x7, us11, hm, s7, G15, o19, fr16, tk4, o20, o21⟩ := hW
          obtain ⟨next4, hnx4⟩ : ∃ nx, nx = fun s => forK (_law_due_c7) ts8 s (_law_due_k8 rules) := ⟨_, rfl⟩
          have hm : (_law_due_c7) x7 t4 next4 = some r := by rw [hnx4]; exact forK_c hm
          rw [_law_due_c7] at hm
          with_reducible refine x_gnE (σ' := ([some (.ref a1), y2, y1, some (.ref p4), some (.ref v11), none, none, none] : L2.St)) (by with_unfolding_all rfl) ?_
          refine ⟨rfl, ?_⟩
          with_reducible refine x_yes ?_
          refine iteT ?_
          with_reducible refine x_cb ?_
          with_reducible refine x_cons ?_
          refine ⟨_, rfl, ?_⟩
          refine ⟨_, _, rfl, .inr (.inl (.inl hv4)), fun p9 np7 => ?_⟩
          have g7 := Gr.newO (o := .lst ((t4).l.map V.int)) G15.sub np7
          have o22 := Ow.new (us := ((t4).l.map V.int)) G15 np7
          have ne5 := o19.ne_new np7
          have ne6 := o20.ne_new np7
          have ne7 := o21.ne_new np7
          have G16 := G15.step g7
          have o23 := o19.step g7
          have o24 := o20.step g7
          have o25 := o21.step g7
          have tk5 := tk4.gr g7
          obtain ⟨F6, G17, ex1, fa10, nf1⟩ := o22.frzE G16
          have o26 := o23.frzN (Ne.symm (Ne.symm ne5)) nf1
          have o27 := o24.frzN (Ne.symm (Ne.symm ne6)) nf1
          have o28 := o25.frzN (Ne.symm (Ne.symm ne7)) nf1
          have fr17 := Rs_mono ex1 (int_Rs (F := F5) (t4).l)
          obtain ⟨c5, hm⟩ := guardp hm
          have G18 := o26.mutG (o := .lst (us11 ++ [(.ref p9)])) G17
          have o29 := o26.mut (ws := us11 ++ [(.ref p9)])
          have fr18 : Rs (α := (List Int)) (F6) (us11 ++ [(.ref p9)]) (x7 ++ [(t4).l]) := Rs_snoc (Rs_mono ex1 fr16) (mk_lst ((Sub.refl _) _ _ fa10) (Rs_mono (Sub.refl _) fr17))
          have o30 := o27.other (ws := us11 ++ [(.ref p9)]) (Ne.symm ne3)
          have o31 := o28.other (ws := us11 ++ [(.ref p9)]) (Ne.symm ne4)
          have tk6 := tk5.mut (ws := us11 ++ [(.ref p9)]) o26.at_
          rw [hnx4] at hm
          exact ⟨_, o26.at_, szl (by rw [Rs_len (Rs_mono ex1 fr16)]; exact c5), ⟨F6, (x7 ++ [(t4).l]), _, hm, (s7.trans ex1), G18, o29, fr18, tk6, o30, o31⟩⟩
        · skip
          obtain ⟨F5, x7, us11, hm, s8, G19, o32, fr19, tk7, o33, o34⟩ := hW
          have hm : (_law_due_k8 rules) x7 = some r := forK_n hm
          rw [_law_due_k8] at hm
          obtain ⟨F7, G20, ex2, fa11, nf2⟩ := o32.frzE G19
          have o35 := o33.frzN (Ne.symm (Ne.symm ne3)) nf2
          have o36 := o34.frzN (Ne.symm (Ne.symm ne4)) nf2
          have fr20 := Rs_mono ex2 fr19
          with_reducible refine x_gnE (σ' := ([some (.ref a1), y2, y1, some (.ref p4), y3, some (.ref p8), none, none] : L2.St)) (by with_unfolding_all rfl) ?_
          with_reducible refine x_seq ?_
          with_reducible refine x_asg ?_
          with_reducible refine x_lc ?_
          with_reducible refine x_iter ?_
          refine ⟨_, rfl, ?_⟩
          refine ⟨_, rfl, ⟨_, .inl (.inl (G20.sub _ _ fa11))⟩, fun p10 np8 => ?_⟩
          have g8 := Gr.newO (o := .lst []) G20.sub np8
          have o37 := Ow.new (us := []) G20 np8
          have ne8 := o35.ne_new np8
          have G21 := G20.step g8
          have o38 := o35.step g8
          have tk8 := tk7.gr g8
          refine lc_lst (α := (List Int)) (fun (ts9 : List (List Int)) H5 => ∃ (F8 : Hp) (x9 : List (List Int)) (us13 : List V), forK (_law_due_c9 x7) ts9 x9 (_law_due_k10 rules) = some r ∧ Sub (F7) F8 ∧ Gr NA F0 H F8 H5 ∧ Ow H F8 H5 p10 us13 ∧ Rs F8 us13 x9 ∧ OwO H F8 H5 p4 (.dT us6)) (Rs_mono (Sub.refl _) fr20) ⟨F7, ([] : List (List Int)), _, hm, (Sub.refl _), G21, o37, Rs_nil, o38⟩ (fun _ _ h => ?_) (fun t5 ts10 v12 H1 hv5 hW => ?_) (fun H1 hW => ?_)
          · obtain ⟨F9z, _, _, _, s9z, G9z, _⟩ := h
            exact G9z.sub _ _ (s9z _ _ ((Sub.refl _) _ _ fa11))
          · skip
            obtain ⟨F8, x9, us13, hm, s9, G22, o39, fr21, o40⟩ := hW
            obtain ⟨next5, hnx5⟩ : ∃ nx, nx = fun s => forK (_law_due_c9 x7) ts10 s (_law_due_k10 rules) := ⟨_, rfl⟩
            have hm : (_law_due_c9 x7) x9 t5 next5 = some r := by rw [hnx5]; exact forK_c hm
            rw [_law_due_c9] at hm
            obtain ⟨a9, us14, rfl, fa12, fr22⟩ := lst_of hv5
            with_reducible refine x_gnE (σ' := ([some (.ref a1), y2, y1, some (.ref p4), some (.ref a9), some (.ref p8), none, none] : L2.St)) (by with_unfolding_all rfl) ?_
            refine ⟨rfl, ?_⟩
            with_reducible refine x_B ?_
            with_reducible refine x_call ?_
            with_reducible refine x_cons ?_
            with_reducible refine x_lc ?_
            with_reducible refine x_iter ?_
            refine ⟨_, rfl, ?_⟩
            refine ⟨_, rfl, ⟨_, .inl (.inl ((s9.trans G22.sub) _ _ fa11))⟩, fun p11 np9 => ?_⟩
            have g9 := Gr.newO (o := .lst []) G22.sub np9
            have o41 := Ow.new (us := []) G22 np9
            have ne9 := o39.ne_new np9
            have ne10 := o40.ne_new np9
            have G23 := G22.step g9
            have o42 := o39.step g9
            have o43 := o40.step g9
            refine lc_lst (α := (List Int)) (fun (ts11 : List (List Int)) H6 => ∃ (F9 : Hp) (x11 : List (List Int)) (us16 : List V), forK (_law_due_c11 t5) ts11 x11 (_law_due_k12 t5 x9 next5) = some r ∧ Sub (F8) F9 ∧ Gr NA F0 H F9 H6 ∧ Ow H F9 H6 p11 us16 ∧ Rs F9 us16 x11 ∧ Ow H F9 H6 p10 us13 ∧ OwO H F9 H6 p4 (.dT us6)) (Rs_mono s9 fr20) ⟨F8, ([] : List (List Int)), _, hm, (Sub.refl _), G23, o41, Rs_nil, o42, o43⟩ (fun _ _ h => ?_) (fun t6 ts12 v13 H1 hv6 hW => ?_) (fun H1 hW => ?_)
            · obtain ⟨F9z, _, _, _, s9z, G9z, _⟩ := h
              exact G9z.sub _ _ (s9z _ _ (s9 _ _ fa11))
            · skip
              obtain ⟨F9, x11, us16, hm, s10, G24, o44, fr23, o45, o46⟩ := hW
              obtain ⟨next6, hnx6⟩ : ∃ nx, nx = fun s => forK (_law_due_c11 t5) ts12 s (_law_due_k12 t5 x9 next5) := ⟨_, rfl⟩
              have hm : (_law_due_c11 t5) x11 t6 next6 = some r := by rw [hnx6]; exact forK_c hm
              rw [_law_due_c11] at hm
              obtain ⟨a10, us17, rfl, fa13, fr24⟩ := lst_of hv6
              with_reducible refine x_gnE (σ' := ([some (.ref a1), y2, y1, some (.ref p4), some (.ref a9), some (.ref p8), none, some (.ref a10)] : L2.St)) (by with_unfolding_all rfl) ?_
              refine ⟨rfl, ?_⟩
              with_reducible refine x_test ?_
              refine useEv (.bl (!(eqT t6 t5))) (by exact (ev_neqVar (α := (List Int)) (Evl.ev_var rfl) (Evl.ev_var rfl) (RD.mono G24.sub (mk_lst (s10 _ _ fa13) (Rs_mono s10 fr24))) (RD.mono G24.sub (mk_lst ((s9.trans s10) _ _ fa12) (Rs_mono (s9.trans s10) fr22))))) (fun H7 e1 => ?_)
              have g10 := gr_ex G24.sub e1
              have G25 := G24.step g10
              have o47 := o44.step g10
              have o48 := o45.step g10
              have o49 := o46.step g10
              refine ⟨_, rfl, ?_⟩
              refine ifD (fun hc => ?_) (fun hc => ?_)
              · replace hm := itep hm hc
                refine ⟨_, rfl, ?_⟩
                obtain ⟨c6, hm⟩ := guardp hm
                have G26 := o47.mutG (o := .lst (us16 ++ [(.ref a10)])) G25
                have o50 := o47.mut (ws := us16 ++ [(.ref a10)])
                have fr25 : Rs (α := (List Int)) (F9) (us16 ++ [(.ref a10)]) (x11 ++ [t6]) := Rs_snoc fr23 (mk_lst (s10 _ _ fa13) (Rs_mono s10 fr24))
                have o51 := o48.other (ws := us16 ++ [(.ref a10)]) (Ne.symm ne9)
                have o52 := o49.other (ws := us16 ++ [(.ref a10)]) (Ne.symm ne10)
                rw [hnx6] at hm
                exact ⟨_, o47.at_, szl (by rw [Rs_len fr23]; exact c6), ⟨F9, (x11 ++ [t6]), _, hm, s10, G26, o50, fr25, o51, o52⟩⟩
              · replace hm := iten hm (bF hc)
                rw [hnx6] at hm
                exact ⟨F9, x11, _, hm, s10, G25, o47, fr23, o48, o49⟩
            · skip
              obtain ⟨F9, x11, us16, hm, s11, G27, o53, fr26, o54, o55⟩ := hW
              have hm : (_law_due_k12 t5 x9 next5) x11 = some r := forK_n hm
              rw [_law_due_k12] at hm
              with_reducible refine x_cons ?_
              refine ⟨_, rfl, ?_⟩
              obtain ⟨F10, G28, ex3, fa14, nf3⟩ := o53.frzE G27
              have o56 := o54.frzN (Ne.symm (Ne.symm ne9)) nf3
              have o57 := o55.frzN (Ne.symm (Ne.symm ne10)) nf3
              have fr27 := Rs_mono ex3 fr26
              obtain ⟨r1, hr1, hm⟩ := bindp hm
              refine ⟨_, _, _, x11, t5, r1, rfl, G28.sub, (mk_lst ((Sub.refl _) _ _ fa14) (Rs_mono (Sub.refl _) fr27)), (mk_lst (((s9.trans s11).trans ex3) _ _ fa12) (Rs_mono ((s9.trans s11).trans ex3) fr22)), hr1, fun N1 H8 v14 g11 d10  => ?_⟩
              have G29 := G28.step g11
              have o58 := o56.step g11
              have o59 := o57.step g11
              obtain rfl := bl_of d10
              refine ⟨_, rfl, ?_⟩
              refine ifD (fun hc => ?_) (fun hc => ?_)
              · replace hm := itep hm hc
                refine ⟨_, rfl, ?_⟩
                obtain ⟨c7, hm⟩ := guardp hm
                have G30 := o58.mutG (o := .lst (us13 ++ [(.ref a9)])) G29
                have o60 := o58.mut (ws := us13 ++ [(.ref a9)])
                have fr28 : Rs (α := (List Int)) (N1) (us13 ++ [(.ref a9)]) (x9 ++ [t5]) := Rs_snoc (Rs_mono g11.ex (Rs_mono ex3 (Rs_mono s11 fr21))) (mk_lst ((((s9.trans s11).trans ex3).trans g11.ex) _ _ fa12) (Rs_mono (((s9.trans s11).trans ex3).trans g11.ex) fr22))
                have o61 := o59.other (ws := us13 ++ [(.ref a9)]) (Ne.symm ne8)
                rw [hnx5] at hm
                exact ⟨_, o58.at_, szl (by rw [Rs_len (Rs_mono g11.ex (Rs_mono ex3 (Rs_mono s11 fr21)))]; exact c7), ⟨N1, (x9 ++ [t5]), _, hm, (((s9.trans s11).trans ex3).trans g11.ex), G30, o60, fr28, o61⟩⟩
              · replace hm := iten hm (bF hc)
                rw [hnx5] at hm
                exact ⟨N1, x9, _, hm, (((s9.trans s11).trans ex3).trans g11.ex), G29, o58, (Rs_mono g11.ex (Rs_mono ex3 (Rs_mono s11 fr21))), o59⟩
          · skip
            obtain ⟨F8, x9, us13, hm, s12, G31, o62, fr29, o63⟩ := hW
            have hm : (_law_due_k10 rules) x9 = some r := forK_n hm
            rw [_law_due_k10] at hm
            obtain ⟨F11, G32, ex4, fa15, nf4⟩ := o62.frzE G31
            have o64 := o63.frzN (Ne.symm (Ne.symm ne8)) nf4
            have fr30 := Rs_mono ex4 fr29
            with_reducible refine x_gnE (σ' := ([some (.ref a1), y2, y1, some (.ref p4), y3, some (.ref p8), some (.ref p10), none] : L2.St)) (by with_unfolding_all rfl) ?_
            with_reducible refine x_ret ?_
            with_reducible refine x_op ?_
            with_reducible refine x_lst ?_
            with_reducible refine x_cons ?_
            with_reducible refine x_tup ?_
            with_reducible refine x_cons ?_
            with_reducible refine x_op ?_
            with_reducible refine x_op ?_
            refine ⟨_, rfl, ?_⟩
            with_reducible refine x_c ?_
            obtain ⟨x12, hx2, hm⟩ := bindp hm
            obtain ⟨v15, hu2, d11⟩ := Rs_at (Rs_mono (((((s2.trans s6).trans s8).trans ex2).trans s12).trans ex4) fr1) hx2
            refine ⟨_, _, _, _, rfl, rfl, .inl (.inl (((((((s2.trans s6).trans s8).trans ex2).trans s12).trans ex4).trans G32.sub) _ _ fa1)), hu2, ?_⟩
            obtain ⟨a11, v16, v17, rfl, fa16, d12, d13⟩ := tup2_of d11
            obtain rfl := int_of d12
            obtain ⟨a12, us18, rfl, fa17, fr31⟩ := lst_of d13
            refine ⟨_, _, _, _, rfl, rfl, .inl (.inl (G32.sub _ _ fa16)), atI_nat (j := 0) rfl, ?_⟩
            with_reducible refine x_cons ?_
            refine ⟨_, rfl, ?_⟩
            refine ⟨szle (show 2 ≤ 16777216 from by decide), fun p12 np10 => ?_⟩
            obtain ⟨F12, g12, fa18⟩ := Gr.newE (o := .tup [(.int (x12).1), (.ref p10)]) G32.sub np10
            have G33 := G32.step g12
            have o65 := o64.step g12
            have d14 : R (α := PyData) (F12) (.ref p12) (PyData.tuple [(PyData.int (x12).1), (PyData.list (x9.map fun z => (PyData.list (z.map fun z => (PyData.int z)))))]) := (.tup ((Sub.refl _) _ _ fa18) (.cons (.int _) (.cons (mk_lst (g12.ex _ _ fa15) (Rs_mono g12.ex fr30)) .nil)))
            with_reducible refine x_cons ?_
            with_reducible refine x_c ?_
            have d15 : R (α := PyData) (F12) (.str ("many" : Str)) (PyData.str ("many" : Str)) := (.str _)
            refine ⟨szle (show 2 ≤ 16777216 from by decide), fun p13 np11 => ?_⟩
            have fr32 : Rs (α := PyData) (F12) [(.ref p12), (.str ("many" : Str))] ([(PyData.tuple [(PyData.int (x12).1), (PyData.list (x9.map fun z => (PyData.list (z.map fun z => (PyData.int z)))))]), (PyData.str ("many" : Str))] : (List PyData)) := (Rs_cons (RD.mono (Sub.refl _) d14) (Rs_cons (RD.mono (Sub.refl _) d15) Rs_nil))
            have g13 := Gr.newO (o := .lst [(.ref p12), (.str ("many" : Str))]) G33.sub np11
            have o66 := Ow.new (us := [(.ref p12), (.str ("many" : Str))]) G33 np11
            have ne11 := o65.ne_new np11
            have G34 := G33.step g13
            have o67 := o65.step g13
            with_reducible refine x_cb ?_
            with_reducible refine x_cons ?_
            refine useEv (.bl (decide ((4 : Int) < (x9.length : Int)))) (by exact (ev_cmp (ev_lenT (Evl.ev_var rfl) ((g12.ex.trans G34.sub) _ _ fa15) (Rs_mono g12.ex fr30)) Evl.ev_c)) (fun H9 e2 => ?_)
            have g14 := gr_ex G34.sub e2
            have G35 := G34.step g14
            have o68 := o67.step g14
            have o69 := o66.step g14
            refine .inr ⟨_, rfl, ?_⟩
            obtain ⟨x13, hx3, hm⟩ := bindp hm
            obtain ⟨v18, hu3, d16⟩ := Rs_at fr32 hx3
            refine ⟨_, _, _, _, rfl, rfl, .inl (.inl o69.at_), hu3, ?_⟩
            obtain rfl : _ = r := Option.some.inj hm
            exact q _ _ _ G35 (RD.mono (Sub.refl _) d16)

abbrev N__law_right : List Str := ["rules", "given", "due", "found", "one", "figure"]
theorem sc__law_right : FnScope N__law_right ["rules", "given"] (defScope s__law_right) := ⟨rfl, rfl, rfl, by decide +kernel, rfl, by decide +kernel, by decide +kernel⟩
def sp__law_right : Sp := fun vs H Q _ => ∃ (F : Hp) (v_rules : V) (v_given : V) (rules : (List (Int × (List (List Int))))) (given : (List (Int × (List (List Int))))) (r : Bool), vs = [v_rules, v_given] ∧ Sub F H ∧ R F v_rules rules ∧ R F v_given given ∧ _law_right rules given = some r ∧ ∀ N H2 v, Gr NA F H N H2 → R N v r → Q v H2
theorem ok__law_right {P : Program} {w : World} {K : PySem.W.Frag} {mg : Str → Option Value} {base : Heap} (T : Txt K mg) : FnOk P w K mg base CX0 9 T.f__law_right.f T.f__law_right.fd ["rules", "given"] sp__law_right := by
  have nd := (sc__law_right).nd
  refine T.f__law_right.F.ok sc__law_right (fun vs H Q E h => ?_) (fun cdv A0 outer s H vs Q E hr h => ?_)
  · obtain ⟨_, _, _, _, _, _, rfl, _⟩ := h
    rfl
  obtain ⟨F0, v_rules, v_given, rules, given, r, rfl, s0, f_rules, f_given, hm, q⟩ := h
  have G0 : Gr NA F0 H F0 H := Gr.refl s0
  obtain ⟨a1, us1, rfl, fa1, fr1⟩ := lst_of f_rules
  obtain ⟨a2, us2, rfl, fa2, fr2⟩ := lst_of f_given
  refine ⟨_, (pss_cons (ps_set (i := 2) nd rfl (by first | exact Or.inl rfl | exact Or.inr rfl) (pe_call (ok__law_due T) (hr.mono (by decide)) (by rfl) T.f__law_due.g T.f__law_due.F.kp T.f__law_due.b .nil pass0 (pa_cons (pv 0) pa_nil))) (pss_cons (ps_set (i := 3) nd rfl (by first | exact Or.inl rfl | exact Or.inr rfl) (pe_call (ok__law_asked T) (hr.mono (by decide)) (by rfl) T.f__law_asked.g T.f__law_asked.F.kp T.f__law_asked.b .nil pass0 (pa_cons (pv 1) (pa_cons (pv 2) pa_nil)))) (pss_cons (ps_if (pt_val (pe_callB (r := rIsi K) call_isi (by rfl) T.z_isinstance (by decide +kernel) (pa_cons (pv 2) (pa_cons (pe_bltn (v := .ty "str") (by rfl) T.z_str (by decide +kernel) rfl) pa_nil)))) (pss_one (ps_ret (pe_and (pe_cmpR (op_eqA (hu64 hr)) (pv 3) (pv 2) (nomark _)) (pe_one (pe_cmpR (op_eqT (α := (List (Int × (List (List Int))))) (by decide) (hu64 hr)) (pv 1) (pv 0) (nomark _)))))) pss_nil) (pss_cons (ps_if (PW.pt (pw_or (pt_not (pt_val (pe_callB (r := rIsi K) call_isi (by rfl) T.z_isinstance (by decide +kernel) (pa_cons (pv 3) (pa_cons (pe_bltn (v := .ty "tuple") (by rfl) T.z_tuple (by decide +kernel) rfl) pa_nil))))) (pw_or (pt_cmpR (op_neA (hu64 hr)) (pv 3) (pv 2) (nomark _)) (pw_or (pt_val (pe_callB (r := rIsi K) call_isi (by rfl) T.z_isinstance (by decide +kernel) (pa_cons (pe_ix (r := rIx K) ix_seq (pv 3) pe_int (fun _ _ => rfl)) (pa_cons (pe_bltn (v := .ty "bool") (by rfl) T.z_bool (by decide +kernel) rfl) pa_nil)))) (pw_or1 (pt_not (pt_val (pe_callB (r := rIsi K) call_isi (by rfl) T.z_isinstance (by decide +kernel) (pa_cons (pe_ix (r := rIx K) ix_seq (pv 3) pe_int (fun _ _ => rfl)) (pa_cons (pe_bltn (v := .ty "list") (by rfl) T.z_list (by decide +kernel) rfl) pa_nil)))))))))) (pss_one (ps_ret pe_bl)) pss_nil) (pss_cons (ps_for PassesOwn.never rfl (pi_list (pe_ix (r := rIx K) ix_seq (pv 3) pe_int (fun _ _ => rfl))) (pg_name (i := 4) nd rfl (by first | exact Or.inl rfl | exact Or.inr rfl)) (pss_cons (ps_if (PW.pt (pw_or (pt_not (pt_val (pe_callB (r := rIsi K) call_isi (by rfl) T.z_isinstance (by decide +kernel) (pa_cons (pv 4) (pa_cons (pe_bltn (v := .ty "list") (by rfl) T.z_list (by decide +kernel) rfl) pa_nil))))) (pw_or1 (pt_cmpR (op_inT (α := Bool) (by decide) (hu65 hr)) pe_bl (pe_lc (own := [("figure", 5)]) (g := (gName 5)) rfl nd (pi_list (pv 4)) (blkOk_by (own := [("figure", 5)]) (N := N__law_right) (sc := defScope s__law_right) (by decide +kernel)) (fun _ _ _ _ _ => pg_name (i := 5) nd rfl (Or.inl rfl)) (fun _ _ _ _ _ => pts_nil) (fun _ _ _ _ _ => (pe_callB (r := rIsi K) call_isi (by rfl) T.z_isinstance (by decide +kernel) (pa_cons (pv 5) (pa_cons (pe_bltn (v := .ty "bool") (by rfl) T.z_bool (by decide +kernel) rfl) pa_nil))))) (by rfl))))) (pss_one (ps_ret pe_bl)) pss_nil) (pss_one (ps_expr (pe_bm PySem.F.plainAttrs_list PySem.F.slot_list_append PySem.F.type_list_append mt_append (pv 4) (pa_cons pe_int pa_nil)))))) (pss_cons (ps_if (pt_cmpR (op_neA (hu64 hr)) (pe_ix (r := rIx K) ix_seq (pv 3) pe_int (fun _ _ => rfl)) (pe_lc (own := [("one", 4)]) (g := (gName 4)) rfl nd (pi_list (pe_ix (r := rIx K) ix_seq (pv 2) pe_int (fun _ _ => rfl))) (blkOk_by (own := [("one", 4)]) (N := N__law_right) (sc := defScope s__law_right) (by decide +kernel)) (fun _ _ _ _ _ => pg_name (i := 4) nd rfl (Or.inl rfl)) (fun _ _ _ _ _ => pts_nil) (fun _ _ _ _ _ => (pe_op op_cat (pv 4) (pe_lst (pa_cons pe_int pa_nil))))) (nomark _)) (pss_one (ps_ret pe_bl)) pss_nil) (pss_cons (ps_expr (pe_bm0 PySem.F.plainAttrs_list PySem.F.slot_list_clear PySem.F.type_list_clear mt_clear (pe_ix (r := rIx K) ix_seq (pv 3) pe_int (fun _ _ => rfl)))) (pss_one (ps_ret (pe_and (pe_cmpR (op_eqA (hu64 hr)) (pe_callS (ok_one_rule T) (hr.mono (by decide)) (by rfl) T.f_one_rule.g T.f_one_rule.F.kp T.f_one_rule.b (fun σ => passAt takesN σ) (pa_cons (pv 1) pa_nil)) (pv 2) (nomark _)) (pe_one (pe_cmpR (op_eqT (α := (List (Int × (List (List Int))))) (by decide) (hu64 hr)) (pv 1) (pv 0) (nomark _))))))))))))), ?_⟩
  refine x_start (σ' := ([some (.ref a1), some (.ref a2), none, none, none, none] : L2.St)) (by with_unfolding_all rfl) ?_
  rw [_law_right] at hm
  with_reducible refine x_seq ?_
  with_reducible refine x_asg ?_
  with_reducible refine x_call ?_
  with_reducible refine x_cons ?_
  refine ⟨_, rfl, ?_⟩
  obtain ⟨r1, hr1, hm⟩ := bindp hm
  refine ⟨_, _, rules, r1, rfl, G0.sub, (mk_lst ((Sub.refl _) _ _ fa1) (Rs_mono (Sub.refl _) fr1)), hr1, fun N1 H1 v1 g1 d1  => ?_⟩
  have G1 := G0.step g1
  with_reducible refine x_gnE (σ' := ([some (.ref a1), some (.ref a2), some v1, none, none, none] : L2.St)) (by with_unfolding_all rfl) ?_
  with_reducible refine x_seq ?_
  with_reducible refine x_asg ?_
  with_reducible refine x_call ?_
  with_reducible refine x_cons ?_
  refine ⟨_, rfl, ?_⟩
  with_reducible refine x_cons ?_
  refine ⟨_, rfl, ?_⟩
  obtain ⟨r2, hr2, hm⟩ := bindp hm
  refine ⟨_, _, _, given, r1, r2, rfl, G1.sub, (mk_lst (g1.ex _ _ fa2) (Rs_mono g1.ex fr2)), (RD.mono (Sub.refl _) d1), hr2, fun N2 H2 v2 g2 d2 => ?_⟩
  rcases optE_cases hm with ⟨he1, hm⟩ | ⟨x1, he1, hm⟩
  · skip
    have G2 := G1.step g2
    with_reducible refine x_gnE (σ' := ([some (.ref a1), some (.ref a2), some v1, some v2, none, none] : L2.St)) (by with_unfolding_all rfl) ?_
    with_reducible refine x_seq ?_
    with_reducible refine x_if ?_
    with_reducible refine x_B ?_
    with_reducible refine x_cb ?_
    with_reducible refine x_cons ?_
    refine ⟨_, rfl, ?_⟩
    with_reducible refine x_cons ?_
    with_reducible refine x_c ?_
    with_reducible refine x_nil ?_
    refine isi_str (K := K) G2.sub (RD.mono g2.ex d1) _ ?_
    refine ⟨_, rfl, ?_⟩
    refine ifD (fun hc => ?_) (fun hc => ?_)
    · replace hm := itep hm hc
      with_reducible refine x_ret ?_
      with_reducible refine x_andV ?_
      with_reducible refine x_op ?_
      refine ⟨_, rfl, ?_⟩
      refine ⟨_, rfl, ?_⟩
      obtain ⟨c1, hm⟩ := guardp hm
      refine eqA_use (a := r2) (b := r1) G2.sub (RD.mono (Sub.refl _) (NR_r d2)) (RD.mono g2.ex d1) c1 ?_
      refine ⟨_, rfl, ?_⟩
      refine ifD (fun hc => ?_) (fun hc => ?_)
      · replace hm := itep hm hc
        refine useEv (.bl (eqT given rules)) (by exact (ev_eqVar (α := (List (Int × (List (List Int))))) (Evl.ev_var rfl) (Evl.ev_var rfl) (RD.mono G2.sub (mk_lst ((g1.ex.trans g2.ex) _ _ fa2) (Rs_mono (g1.ex.trans g2.ex) fr2))) (RD.mono G2.sub (mk_lst ((g1.ex.trans g2.ex) _ _ fa1) (Rs_mono (g1.ex.trans g2.ex) fr1))))) (fun H3 e1 => ?_)
        have g3 := gr_ex G2.sub e1
        have G3 := G2.step g3
        obtain rfl : _ = r := Option.some.inj hm
        exact q _ _ _ G3 (.bl _)
      · replace hm := iten hm (bF hc)
        obtain rfl : _ = r := Option.some.inj hm
        exact q _ _ _ G2 (.bl _)
    · replace hm := iten hm (bF hc)
      with_reducible refine x_next ?_
      with_reducible refine x_seq ?_
      with_reducible refine x_if ?_
      with_reducible refine x_or ?_
      with_reducible refine x_not ?_
      with_reducible refine x_B ?_
      with_reducible refine x_cb ?_
      with_reducible refine x_cons ?_
      refine ⟨_, rfl, ?_⟩
      with_reducible refine x_cons ?_
      with_reducible refine x_c ?_
      with_reducible refine x_nil ?_
      refine isi_tuple (K := K) G2.sub (RD.mono (Sub.refl _) (NR_r d2)) _ ?_
      refine ⟨_, rfl, ?_⟩
      refine ifD (fun hc => ?_) (fun hc => ?_)
      · replace hm := itep hm hc
        refine iteT ?_
        with_reducible refine x_ret ?_
        with_reducible refine x_c ?_
        obtain rfl : _ = r := Option.some.inj hm
        exact q _ _ _ G2 (.bl _)
      · replace hm := iten hm (bF hc)
        with_reducible refine x_or ?_
        with_reducible refine x_test ?_
        with_reducible refine x_op ?_
        refine ⟨_, rfl, ?_⟩
        refine ⟨_, rfl, ?_⟩
        obtain ⟨c2, hm⟩ := guardp hm
        refine neA_use (a := r2) (b := r1) G2.sub (RD.mono (Sub.refl _) (NR_r d2)) (RD.mono g2.ex d1) c2 ?_
        refine ⟨_, rfl, ?_⟩
        refine ifD (fun hc => ?_) (fun hc => ?_)
        · replace hm := itep hm hc
          refine iteT ?_
          with_reducible refine x_ret ?_
          with_reducible refine x_c ?_
          obtain rfl : _ = r := Option.some.inj hm
          exact q _ _ _ G2 (.bl _)
        · replace hm := iten hm (bF hc)
          with_reducible refine x_or ?_
          with_reducible refine x_B ?_
          with_reducible refine x_cb ?_
          with_reducible refine x_cons ?_
          with_reducible refine x_op ?_
          refine ⟨_, rfl, ?_⟩
          with_reducible refine x_c ?_
          obtain ⟨x2, hx1, hm⟩ := bindp hm
          obtain ⟨x3, hx2, hm⟩ := bindp hm
          obtain ⟨v3, d3, kq1⟩ := ixD (K := K) G2.sub (RD.mono (Sub.refl _) (NR_r d2)) hx1 hx2
          refine kq1 _ ?_
          with_reducible refine x_cons ?_
          with_reducible refine x_c ?_
          with_reducible refine x_nil ?_
          refine isi_bool (K := K) G2.sub (RD.mono (Sub.refl _) d3) _ ?_
          refine ⟨_, rfl, ?_⟩
          refine ifD (fun hc => ?_) (fun hc => ?_)
          · replace hm := itep hm hc
            refine iteT ?_
            with_reducible refine x_ret ?_
            with_reducible refine x_c ?_
            obtain rfl : _ = r := Option.some.inj hm
            exact q _ _ _ G2 (.bl _)
          · replace hm := iten hm (bF hc)
            with_reducible refine x_not ?_
            with_reducible refine x_B ?_
            with_reducible refine x_cb ?_
            with_reducible refine x_cons ?_
            with_reducible refine x_op ?_
            refine ⟨_, rfl, ?_⟩
            with_reducible refine x_c ?_
            obtain ⟨x4, hx3, hm⟩ := bindp hm
            obtain ⟨x5, hx4, hm⟩ := bindp hm
            obtain ⟨v4, d4, kq2⟩ := ixD (K := K) G2.sub (RD.mono (Sub.refl _) (NR_r d2)) hx3 hx4
            refine kq2 _ ?_
            with_reducible refine x_cons ?_
            with_reducible refine x_c ?_
            with_reducible refine x_nil ?_
            refine isi_list (K := K) G2.sub (RD.mono (Sub.refl _) d4) _ ?_
            refine ⟨_, rfl, ?_⟩
            refine ifD (fun hc => ?_) (fun hc => ?_)
            · replace hm := itep hm hc
              with_reducible refine x_ret ?_
              with_reducible refine x_c ?_
              obtain rfl : _ = r := Option.some.inj hm
              exact q _ _ _ G2 (.bl _)
            · replace hm := iten hm (bF hc)
              with_reducible refine x_next ?_
              with_reducible refine x_seq ?_
              with_reducible refine x_for ?_
              with_reducible refine x_iter ?_
              with_reducible refine x_op ?_
              refine ⟨_, rfl, ?_⟩
              with_reducible refine x_c ?_
              obtain ⟨x6, hx5, hm⟩ := bindp hm
              obtain ⟨x7, hx6, hm⟩ := bindp hm
              obtain ⟨v5, d5, kq3⟩ := ixD (K := K) G2.sub (RD.mono (Sub.refl _) (NR_r d2)) hx5 hx6
              refine kq3 _ ?_
              obtain ⟨x8, hx7, hm⟩ := bindp hm
              have d6 : R (N2) v5 x8 := asLst_of (RD.mono (Sub.refl _) d5) hx7
              obtain ⟨a3, us3, rfl, fa3, fr3⟩ := lst_of d6
              refine ⟨_, rfl, ⟨_, .inl (.inl (G2.sub _ _ fa3))⟩, ?_⟩
              refine for_lst (α := PyData) (fun (ts1 : List PyData) σ H4 => ∃ (F1 : Hp) (x9 : PyData) (v6 : V) (y1 : Option V), forK (_law_right_b1) ts1 x9 (_law_right_e2 r1) = some r ∧ Sub (N2) F1 ∧ Gr NA F0 H F1 H4 ∧ R F1 v6 x9 ∧ σ = [some (.ref a1), some (.ref a2), some v1, some v6, y1, none]) (Rs_mono (Sub.refl _) fr3) ⟨N2, r2, _, _, hm, (Sub.refl _), G2, (RD.mono (Sub.refl _) (NR_r d2)), rfl⟩ (fun _ _ _ h => ?_) (fun t1 ts2 v7 σ H1 hv1 hW => ?_) (fun σ H1 hW => ?_)
              · obtain ⟨F1, x9, v6, y1, _, s9z, G9z, _⟩ := h
                exact G9z.sub _ _ (s9z _ _ ((Sub.refl _) _ _ fa3))
              · skip
                obtain ⟨F1, x9, v6, y1, hm, s1, G4, d7, rfl⟩ := hW
                obtain ⟨next1, hnx1⟩ : ∃ nx, nx = fun s => forK (_law_right_b1) ts2 s (_law_right_e2 r1) := ⟨_, rfl⟩
                have hm : (_law_right_b1) x9 t1 next1 = some r := by rw [hnx1]; exact forK_c hm
                rw [_law_right_b1] at hm
                with_reducible refine x_gnE (σ' := ([some (.ref a1), some (.ref a2), some v1, some v6, some v7, none] : L2.St)) (by with_unfolding_all rfl) ?_
                with_reducible refine x_seq ?_
                with_reducible refine x_if ?_
                with_reducible refine x_or ?_
                with_reducible refine x_not ?_
                with_reducible refine x_B ?_
                with_reducible refine x_cb ?_
                with_reducible refine x_cons ?_
                refine ⟨_, rfl, ?_⟩
                with_reducible refine x_cons ?_
                with_reducible refine x_c ?_
                with_reducible refine x_nil ?_
                refine isi_list (K := K) G4.sub (RD.mono s1 hv1) _ ?_
                refine ⟨_, rfl, ?_⟩
                refine ifD (fun hc => ?_) (fun hc => ?_)
                · replace hm := itep hm hc
                  refine iteT ?_
                  with_reducible refine x_ret ?_
                  with_reducible refine x_c ?_
                  obtain rfl : _ = r := Option.some.inj hm
                  exact q _ _ _ G4 (.bl _)
                · replace hm := iten hm (bF hc)
                  with_reducible refine x_test ?_
                  with_reducible refine x_op ?_
                  with_reducible refine x_c ?_
                  with_reducible refine x_lc ?_
                  with_reducible refine x_iter ?_
                  refine ⟨_, rfl, ?_⟩
                  obtain ⟨x10, hx8, hm⟩ := bindp hm
                  have d8 : R (F1) v7 x10 := asLst_of (RD.mono s1 hv1) hx8
                  obtain ⟨a4, us4, rfl, fa4, fr4⟩ := lst_of d8
                  refine ⟨_, rfl, ⟨_, .inl (.inl (G4.sub _ _ fa4))⟩, fun p1 np1 => ?_⟩
                  have g4 := Gr.newO (o := .lst []) G4.sub np1
                  have o1 := Ow.new (us := []) G4 np1
                  have G5 := G4.step g4
                  refine lc_lst (α := PyData) (fun (ts3 : List PyData) H5 => ∃ (F2 : Hp) (x12 : List Bool) (us6 : List V), forK (_law_right_c3) ts3 x12 (_law_right_k4) = some r ∧ Sub (F1) F2 ∧ Gr NA F0 H F2 H5 ∧ Ow H F2 H5 p1 us6 ∧ Rs F2 us6 x12) (Rs_mono (Sub.refl _) fr4) ⟨F1, ([] : List Bool), _, hm, (Sub.refl _), G5, o1, Rs_nil⟩ (fun _ _ h => ?_) (fun t2 ts4 v8 H1 hv2 hW => ?_) (fun H1 hW => ?_)
                  · obtain ⟨F9z, _, _, _, s9z, G9z, _⟩ := h
                    exact G9z.sub _ _ (s9z _ _ ((Sub.refl _) _ _ fa4))
                  · skip
                    obtain ⟨F2, x12, us6, hm, s2, G6, o2, fr5⟩ := hW
                    obtain ⟨next2, hnx2⟩ : ∃ nx, nx = fun s => forK (_law_right_c3) ts4 s (_law_right_k4) := ⟨_, rfl⟩
                    have hm : (_law_right_c3) x12 t2 next2 = some r := by rw [hnx2]; exact forK_c hm
                    rw [_law_right_c3] at hm
                    with_reducible refine x_gnE (σ' := ([some (.ref a1), some (.ref a2), some v1, some v6, some (.ref a4), some v8] : L2.St)) (by with_unfolding_all rfl) ?_
                    refine ⟨rfl, ?_⟩
                    with_reducible refine x_yes ?_
                    refine iteT ?_
                    with_reducible refine x_cb ?_
                    with_reducible refine x_cons ?_
                    refine ⟨_, rfl, ?_⟩
                    with_reducible refine x_cons ?_
                    with_reducible refine x_c ?_
                    with_reducible refine x_nil ?_
                    refine isi_bool (K := K) G6.sub (RD.mono s2 hv2) _ ?_
                    obtain ⟨c3, hm⟩ := guardp hm
                    have G7 := o2.mutG (o := .lst (us6 ++ [(.bl (isBlD t2))])) G6
                    have o3 := o2.mut (ws := us6 ++ [(.bl (isBlD t2))])
                    have fr6 : Rs (α := Bool) (F2) (us6 ++ [(.bl (isBlD t2))]) (x12 ++ [(isBlD t2)]) := Rs_snoc fr5 (.bl _)
                    rw [hnx2] at hm
                    exact ⟨_, o2.at_, szl (by rw [Rs_len fr5]; exact c3), ⟨F2, (x12 ++ [(isBlD t2)]), _, hm, s2, G7, o3, fr6⟩⟩
                  · skip
                    obtain ⟨F2, x12, us6, hm, s3, G8, o4, fr7⟩ := hW
                    have hm : (_law_right_k4) x12 = some r := forK_n hm
                    rw [_law_right_k4] at hm
                    refine ⟨_, true, x12, Sub.refl _, (RD.mono G8.sub (.bl _)), (mk_lst o4.at_ (Rs_mono G8.sub fr7)), ?_⟩
                    refine ⟨_, rfl, ?_⟩
                    refine ifD (fun hc => ?_) (fun hc => ?_)
                    · replace hm := itep hm hc
                      with_reducible refine x_ret ?_
                      with_reducible refine x_c ?_
                      obtain rfl : _ = r := Option.some.inj hm
                      exact q _ _ _ G8 (.bl _)
                    · replace hm := iten hm (bF hc)
                      with_reducible refine x_next ?_
                      exact no_none hm
              · skip
                obtain ⟨F1, x9, v6, y1, hm, s4, G9, d9, rfl⟩ := hW
                have hm : (_law_right_e2 r1) x9 = some r := forK_n hm
                rw [_law_right_e2] at hm
                with_reducible refine x_seq ?_
                with_reducible refine x_if ?_
                with_reducible refine x_test ?_
                with_reducible refine x_op ?_
                with_reducible refine x_op ?_
                refine ⟨_, rfl, ?_⟩
                with_reducible refine x_c ?_
                obtain ⟨x13, hx9, hm⟩ := bindp hm
                obtain ⟨x14, hx10, hm⟩ := bindp hm
                obtain ⟨v9, d10, kq4⟩ := ixD (K := K) G9.sub (RD.mono (Sub.refl _) d9) hx9 hx10
                refine kq4 _ ?_
                with_reducible refine x_lc ?_
                with_reducible refine x_iter ?_
                with_reducible refine x_op ?_
                refine ⟨_, rfl, ?_⟩
                with_reducible refine x_c ?_
                obtain ⟨x15, hx11, hm⟩ := bindp hm
                obtain ⟨x16, hx12, hm⟩ := bindp hm
                obtain ⟨v10, d11, kq5⟩ := ixD (K := K) G9.sub (RD.mono (g2.ex.trans s4) d1) hx11 hx12
                refine kq5 _ ?_
                obtain ⟨x17, hx13, hm⟩ := bindp hm
                have d12 : R (F1) v10 x17 := asLst_of (RD.mono (Sub.refl _) d11) hx13
                obtain ⟨a5, us7, rfl, fa5, fr8⟩ := lst_of d12
                refine ⟨_, rfl, ⟨_, .inl (.inl (G9.sub _ _ fa5))⟩, fun p2 np2 => ?_⟩
                have g5 := Gr.newO (o := .lst []) G9.sub np2
                have o5 := Ow.new (us := []) G9 np2
                have G10 := G9.step g5
                refine lc_lst (α := PyData) (fun (ts5 : List PyData) H6 => ∃ (F3 : Hp) (x19 : List (List PyData)) (us9 : List V), forK (_law_right_c5) ts5 x19 (_law_right_k6 x14) = some r ∧ Sub (F1) F3 ∧ Gr NA F0 H F3 H6 ∧ Ow H F3 H6 p2 us9 ∧ Rs F3 us9 x19) (Rs_mono (Sub.refl _) fr8) ⟨F1, ([] : List (List PyData)), _, hm, (Sub.refl _), G10, o5, Rs_nil⟩ (fun _ _ h => ?_) (fun t3 ts6 v11 H1 hv3 hW => ?_) (fun H1 hW => ?_)
                · obtain ⟨F9z, _, _, _, s9z, G9z, _⟩ := h
                  exact G9z.sub _ _ (s9z _ _ ((Sub.refl _) _ _ fa5))
                · skip
                  obtain ⟨F3, x19, us9, hm, s5, G11, o6, fr9⟩ := hW
                  obtain ⟨next3, hnx3⟩ : ∃ nx, nx = fun s => forK (_law_right_c5) ts6 s (_law_right_k6 x14) := ⟨_, rfl⟩
                  have hm : (_law_right_c5) x19 t3 next3 = some r := by rw [hnx3]; exact forK_c hm
                  rw [_law_right_c5] at hm
                  with_reducible refine x_gnE (σ' := ([some (.ref a1), some (.ref a2), some v1, some v6, some v11, none] : L2.St)) (by with_unfolding_all rfl) ?_
                  refine ⟨rfl, ?_⟩
                  with_reducible refine x_yes ?_
                  refine iteT ?_
                  with_reducible refine x_op ?_
                  refine ⟨_, rfl, ?_⟩
                  with_reducible refine x_lst ?_
                  with_reducible refine x_cons ?_
                  with_reducible refine x_c ?_
                  refine ⟨szle (show 1 ≤ 16777216 from by decide), fun p3 np3 => ?_⟩
                  have fr10 : Rs (α := Int) (F3) [(.int 0)] ([(0 : Int)] : (List Int)) := (Rs_cons (.int _) Rs_nil)
                  have g6 := Gr.newO (o := .lst [(.int 0)]) G11.sub np3
                  have o7 := Ow.new (us := [(.int 0)]) G11 np3
                  have ne1 := o6.ne_new np3
                  have G12 := G11.step g6
                  have o8 := o6.step g6
                  obtain ⟨x20, hx14, hm⟩ := bindp hm
                  have d13 : R (F3) v11 x20 := asLst_of (RD.mono s5 hv3) hx14
                  obtain ⟨a6, us10, rfl, fa6, fr11⟩ := lst_of d13
                  obtain ⟨c4, hm⟩ := guardp hm
                  refine ⟨_, _, _, _, rfl, rfl, (G12.sub _ _ fa6), o7.at_, szle (by rw [Rs_len (Rs_mono (Sub.refl _) fr11), Rs_len (Rs_any fr10)]; exact c4), fun p4 np4 => ?_⟩
                  have fr12 : Rs (α := PyData) (F3) (us10 ++ [(.int 0)]) (x20 ++ (([(0 : Int)] : (List Int)).map fun z => (PyData.int z))) := Rs_app (Rs_mono (Sub.refl _) fr11) (Rs_any fr10)
                  have g7 := Gr.newO (o := .lst (us10 ++ [(.int 0)])) G12.sub np4
                  have o9 := Ow.new (us := (us10 ++ [(.int 0)])) G12 np4
                  have ne2 := o8.ne_new np4
                  have G13 := G12.step g7
                  have o10 := o8.step g7
                  obtain ⟨F4, G14, ex1, fa7, nf1⟩ := o9.frzE G13
                  have o11 := o10.frzN (Ne.symm (Ne.symm ne2)) nf1
                  have fr13 := Rs_mono ex1 fr12
                  obtain ⟨c5, hm⟩ := guardp hm
                  have G15 := o11.mutG (o := .lst (us9 ++ [(.ref p4)])) G14
                  have o12 := o11.mut (ws := us9 ++ [(.ref p4)])
                  have fr14 : Rs (α := (List PyData)) (F4) (us9 ++ [(.ref p4)]) (x19 ++ [(x20 ++ (([(0 : Int)] : (List Int)).map fun z => (PyData.int z)))]) := Rs_snoc (Rs_mono ex1 fr9) (mk_lst ((Sub.refl _) _ _ fa7) (Rs_mono (Sub.refl _) fr13))
                  rw [hnx3] at hm
                  exact ⟨_, o11.at_, szl (by rw [Rs_len (Rs_mono ex1 fr9)]; exact c5), ⟨F4, (x19 ++ [(x20 ++ (([(0 : Int)] : (List Int)).map fun z => (PyData.int z)))]), _, hm, (s5.trans ex1), G15, o12, fr14⟩⟩
                · skip
                  obtain ⟨F3, x19, us9, hm, s6, G16, o13, fr15⟩ := hW
                  have hm : (_law_right_k6 x14) x19 = some r := forK_n hm
                  rw [_law_right_k6] at hm
                  obtain ⟨F5, G17, ex2, fa8, nf2⟩ := o13.frzE G16
                  have fr16 := Rs_mono ex2 fr15
                  have d14 : R (α := PyData) (F5) (.ref p2) (PyData.list (x19.map fun z => (PyData.list z))) := (R_anyLL (mk_lst ((Sub.refl _) _ _ fa8) (Rs_mono (Sub.refl _) fr16)))
                  obtain ⟨c6, hm⟩ := guardp hm
                  refine neA_use (a := x14) (b := (PyData.list (x19.map fun z => (PyData.list z)))) G17.sub (RD.mono (s6.trans ex2) d10) (RD.mono (Sub.refl _) d14) c6 ?_
                  refine ⟨_, rfl, ?_⟩
                  refine ifD (fun hc => ?_) (fun hc => ?_)
                  · replace hm := itep hm hc
                    with_reducible refine x_ret ?_
                    with_reducible refine x_c ?_
                    obtain rfl : _ = r := Option.some.inj hm
                    exact q _ _ _ G17 (.bl _)
                  · replace hm := iten hm (bF hc)
                    with_reducible refine x_next ?_
                    exact no_none hm
  · skip
    have d16 : NR (α := (Int × (List (List Int)))) _ _ _ x1 := RN.of d2 (un_of (NR_r d2) he1)
    obtain ⟨a7, v13, v14, rfl, fa9, d17, d18⟩ := NR_tup2_of d16
    obtain ⟨a8, us11, rfl, fa10, fr17, n01⟩ := NR_lst_of (id d18)
    obtain ⟨c7, hm⟩ := guardp hm
    obtain ⟨as1, o14, fz1, kt1⟩ := OwL.ofP G1 g2 d18 c7
    have g8 := g2.eraseL G1.sub fz1
    have G18 := G1.step g8
    have fa11 := kt1 _ _ fa9
    obtain rfl := int_of (NR_r d17)
    with_reducible refine x_gnE (σ' := ([some (.ref a1), some (.ref a2), some v1, some (.ref a7), none, none] : L2.St)) (by with_unfolding_all rfl) ?_
    with_reducible refine x_seq ?_
    with_reducible refine x_if ?_
    with_reducible refine x_B ?_
    with_reducible refine x_cb ?_
    with_reducible refine x_cons ?_
    refine ⟨_, rfl, ?_⟩
    with_reducible refine x_cons ?_
    with_reducible refine x_c ?_
    with_reducible refine x_nil ?_
    refine isi_str (K := K) G18.sub (RD.mono g8.ex d1) _ ?_
    refine ⟨_, rfl, ?_⟩
    refine ifD (fun hc => ?_) (fun hc => ?_)
    · replace hm := itep hm hc
      with_reducible refine x_ret ?_
      with_reducible refine x_andV ?_
      with_reducible refine x_op ?_
      refine ⟨_, rfl, ?_⟩
      refine ⟨_, rfl, ?_⟩
      obtain ⟨c8, hm⟩ := guardp hm
      refine eqA_use (a := (PyData.tuple [(PyData.int (((x1).1, (x1).2)).1), (PyData.list ((((x1).1, (x1).2)).2.map fun z => (PyData.list (z.map fun z => (PyData.int z)))))])) (b := r1) (Sub.refl _) (show R (α := PyData) _ _ (PyData.tuple [(PyData.int (((x1).1, (x1).2)).1), (PyData.list ((((x1).1, (x1).2)).2.map fun z => (PyData.list (z.map fun z => (PyData.int z)))))]) from (mk_tup2 (G18.sub _ _ fa11) (RD.mono G18.sub (.int _)) o14.rd)) (RD.mono G18.sub (RD.mono g8.ex d1)) c8 ?_
      refine ⟨_, rfl, ?_⟩
      refine ifD (fun hc => ?_) (fun hc => ?_)
      · replace hm := itep hm hc
        refine useEv (.bl (eqT given rules)) (by exact (ev_eqVar (α := (List (Int × (List (List Int))))) (Evl.ev_var rfl) (Evl.ev_var rfl) (RD.mono G18.sub (mk_lst ((g1.ex.trans g8.ex) _ _ fa2) (Rs_mono (g1.ex.trans g8.ex) fr2))) (RD.mono G18.sub (mk_lst ((g1.ex.trans g8.ex) _ _ fa1) (Rs_mono (g1.ex.trans g8.ex) fr1))))) (fun H7 e2 => ?_)
        have g9 := gr_ex G18.sub e2
        have G19 := G18.step g9
        have o15 := o14.step g9
        obtain rfl : _ = r := Option.some.inj hm
        exact q _ _ _ G19 (.bl _)
      · replace hm := iten hm (bF hc)
        obtain rfl : _ = r := Option.some.inj hm
        exact q _ _ _ G18 (.bl _)
    · replace hm := iten hm (bF hc)
      with_reducible refine x_next ?_
      with_reducible refine x_seq ?_
      with_reducible refine x_if ?_
      with_reducible refine x_or ?_
      with_reducible refine x_not ?_
      with_reducible refine x_B ?_
      with_reducible refine x_cb ?_
      with_reducible refine x_cons ?_
      refine ⟨_, rfl, ?_⟩
      refine ⟨_, _, _, _, true, rfl, ClsV.ty _, TyX.base (TyOf.tup (G18.sub _ _ fa11)), kit_ty (by decide +kernel), ?_⟩
      refine ⟨_, rfl, ?_⟩
      refine iteF ?_
      with_reducible refine x_or ?_
      with_reducible refine x_test ?_
      with_reducible refine x_op ?_
      refine ⟨_, rfl, ?_⟩
      refine ⟨_, rfl, ?_⟩
      obtain ⟨c9, hm⟩ := guardp hm
      refine neA_use (a := (PyData.tuple [(PyData.int (((x1).1, (x1).2)).1), (PyData.list ((((x1).1, (x1).2)).2.map fun z => (PyData.list (z.map fun z => (PyData.int z)))))])) (b := r1) (Sub.refl _) (show R (α := PyData) _ _ (PyData.tuple [(PyData.int (((x1).1, (x1).2)).1), (PyData.list ((((x1).1, (x1).2)).2.map fun z => (PyData.list (z.map fun z => (PyData.int z)))))]) from (mk_tup2 (G18.sub _ _ fa11) (RD.mono G18.sub (.int _)) o14.rd)) (RD.mono G18.sub (RD.mono g8.ex d1)) c9 ?_
      refine ⟨_, rfl, ?_⟩
      refine ifD (fun hc => ?_) (fun hc => ?_)
      · replace hm := itep hm hc
        refine iteT ?_
        with_reducible refine x_ret ?_
        with_reducible refine x_c ?_
        obtain rfl : _ = r := Option.some.inj hm
        exact q _ _ _ G18 (.bl _)
      · replace hm := iten hm (bF hc)
        with_reducible refine x_or ?_
        with_reducible refine x_B ?_
        with_reducible refine x_cb ?_
        with_reducible refine x_cons ?_
        with_reducible refine x_op ?_
        refine ⟨_, rfl, ?_⟩
        with_reducible refine x_c ?_
        refine .inr (.inl ⟨_, _, _, _, rfl, rfl, .inl (.inl (G18.sub _ _ fa11)), atI_nat (j := 0) rfl, ?_⟩)
        refine ⟨_, _, _, _, false, rfl, ClsV.ty _, TyX.base (TyOf.int _), kit_ty (by decide +kernel), ?_⟩
        refine ⟨_, rfl, ?_⟩
        refine iteF ?_
        with_reducible refine x_not ?_
        with_reducible refine x_B ?_
        with_reducible refine x_cb ?_
        with_reducible refine x_cons ?_
        with_reducible refine x_op ?_
        refine ⟨_, rfl, ?_⟩
        with_reducible refine x_c ?_
        refine .inr (.inl ⟨_, _, _, _, rfl, rfl, .inl (.inl (G18.sub _ _ fa11)), atI_nat (j := 1) rfl, ?_⟩)
        refine ⟨_, _, _, _, true, rfl, ClsV.ty _, TyX.base (TyOf.lst o14.at_), kit_ty (by decide +kernel), ?_⟩
        refine ⟨_, rfl, ?_⟩
        refine iteF ?_
        with_reducible refine x_next ?_
        with_reducible refine x_seq ?_
        with_reducible refine x_for ?_
        with_reducible refine x_iter ?_
        with_reducible refine x_op ?_
        refine ⟨_, rfl, ?_⟩
        with_reducible refine x_c ?_
        refine .inr (.inl ⟨_, _, _, _, rfl, rfl, .inl (.inl (G18.sub _ _ fa11)), atI_nat (j := 1) rfl, ?_⟩)
        refine ⟨_, rfl, ⟨_, .inl (.inl o14.at_)⟩, ?_⟩
        refine for_ll (as := as1) (fun (ts7 : List Nat) σ H8 => ∃ (F6 : Hp) (x23 : (List (List Int))) (y2 : Option V), forK (_law_right_b7) ts7 x23 (_law_right_e8 r1 given rules) = some r ∧ Sub ((eraseL N2 (a8 :: as1))) F6 ∧ Gr NA F0 H F6 H8 ∧ OwL H F6 H8 a8 as1 x23 ∧ σ = [some (.ref a1), some (.ref a2), some v1, some (.ref a7), y2, none]) ⟨_, (x1).2, _, (by rw [o14.len]; exact hm), (Sub.refl _), G18, o14, rfl⟩ (fun _ _ _ h => ?_) (fun t4 ts8 v15 σ H1 hv4 hW => ?_) (fun σ H1 hW => ?_)
        · obtain ⟨F6, x23, y2, _, s9z, G9z, q9, _⟩ := h
          exact q9.at_
        · skip
          obtain ⟨F6, x23, y2, hm, s7, G20, o16, rfl⟩ := hW
          obtain ⟨next4, hnx4⟩ : ∃ nx, nx = fun s => forK (_law_right_b7) ts8 s (_law_right_e8 r1 given rules) := ⟨_, rfl⟩
          have hm : (_law_right_b7) x23 t4 next4 = some r := by rw [hnx4]; exact forK_c hm
          rw [_law_right_b7] at hm
          obtain ⟨x24, hx17, hm⟩ := bindp hm
          with_reducible refine x_gnE (σ' := ([some (.ref a1), some (.ref a2), some v1, some (.ref a7), some (.ref v15), none] : L2.St)) (by with_unfolding_all rfl) ?_
          with_reducible refine x_seq ?_
          with_reducible refine x_if ?_
          with_reducible refine x_or ?_
          with_reducible refine x_not ?_
          with_reducible refine x_B ?_
          with_reducible refine x_cb ?_
          with_reducible refine x_cons ?_
          refine ⟨_, rfl, ?_⟩
          refine ⟨_, _, _, _, true, rfl, ClsV.ty _, TyX.base (TyOf.lst (o16.item hv4 hx17)), kit_ty (by decide +kernel), ?_⟩
          refine ⟨_, rfl, ?_⟩
          refine iteF ?_
          with_reducible refine x_test ?_
          with_reducible refine x_op ?_
          with_reducible refine x_c ?_
          with_reducible refine x_lc ?_
          with_reducible refine x_iter ?_
          refine ⟨_, rfl, ?_⟩
          refine ⟨_, rfl, ⟨_, .inl (.inl (o16.item hv4 hx17))⟩, fun p5 np5 => ?_⟩
          have g10 := Gr.newO (o := .lst []) G20.sub np5
          have o17 := Ow.new (us := []) G20 np5
          have ne3 := o16.ne_new np5
          have G21 := G20.step g10
          have o18 := o16.step g10
          refine lc_lst (α := Int) (fun (ts9 : List Int) H9 => ∃ (F7 : Hp) (x26 : List Bool) (us13 : List V), forK (_law_right_c9) ts9 x26 (_law_right_k10 x24 next4 x23 t4) = some r ∧ Sub (F6) F7 ∧ Gr NA F0 H F7 H9 ∧ Ow H F7 H9 p5 us13 ∧ Rs F7 us13 x26 ∧ OwL H F7 H9 a8 as1 x23) (int_Rs (F := F6) _) ⟨F6, ([] : List Bool), _, hm, (Sub.refl _), G21, o17, Rs_nil, o18⟩ (fun _ _ h => ?_) (fun t5 ts10 v16 H1 hv5 hW => ?_) (fun H1 hW => ?_)
          · obtain ⟨F9z, _, _, _, s9z, G9z, _, _, q9⟩ := h
            exact q9.item hv4 hx17
          · skip
            obtain ⟨F7, x26, us13, hm, s8, G22, o19, fr18, o20⟩ := hW
            obtain ⟨next5, hnx5⟩ : ∃ nx, nx = fun s => forK (_law_right_c9) ts10 s (_law_right_k10 x24 next4 x23 t4) := ⟨_, rfl⟩
            have hm : (_law_right_c9) x26 t5 next5 = some r := by rw [hnx5]; exact forK_c hm
            rw [_law_right_c9] at hm
            obtain rfl := int_of hv5
            with_reducible refine x_gnE (σ' := ([some (.ref a1), some (.ref a2), some v1, some (.ref a7), some (.ref v15), some (.int t5)] : L2.St)) (by with_unfolding_all rfl) ?_
            refine ⟨rfl, ?_⟩
            with_reducible refine x_yes ?_
            refine iteT ?_
            with_reducible refine x_cb ?_
            with_reducible refine x_cons ?_
            refine ⟨_, rfl, ?_⟩
            refine ⟨_, _, _, _, false, rfl, ClsV.ty _, TyX.base (TyOf.int _), kit_ty (by decide +kernel), ?_⟩
            obtain ⟨c10, hm⟩ := guardp hm
            have G23 := o19.mutG (o := .lst (us13 ++ [(.bl false)])) G22
            have o21 := o19.mut (ws := us13 ++ [(.bl false)])
            have fr19 : Rs (α := Bool) (F7) (us13 ++ [(.bl false)]) (x26 ++ [false]) := Rs_snoc fr18 (.bl _)
            have o22 := o20.other (ws := us13 ++ [(.bl false)]) ne3
            rw [hnx5] at hm
            exact ⟨_, o19.at_, szl (by rw [Rs_len fr18]; exact c10), ⟨F7, (x26 ++ [false]), _, hm, s8, G23, o21, fr19, o22⟩⟩
          · skip
            obtain ⟨F7, x26, us13, hm, s9, G24, o23, fr20, o24⟩ := hW
            have hm : (_law_right_k10 x24 next4 x23 t4) x26 = some r := forK_n hm
            rw [_law_right_k10] at hm
            refine ⟨_, true, x26, Sub.refl _, (RD.mono G24.sub (.bl _)), (mk_lst o23.at_ (Rs_mono G24.sub fr20)), ?_⟩
            refine ⟨_, rfl, ?_⟩
            refine ifD (fun hc => ?_) (fun hc => ?_)
            · replace hm := itep hm hc
              with_reducible refine x_ret ?_
              with_reducible refine x_c ?_
              obtain rfl : _ = r := Option.some.inj hm
              exact q _ _ _ G24 (.bl _)
            · replace hm := iten hm (bF hc)
              with_reducible refine x_next ?_
              with_reducible refine x_drop ?_
              with_reducible refine x_bm ?_
              refine ⟨_, rfl, ?_⟩
              refine ⟨.inl ⟨rfl, _, .inl (.inl (o24.item hv4 hx17))⟩, ?_⟩
              with_reducible refine x_cons ?_
              with_reducible refine x_c ?_
              obtain ⟨c11, hm⟩ := guardp hm
              refine ⟨_, _, _, rfl, rfl, (o24.item hv4 hx17), szl (by rw [List.length_map]; exact c11), ?_⟩
              have hx18 := o24.set_get (y := (x24 ++ [(0 : Int)])) hv4
              have G25 := o24.mutG (o := .lst (x24.map V.int ++ [(.int 0)])) (OwL.memA hv4) G24
              have o25 := o24.put (us := x24.map V.int ++ [(.int 0)]) (y := (x24 ++ [(0 : Int)])) hv4 (by simp)
              rw [hnx4] at hm
              exact ⟨F7, (x23.set t4 (x24 ++ [(0 : Int)])), _, hm, (s7.trans s9), G25, o25, rfl⟩
        · skip
          obtain ⟨F6, x23, y2, hm, s10, G26, o26, rfl⟩ := hW
          have hm : (_law_right_e8 r1 given rules) x23 = some r := forK_n hm
          rw [_law_right_e8] at hm
          with_reducible refine x_seq ?_
          with_reducible refine x_if ?_
          with_reducible refine x_test ?_
          with_reducible refine x_op ?_
          with_reducible refine x_op ?_
          refine ⟨_, rfl, ?_⟩
          with_reducible refine x_c ?_
          refine .inr (.inl ⟨_, _, _, _, rfl, rfl, .inl (.inl ((s10.trans G26.sub) _ _ fa11)), atI_nat (j := 1) rfl, ?_⟩)
          with_reducible refine x_lc ?_
          with_reducible refine x_iter ?_
          with_reducible refine x_op ?_
          refine ⟨_, rfl, ?_⟩
          with_reducible refine x_c ?_
          obtain ⟨x27, hx19, hm⟩ := bindp hm
          obtain ⟨x28, hx20, hm⟩ := bindp hm
          obtain ⟨v17, d19, kq7⟩ := ixD (K := K) G26.sub (RD.mono (g8.ex.trans s10) d1) hx19 hx20
          refine kq7 _ ?_
          obtain ⟨x29, hx21, hm⟩ := bindp hm
          have d20 : R (F6) v17 x29 := asLst_of (RD.mono (Sub.refl _) d19) hx21
          obtain ⟨a9, us14, rfl, fa12, fr21⟩ := lst_of d20
          refine ⟨_, rfl, ⟨_, .inl (.inl (G26.sub _ _ fa12))⟩, fun p6 np6 => ?_⟩
          have g11 := Gr.newO (o := .lst []) G26.sub np6
          have o27 := Ow.new (us := []) G26 np6
          have ne4 := o26.ne_new np6
          have G27 := G26.step g11
          have o28 := o26.step g11
          refine lc_lst (α := PyData) (fun (ts11 : List PyData) H10 => ∃ (F8 : Hp) (x31 : List (List PyData)) (us16 : List V), forK (_law_right_c11) ts11 x31 (_law_right_k12 x23 given r1 rules) = some r ∧ Sub (F6) F8 ∧ Gr NA F0 H F8 H10 ∧ Ow H F8 H10 p6 us16 ∧ Rs F8 us16 x31 ∧ OwL H F8 H10 a8 as1 x23) (Rs_mono (Sub.refl _) fr21) ⟨F6, ([] : List (List PyData)), _, hm, (Sub.refl _), G27, o27, Rs_nil, o28⟩ (fun _ _ h => ?_) (fun t6 ts12 v18 H1 hv6 hW => ?_) (fun H1 hW => ?_)
          · obtain ⟨F9z, _, _, _, s9z, G9z, _⟩ := h
            exact G9z.sub _ _ (s9z _ _ ((Sub.refl _) _ _ fa12))
          · skip
            obtain ⟨F8, x31, us16, hm, s11, G28, o29, fr22, o30⟩ := hW
            obtain ⟨next6, hnx6⟩ : ∃ nx, nx = fun s => forK (_law_right_c11) ts12 s (_law_right_k12 x23 given r1 rules) := ⟨_, rfl⟩
            have hm : (_law_right_c11) x31 t6 next6 = some r := by rw [hnx6]; exact forK_c hm
            rw [_law_right_c11] at hm
            with_reducible refine x_gnE (σ' := ([some (.ref a1), some (.ref a2), some v1, some (.ref a7), some v18, none] : L2.St)) (by with_unfolding_all rfl) ?_
            refine ⟨rfl, ?_⟩
            with_reducible refine x_yes ?_
            refine iteT ?_
            with_reducible refine x_op ?_
            refine ⟨_, rfl, ?_⟩
            with_reducible refine x_lst ?_
            with_reducible refine x_cons ?_
            with_reducible refine x_c ?_
            refine ⟨szle (show 1 ≤ 16777216 from by decide), fun p7 np7 => ?_⟩
            have fr23 : Rs (α := Int) (F8) [(.int 0)] ([(0 : Int)] : (List Int)) := (Rs_cons (.int _) Rs_nil)
            have g12 := Gr.newO (o := .lst [(.int 0)]) G28.sub np7
            have o31 := Ow.new (us := [(.int 0)]) G28 np7
            have ne5 := o29.ne_new np7
            have ne6 := o30.ne_new np7
            have G29 := G28.step g12
            have o32 := o29.step g12
            have o33 := o30.step g12
            obtain ⟨x32, hx22, hm⟩ := bindp hm
            have d21 : R (F8) v18 x32 := asLst_of (RD.mono s11 hv6) hx22
            obtain ⟨a10, us17, rfl, fa13, fr24⟩ := lst_of d21
            obtain ⟨c12, hm⟩ := guardp hm
            refine ⟨_, _, _, _, rfl, rfl, (G29.sub _ _ fa13), o31.at_, szle (by rw [Rs_len (Rs_mono (Sub.refl _) fr24), Rs_len (Rs_any fr23)]; exact c12), fun p8 np8 => ?_⟩
            have fr25 : Rs (α := PyData) (F8) (us17 ++ [(.int 0)]) (x32 ++ (([(0 : Int)] : (List Int)).map fun z => (PyData.int z))) := Rs_app (Rs_mono (Sub.refl _) fr24) (Rs_any fr23)
            have g13 := Gr.newO (o := .lst (us17 ++ [(.int 0)])) G29.sub np8
            have o34 := Ow.new (us := (us17 ++ [(.int 0)])) G29 np8
            have ne7 := o32.ne_new np8
            have ne8 := o33.ne_new np8
            have G30 := G29.step g13
            have o35 := o32.step g13
            have o36 := o33.step g13
            obtain ⟨F9, G31, ex3, fa14, nf3⟩ := o34.frzE G30
            have o37 := o35.frzN (Ne.symm (Ne.symm ne7)) nf3
            have o38 := o36.frzN ne8 nf3
            have fr26 := Rs_mono ex3 fr25
            obtain ⟨c13, hm⟩ := guardp hm
            have G32 := o37.mutG (o := .lst (us16 ++ [(.ref p8)])) G31
            have o39 := o37.mut (ws := us16 ++ [(.ref p8)])
            have fr27 : Rs (α := (List PyData)) (F9) (us16 ++ [(.ref p8)]) (x31 ++ [(x32 ++ (([(0 : Int)] : (List Int)).map fun z => (PyData.int z)))]) := Rs_snoc (Rs_mono ex3 fr22) (mk_lst ((Sub.refl _) _ _ fa14) (Rs_mono (Sub.refl _) fr26))
            have o40 := o38.other (ws := us16 ++ [(.ref p8)]) ne4
            rw [hnx6] at hm
            exact ⟨_, o37.at_, szl (by rw [Rs_len (Rs_mono ex3 fr22)]; exact c13), ⟨F9, (x31 ++ [(x32 ++ (([(0 : Int)] : (List Int)).map fun z => (PyData.int z)))]), _, hm, (s11.trans ex3), G32, o39, fr27, o40⟩⟩
          · skip
            obtain ⟨F8, x31, us16, hm, s12, G33, o41, fr28, o42⟩ := hW
            have hm : (_law_right_k12 x23 given r1 rules) x31 = some r := forK_n hm
            rw [_law_right_k12] at hm
            obtain ⟨F10, G34, ex4, fa15, nf4⟩ := o41.frzE G33
            have o43 := o42.frzN ne4 nf4
            have fr29 := Rs_mono ex4 fr28
            have d22 : R (α := PyData) (F10) (.ref p6) (PyData.list (x31.map fun z => (PyData.list z))) := (R_anyLL (mk_lst ((Sub.refl _) _ _ fa15) (Rs_mono (Sub.refl _) fr29)))
            obtain ⟨c14, hm⟩ := guardp hm
            refine neA_use (a := (PyData.list (x23.map fun z => (PyData.list (z.map fun z => (PyData.int z)))))) (b := (PyData.list (x31.map fun z => (PyData.list z)))) (Sub.refl _) (show R (α := PyData) _ _ (PyData.list (x23.map fun z => (PyData.list (z.map fun z => (PyData.int z))))) from o43.rd) (RD.mono G34.sub (RD.mono (Sub.refl _) d22)) c14 ?_
            refine ⟨_, rfl, ?_⟩
            refine ifD (fun hc => ?_) (fun hc => ?_)
            · replace hm := itep hm hc
              with_reducible refine x_ret ?_
              with_reducible refine x_c ?_
              obtain rfl : _ = r := Option.some.inj hm
              exact q _ _ _ G34 (.bl _)
            · replace hm := iten hm (bF hc)
              with_reducible refine x_next ?_
              with_reducible refine x_seq ?_
              with_reducible refine x_drop ?_
              with_reducible refine x_bm0 ?_
              with_reducible refine x_op ?_
              refine ⟨_, rfl, ?_⟩
              with_reducible refine x_c ?_
              refine .inr (.inl ⟨_, _, _, _, rfl, rfl, .inl (.inl ((((s10.trans s12).trans ex4).trans G34.sub) _ _ fa11)), atI_nat (j := 1) rfl, ?_⟩)
              refine ⟨.inl ⟨rfl, _, .inl (.inl o43.at_)⟩, ?_⟩
              refine ⟨_, _, rfl, rfl, o43.at_, ?_⟩
              have G35 := o43.mutG (o := .lst ([])) (List.mem_cons_self) G34
              have o44 := o43.clear
              with_reducible refine x_ret ?_
              with_reducible refine x_andV ?_
              with_reducible refine x_op ?_
              with_reducible refine x_callS ?_
              with_reducible refine x_cons ?_
              refine ⟨_, rfl, ?_⟩
              obtain ⟨r3, hr3, hm⟩ := bindp hm
              refine ⟨_, _, given, r3, rfl, G35.sub, (mk_lst (((((g1.ex.trans g8.ex).trans s10).trans s12).trans ex4) _ _ fa2) (Rs_mono ((((g1.ex.trans g8.ex).trans s10).trans s12).trans ex4) fr2)), hr3, fun y3 e9 N3 H11 v19 g14 d23 => ?_, fun er1 e9 N3 H11 g14 => ?_⟩
              · subst e9; rw [exB_ok] at hm
                have G36 := G35.step g14
                obtain ⟨a11, v20, v21, rfl, fa16, d24, d25⟩ := tup2_of (NR_r d23)
                obtain rfl := int_of d24
                obtain ⟨a12, us18, rfl, fa17, fr30⟩ := lst_of d25
                refine ⟨_, rfl, ?_⟩
                have d26 : R (α := PyData) (N3) (.ref a11) (PyData.tuple [(PyData.int (y3).1), (PyData.list ((y3).2.map fun z => (PyData.list (z.map fun z => (PyData.int z)))))]) := (.tup ((Sub.refl _) _ _ fa16) (.cons (.int _) (.cons (mk_lst ((Sub.refl _) _ _ fa17) (Rs_mono (Sub.refl _) fr30)) .nil)))
                obtain ⟨c15, hm⟩ := guardp hm
                refine eqA_use (a := (PyData.tuple [(PyData.int (y3).1), (PyData.list ((y3).2.map fun z => (PyData.list (z.map fun z => (PyData.int z)))))])) (b := r1) G36.sub (RD.mono (Sub.refl _) d26) (RD.mono ((((g8.ex.trans s10).trans s12).trans ex4).trans g14.ex) d1) c15 ?_
                refine ⟨_, rfl, ?_⟩
                refine ifD (fun hc => ?_) (fun hc => ?_)
                · replace hm := itep hm hc
                  refine useEv (.bl (eqT given rules)) (by exact (ev_eqVar (α := (List (Int × (List (List Int))))) (Evl.ev_var rfl) (Evl.ev_var rfl) (RD.mono G36.sub (mk_lst ((((((g1.ex.trans g8.ex).trans s10).trans s12).trans ex4).trans g14.ex) _ _ fa2) (Rs_mono (((((g1.ex.trans g8.ex).trans s10).trans s12).trans ex4).trans g14.ex) fr2))) (RD.mono G36.sub (mk_lst ((((((g1.ex.trans g8.ex).trans s10).trans s12).trans ex4).trans g14.ex) _ _ fa1) (Rs_mono (((((g1.ex.trans g8.ex).trans s10).trans s12).trans ex4).trans g14.ex) fr1))))) (fun H12 e3 => ?_)
                  have g15 := gr_ex G36.sub e3
                  have G37 := G36.step g15
                  obtain rfl : _ = r := Option.some.inj hm
                  exact q _ _ _ G37 (.bl _)
                · replace hm := iten hm (bF hc)
                  obtain rfl : _ = r := Option.some.inj hm
                  exact q _ _ _ G36 (.bl _)
              · subst e9; rw [exB_err] at hm
                have G38 := G35.step g14
                exact no_none hm

abbrev N__law_take : List Str := ["store", "many", "told", "one"]
theorem sc__law_take : FnScope N__law_take ["store", "many"] (defScope s__law_take) := ⟨rfl, rfl, rfl, by decide +kernel, rfl, by decide +kernel, by decide +kernel⟩
def sp__law_take : Sp := fun vs H Q _ => ∃ (F : Hp) (A : Addr → Prop) (dk : Addr) (st : StS) (v_many : V) (many : Int) (r : Int) (stR : StS), vs = [.ref dk, v_many] ∧ Sub F H ∧ Held A F H dk st ∧ R F v_many many ∧ _law_take st many = some (r, stR) ∧ ∀ N H2 v, Gr A F H N H2 → Held A N H2 dk stR → R N v r → Q v H2
theorem ok__law_take {P : Program} {w : World} {K : PySem.W.Frag} {mg : Str → Option Value} {base : Heap} (T : Txt K mg) : FnOk P w K mg base CX0 1 T.f__law_take.f T.f__law_take.fd ["store", "many"] sp__law_take := by
  have nd := (sc__law_take).nd
  refine T.f__law_take.F.ok sc__law_take (fun vs H Q E h => ?_) (fun cdv A0 outer s H vs Q E hr h => ?_)
  · obtain ⟨_, _, _, _, _, _, _, _, rfl, _⟩ := h
    rfl
  obtain ⟨F0, A, dk, st, v_many, many, r, stR, rfl, s0, hdk, f_many, hm, q⟩ := h
  have G0 : Gr A F0 H F0 H := Gr.refl s0
  have dk0 := HdAt.mk0 hdk
  obtain rfl := int_of f_many
  refine ⟨_, (pss_cons (ps_if (pt_cmp (pc_gt (pe_ix (r := rIxL K) ix_list (pv 0) pe_int (fun _ _ => rfl)) pe_int)) (pss_cons (ps_set (i := 2) nd rfl (by first | exact Or.inl rfl | exact Or.inr rfl) (pe_op op_mod (pe_ix (r := rIxL K) ix_list (pv 0) pe_int (fun _ _ => rfl)) (pv 1))) (pss_cons (ps_asg (pe_op op_fdivW (pe_ix (r := rIxL K) ix_list (pv 0) pe_int (fun _ _ => rfl)) (pv 1)) (pg_sub (pv 0) pe_int set_list)) (pss_one (ps_ret (pv 2))))) pss_nil) (pss_cons (ps_asg (pe_op op_add (pe_ix (r := rIxL K) ix_list (pv 0) pe_int (fun _ _ => rfl)) pe_int) (pg_sub (pv 0) pe_int set_list)) (pss_cons (ps_set (i := 3) nd rfl (by first | exact Or.inl rfl | exact Or.inr rfl) (pe_op op_mod (pe_op op_mul (pe_op op_add (pe_ix (r := rIxL K) ix_list (pv 0) pe_int (fun _ _ => rfl)) (pe_op op_mul pe_int (pe_ix (r := rIxL K) ix_list (pv 0) pe_int (fun _ _ => rfl)))) pe_int) pe_int)) (pss_cons (ps_set (i := 3) nd rfl (by first | exact Or.inl rfl | exact Or.inr rfl) (pe_op op_mod (pe_op op_mulW (pv 3) (pv 3)) pe_int)) (pss_cons (ps_set (i := 3) nd rfl (by first | exact Or.inl rfl | exact Or.inr rfl) (pe_op op_mod (pe_op op_mul (pe_op op_add (pv 3) (pe_op op_mul pe_int (pe_ix (r := rIxL K) ix_list (pv 0) pe_int (fun _ _ => rfl)))) pe_int) pe_int)) (pss_one (ps_ret (pe_op op_mod (pe_op op_fdivW (pv 3) pe_int) (pv 1))))))))), ?_⟩
  refine x_start (σ' := ([some (.ref dk), some (.int many), none, none] : L2.St)) (by with_unfolding_all rfl) ?_
  rw [_law_take] at hm
  with_reducible refine x_seq ?_
  with_reducible refine x_if ?_
  with_reducible refine x_B ?_
  with_reducible refine x_cmp ?_
  with_reducible refine x_op ?_
  refine ⟨_, rfl, ?_⟩
  with_reducible refine x_c ?_
  obtain ⟨x1, hx1, hm⟩ := bindp hm
  obtain ⟨us1, fa1, fr1⟩ := dk0.at_
  obtain ⟨v1, hu1, d1⟩ := Rs_at fr1 hx1
  refine ⟨_, _, _, _, rfl, rfl, .inl (.inl fa1), hu1, ?_⟩
  obtain rfl := int_of d1
  with_reducible refine x_c ?_
  refine ⟨_, _, rfl, rfl, ?_⟩
  refine ⟨_, rfl, ?_⟩
  refine ifD (fun hc => ?_) (fun hc => ?_)
  · replace hm := itep hm hc
    with_reducible refine x_seq ?_
    with_reducible refine x_asg ?_
    with_reducible refine x_op ?_
    with_reducible refine x_op ?_
    refine ⟨_, rfl, ?_⟩
    with_reducible refine x_c ?_
    obtain ⟨x2, hx2, hm⟩ := bindp hm
    obtain ⟨us2, fa2, fr2⟩ := dk0.at_
    obtain ⟨v2, hu2, d2⟩ := Rs_at fr2 hx2
    refine ⟨_, _, _, _, rfl, rfl, .inl (.inl fa2), hu2, ?_⟩
    obtain rfl := int_of d2
    refine ⟨_, rfl, ?_⟩
    obtain ⟨c1, hm⟩ := guardp hm
    refine ⟨_, _, rfl, rfl, c1.p, ?_⟩
    with_reducible refine x_gnE (σ' := ([some (.ref dk), some (.int many), some (.int (x2 % many)), none] : L2.St)) (by with_unfolding_all rfl) ?_
    with_reducible refine x_seq ?_
    with_reducible refine x_asg ?_
    with_reducible refine x_op ?_
    with_reducible refine x_op ?_
    refine ⟨_, rfl, ?_⟩
    with_reducible refine x_c ?_
    obtain ⟨x3, hx3, hm⟩ := bindp hm
    obtain ⟨us3, fa3, fr3⟩ := dk0.at_
    obtain ⟨v3, hu3, d3⟩ := Rs_at fr3 hx3
    refine ⟨_, _, _, _, rfl, rfl, .inl (.inl fa3), hu3, ?_⟩
    obtain rfl := int_of d3
    refine ⟨_, rfl, ?_⟩
    obtain ⟨c2, hm⟩ := guardp hm
    refine ⟨_, _, rfl, rfl, c2.w, ?_⟩
    refine ⟨_, rfl, ?_⟩
    with_reducible refine x_c ?_
    obtain ⟨us4, fa4, fr4⟩ := dk0.at_
    obtain ⟨j1, hj1, hm⟩ := bindp hm
    refine ⟨_, _, _, _, rfl, rfl, fa4, (by rw [Rs_len fr4]; exact hj1), ?_⟩
    have G1 := G0.mutA (o := .lst (us4.set j1 (.int (x3 / many)))) ((dk0.ia _).mpr rfl) dk0.nf
    have dk1 := dk0.setI (j := j1) (x := (x3 / many)) fr4 (.int _)
    with_reducible refine x_ret ?_
    refine ⟨_, rfl, ?_⟩
    obtain ⟨rfl, rfl⟩ := pairp hm
    exact q _ _ _ G1 dk1.held (.int _)
  · replace hm := iten hm (bF hc)
    with_reducible refine x_next ?_
    with_reducible refine x_seq ?_
    with_reducible refine x_asg ?_
    with_reducible refine x_op ?_
    with_reducible refine x_op ?_
    refine ⟨_, rfl, ?_⟩
    with_reducible refine x_c ?_
    obtain ⟨x4, hx4, hm⟩ := bindp hm
    obtain ⟨us5, fa5, fr5⟩ := dk0.at_
    obtain ⟨v4, hu4, d4⟩ := Rs_at fr5 hx4
    refine ⟨_, _, _, _, rfl, rfl, .inl (.inl fa5), hu4, ?_⟩
    obtain rfl := int_of d4
    with_reducible refine x_c ?_
    refine ⟨_, _, rfl, rfl, ?_⟩
    refine ⟨_, rfl, ?_⟩
    with_reducible refine x_c ?_
    obtain ⟨us6, fa6, fr6⟩ := dk0.at_
    obtain ⟨j2, hj2, hm⟩ := bindp hm
    refine ⟨_, _, _, _, rfl, rfl, fa6, (by rw [Rs_len fr6]; exact hj2), ?_⟩
    have G2 := G0.mutA (o := .lst (us6.set j2 (.int (x4 + (1 : Int))))) ((dk0.ia _).mpr rfl) dk0.nf
    have dk2 := dk0.setI (j := j2) (x := (x4 + (1 : Int))) fr6 (.int _)
    with_reducible refine x_seq ?_
    with_reducible refine x_asg ?_
    with_reducible refine x_op ?_
    with_reducible refine x_op ?_
    with_reducible refine x_op ?_
    with_reducible refine x_op ?_
    refine ⟨_, rfl, ?_⟩
    with_reducible refine x_c ?_
    obtain ⟨x5, hx5, hm⟩ := bindp hm
    obtain ⟨us7, fa7, fr7⟩ := dk2.at_
    obtain ⟨v5, hu5, d5⟩ := Rs_at fr7 hx5
    refine ⟨_, _, _, _, rfl, rfl, .inl (.inl fa7), hu5, ?_⟩
    obtain rfl := int_of d5
    with_reducible refine x_op ?_
    with_reducible refine x_c ?_
    with_reducible refine x_op ?_
    refine ⟨_, rfl, ?_⟩
    with_reducible refine x_c ?_
    obtain ⟨x6, hx6, hm⟩ := bindp hm
    obtain ⟨us8, fa8, fr8⟩ := dk2.at_
    obtain ⟨v6, hu6, d6⟩ := Rs_at fr8 hx6
    refine ⟨_, _, _, _, rfl, rfl, .inl (.inl fa8), hu6, ?_⟩
    obtain rfl := int_of d6
    refine ⟨_, _, rfl, rfl, .inl ⟨by decide, by decide⟩, ?_⟩
    refine ⟨_, _, rfl, rfl, ?_⟩
    with_reducible refine x_c ?_
    refine ⟨_, _, rfl, rfl, .inr ⟨by decide, by decide⟩, ?_⟩
    with_reducible refine x_c ?_
    refine ⟨_, _, rfl, rfl, (show (0 : Int) < (2147483647 : Int) from by decide), ?_⟩
    with_reducible refine x_gnE (σ' := ([some (.ref dk), some (.int many), none, some (.int (((x5 + ((7919 : Int) * x6)) * (48271 : Int)) % (2147483647 : Int)))] : L2.St)) (by with_unfolding_all rfl) ?_
    with_reducible refine x_seq ?_
    with_reducible refine x_asg ?_
    with_reducible refine x_op ?_
    with_reducible refine x_op ?_
    refine ⟨_, rfl, ?_⟩
    refine ⟨_, rfl, ?_⟩
    obtain ⟨c3, hm⟩ := guardp hm
    refine ⟨_, _, rfl, rfl, c3.w, ?_⟩
    with_reducible refine x_c ?_
    refine ⟨_, _, rfl, rfl, (show (0 : Int) < (2147483629 : Int) from by decide), ?_⟩
    with_reducible refine x_gnE (σ' := ([some (.ref dk), some (.int many), none, some (.int (((((x5 + ((7919 : Int) * x6)) * (48271 : Int)) % (2147483647 : Int)) * (((x5 + ((7919 : Int) * x6)) * (48271 : Int)) % (2147483647 : Int))) % (2147483629 : Int)))] : L2.St)) (by with_unfolding_all rfl) ?_
    with_reducible refine x_seq ?_
    with_reducible refine x_asg ?_
    with_reducible refine x_op ?_
    with_reducible refine x_op ?_
    with_reducible refine x_op ?_
    refine ⟨_, rfl, ?_⟩
    with_reducible refine x_op ?_
    with_reducible refine x_c ?_
    with_reducible refine x_op ?_
    refine ⟨_, rfl, ?_⟩
    with_reducible refine x_c ?_
    obtain ⟨x7, hx7, hm⟩ := bindp hm
    obtain ⟨us9, fa9, fr9⟩ := dk2.at_
    obtain ⟨v7, hu7, d7⟩ := Rs_at fr9 hx7
    refine ⟨_, _, _, _, rfl, rfl, .inl (.inl fa9), hu7, ?_⟩
    obtain rfl := int_of d7
    refine ⟨_, _, rfl, rfl, .inl ⟨by decide, by decide⟩, ?_⟩
    refine ⟨_, _, rfl, rfl, ?_⟩
    with_reducible refine x_c ?_
    refine ⟨_, _, rfl, rfl, .inr ⟨by decide, by decide⟩, ?_⟩
    with_reducible refine x_c ?_
    refine ⟨_, _, rfl, rfl, (show (0 : Int) < (2147483587 : Int) from by decide), ?_⟩
    with_reducible refine x_gnE (σ' := ([some (.ref dk), some (.int many), none, some (.int ((((((((x5 + ((7919 : Int) * x6)) * (48271 : Int)) % (2147483647 : Int)) * (((x5 + ((7919 : Int) * x6)) * (48271 : Int)) % (2147483647 : Int))) % (2147483629 : Int)) + ((40692 : Int) * x7)) * (69621 : Int)) % (2147483587 : Int)))] : L2.St)) (by with_unfolding_all rfl) ?_
    with_reducible refine x_ret ?_
    with_reducible refine x_op ?_
    with_reducible refine x_op ?_
    refine ⟨_, rfl, ?_⟩
    with_reducible refine x_c ?_
    refine ⟨_, _, rfl, rfl, (show Dv ((8 : Int)) from by decide +kernel).w, ?_⟩
    refine ⟨_, rfl, ?_⟩
    obtain ⟨c4, hm⟩ := guardp hm
    refine ⟨_, _, rfl, rfl, c4.p, ?_⟩
    obtain ⟨rfl, rfl⟩ := pairp hm
    exact q _ _ _ G2 dk2.held (.int _)

abbrev N__law_stretch : List Str := ["store", "base", "few", "many", "k"]
theorem sc__law_stretch : FnScope N__law_stretch ["store", "base", "few"] (defScope s__law_stretch) := ⟨rfl, rfl, rfl, by decide +kernel, rfl, by decide +kernel, by decide +kernel⟩
def sp__law_stretch : Sp := fun vs H Q _ => ∃ (F : Hp) (A : Addr → Prop) (dk : Addr) (st : StS) (v_base : V) (v_few : V) (base : Int) (few : Int) (r : (List Int)) (stR : StS), vs = [.ref dk, v_base, v_few] ∧ Sub F H ∧ Held A F H dk st ∧ R F v_base base ∧ R F v_few few ∧ _law_stretch st base few = some (r, stR) ∧ ∀ N H2 v, Gr A F H N H2 → Held A N H2 dk stR → R N v r → Q v H2
theorem ok__law_stretch {P : Program} {w : World} {K : PySem.W.Frag} {mg : Str → Option Value} {base : Heap} (T : Txt K mg) : FnOk P w K mg base CX0 2 T.f__law_stretch.f T.f__law_stretch.fd ["store", "base", "few"] sp__law_stretch := by
  have nd := (sc__law_stretch).nd
  refine T.f__law_stretch.F.ok sc__law_stretch (fun vs H Q E h => ?_) (fun cdv A0 outer s H vs Q E hr h => ?_)
  · obtain ⟨_, _, _, _, _, _, _, _, _, _, rfl, _⟩ := h
    rfl
  obtain ⟨F0, A, dk, st, v_base, v_few, base, few, r, stR, rfl, s0, hdk, f_base, f_few, hm, q⟩ := h
  have G0 : Gr A F0 H F0 H := Gr.refl s0
  have dk0 := HdAt.mk0 hdk
  obtain rfl := int_of f_base
  obtain rfl := int_of f_few
  refine ⟨_, (pss_cons (ps_set (i := 3) nd rfl (by first | exact Or.inl rfl | exact Or.inr rfl) (pe_op op_add pe_int (pe_call (ok__law_take T) (hr.mono (by decide)) (by rfl) T.f__law_take.g T.f__law_take.F.kp T.f__law_take.b .nil pass0 (pa_cons (pv 0) (pa_cons pe_int pa_nil))))) (pss_one (ps_ret (pe_lc (own := [("k", 4)]) (g := (gName 4)) rfl nd (pi_range1 (by rfl) T.z_range (pa_cons (pv 3) pa_nil)) (blkOk_by (own := [("k", 4)]) (N := N__law_stretch) (sc := defScope s__law_stretch) (by decide +kernel)) (fun _ _ _ _ _ => pg_name (i := 4) nd rfl (Or.inl rfl)) (fun _ _ _ _ _ => pts_nil) (fun _ _ _ _ _ => (pe_call (ok__law_take T) (hr.mono (by decide)) (by rfl) T.f__law_take.g T.f__law_take.F.kp T.f__law_take.b .nil pass0 (pa_cons (pv 0) (pa_cons (pe_ix (r := rIxL K) ix_list (pe_lst (pa_cons (pv 2) (pa_cons (pv 2) (pa_cons (pv 1) pa_nil)))) (pe_call (ok__law_take T) (hr.mono (by decide)) (by rfl) T.f__law_take.g T.f__law_take.F.kp T.f__law_take.b .nil pass0 (pa_cons (pv 0) (pa_cons pe_int pa_nil))) (fun _ _ => rfl)) pa_nil)))))))), ?_⟩
  refine x_start (σ' := ([some (.ref dk), some (.int base), some (.int few), none, none] : L2.St)) (by with_unfolding_all rfl) ?_
  rw [_law_stretch] at hm
  with_reducible refine x_seq ?_
  with_reducible refine x_asg ?_
  with_reducible refine x_op ?_
  with_reducible refine x_c ?_
  with_reducible refine x_call ?_
  with_reducible refine x_cons ?_
  refine ⟨_, rfl, ?_⟩
  with_reducible refine x_cons ?_
  with_reducible refine x_c ?_
  obtain ⟨⟨r1, st1⟩, hr1, hm⟩ := bindp hm
  refine ⟨_, _, _, _, _, (4 : Int), r1, st1, rfl, G0.sub, dk0.held, (.int _), hr1, fun N1 H1 v1 g1 dk1 d1 => ?_⟩
  have G1 := G0.trans g1
  have dk2 := dk0.stepA g1 dk1
  obtain rfl := int_of d1
  refine ⟨_, _, rfl, rfl, ?_⟩
  with_reducible refine x_gnE (σ' := ([some (.ref dk), some (.int base), some (.int few), some (.int ((1 : Int) + r1)), none] : L2.St)) (by with_unfolding_all rfl) ?_
  with_reducible refine x_ret ?_
  with_reducible refine x_lc ?_
  with_reducible refine x_rng1 ?_
  with_reducible refine x_cons ?_
  refine ⟨_, rfl, ?_⟩
  obtain ⟨c1, hm⟩ := guardp hm
  refine ⟨_, rfl, c1.lo, c1.hi, fun p1 np1 => ?_⟩
  have g2 := Gr.newO (o := .lst []) G1.sub np1
  have o1 := Ow.new (us := []) G1 np1
  have G2 := G1.step g2
  have dk3 := dk2.step g2
  refine lc_rng (lo := 0) (hi := ((1 : Int) + r1)) (by rw [Int.sub_zero]) (fun (ts1 : List Int) H2 => ∃ (F1 : Hp) (st2 : StS) (x2 : List Int) (us2 : List V), forK (_law_stretch_c1 few base) ts1 (x2, st2) (_law_stretch_k2) = some (r, stR) ∧ Sub (N1) F1 ∧ Gr A F0 H F1 H2 ∧ Ow H F1 H2 p1 us2 ∧ Rs F1 us2 x2 ∧ HdAt A H F1 H2 dk st2) ⟨N1, _, ([] : List Int), _, hm, (Sub.refl _), G2, o1, Rs_nil, dk3⟩ (fun t1 ts2 H1 hW => ?_) (fun H1 hW => ?_)
  · skip
    obtain ⟨F1, st2, x2, us2, hm, s1, G3, o2, fr1, dk4⟩ := hW
    obtain ⟨next1, hnx1⟩ : ∃ nx, nx = fun s => forK (_law_stretch_c1 few base) ts2 s (_law_stretch_k2) := ⟨_, rfl⟩
    have hm : (_law_stretch_c1 few base) (x2, st2) t1 next1 = some (r, stR) := by rw [hnx1]; exact forK_c hm
    rw [_law_stretch_c1] at hm
    with_reducible refine x_gnE (σ' := ([some (.ref dk), some (.int base), some (.int few), some (.int ((1 : Int) + r1)), some (.int t1)] : L2.St)) (by with_unfolding_all rfl) ?_
    refine ⟨rfl, ?_⟩
    with_reducible refine x_yes ?_
    refine iteT ?_
    with_reducible refine x_call ?_
    with_reducible refine x_cons ?_
    refine ⟨_, rfl, ?_⟩
    with_reducible refine x_cons ?_
    with_reducible refine x_op ?_
    with_reducible refine x_lst ?_
    with_reducible refine x_cons ?_
    refine ⟨_, rfl, ?_⟩
    with_reducible refine x_cons ?_
    refine ⟨_, rfl, ?_⟩
    with_reducible refine x_cons ?_
    refine ⟨_, rfl, ?_⟩
    refine ⟨szle (show 3 ≤ 16777216 from by decide), fun p2 np2 => ?_⟩
    have fr2 : Rs (α := Int) (F1) [(.int few), (.int few), (.int base)] ([few, few, base] : (List Int)) := (Rs_cons (.int _) (Rs_cons (.int _) (Rs_cons (.int _) Rs_nil)))
    have g3 := Gr.newO (o := .lst [(.int few), (.int few), (.int base)]) G3.sub np2
    have o3 := Ow.new (us := [(.int few), (.int few), (.int base)]) G3 np2
    have ne1 := o2.ne_new np2
    have G4 := G3.step g3
    have o4 := o2.step g3
    have dk5 := dk4.step g3
    with_reducible refine x_call ?_
    with_reducible refine x_cons ?_
    refine ⟨_, rfl, ?_⟩
    with_reducible refine x_cons ?_
    with_reducible refine x_c ?_
    obtain ⟨⟨r2, st3⟩, hr2, hm⟩ := bindp hm
    refine ⟨_, _, _, _, _, (3 : Int), r2, st3, rfl, G4.sub, dk5.held, (.int _), hr2, fun N2 H3 v3 g4 dk6 d2 => ?_⟩
    have G5 := G4.trans g4
    have o5 := o4.stepA g4 (dk5.outA o4)
    have o6 := o3.stepA g4 (dk5.outA o3)
    have dk7 := dk5.stepA g4 dk6
    obtain rfl := int_of d2
    obtain ⟨x3, hx1, hm⟩ := bindp hm
    obtain ⟨v4, hu1, d3⟩ := Rs_at (Rs_mono g4.ex fr2) hx1
    refine ⟨_, _, _, _, rfl, rfl, .inl (.inl o6.at_), hu1, ?_⟩
    obtain rfl := int_of d3
    obtain ⟨⟨r3, st4⟩, hr3, hm⟩ := bindp hm
    refine ⟨_, _, _, _, _, x3, r3, st4, rfl, G5.sub, dk7.held, (.int _), hr3, fun N3 H4 v5 g5 dk8 d4 => ?_⟩
    have G6 := G5.trans g5
    have o7 := o5.stepA g5 (dk7.outA o5)
    have dk9 := dk7.stepA g5 dk8
    obtain rfl := int_of d4
    obtain ⟨c2, hm⟩ := guardp hm
    have G7 := o7.mutG (o := .lst (us2 ++ [(.int r3)])) G6
    have o8 := o7.mut (ws := us2 ++ [(.int r3)])
    have fr3 : Rs (α := Int) (N3) (us2 ++ [(.int r3)]) (x2 ++ [r3]) := Rs_snoc (Rs_mono g5.ex (Rs_mono g4.ex fr1)) (.int _)
    have dk10 := dk9.mut (ws := us2 ++ [(.int r3)]) o7
    rw [hnx1] at hm
    exact ⟨_, o7.at_, szl (by rw [Rs_len (Rs_mono g5.ex (Rs_mono g4.ex fr1))]; exact c2), ⟨N3, _, (x2 ++ [r3]), _, hm, ((s1.trans g4.ex).trans g5.ex), G7, o8, fr3, dk10⟩⟩
  · skip
    obtain ⟨F1, st2, x2, us2, hm, s2, G8, o9, fr4, dk11⟩ := hW
    have hm : (_law_stretch_k2) (x2, st2) = some (r, stR) := forK_n hm
    rw [_law_stretch_k2] at hm
    obtain ⟨F2, G9, ex1, fa1, nf1⟩ := o9.frzE G8
    have fr5 := Rs_mono ex1 fr4
    have dk12 := dk11.frzN o9 ex1 nf1
    obtain ⟨rfl, rfl⟩ := pairp hm
    exact q _ _ _ G9 dk12.held (mk_lst ((Sub.refl _) _ _ fa1) (Rs_mono (Sub.refl _) fr5))

abbrev N__law_bad : List Str := ["store", "base", "few", "known", "k", "one"]
theorem sc__law_bad : FnScope N__law_bad ["store", "base"] (defScope s__law_bad) := ⟨rfl, rfl, rfl, by decide +kernel, rfl, by decide +kernel, by decide +kernel⟩
def sp__law_bad : Sp := fun vs H Q _ => ∃ (F : Hp) (A : Addr → Prop) (dk : Addr) (st : StS) (v_base : V) (base : Int) (r : (List (List Int))) (stR : StS), vs = [.ref dk, v_base] ∧ Sub F H ∧ Held A F H dk st ∧ R F v_base base ∧ _law_bad st base = some (r, stR) ∧ ∀ N H2 v, Gr A F H N H2 → Held A N H2 dk stR → R N v r → Q v H2
theorem ok__law_bad {P : Program} {w : World} {K : PySem.W.Frag} {mg : Str → Option Value} {base : Heap} (T : Txt K mg) : FnOk P w K mg base CX0 3 T.f__law_bad.f T.f__law_bad.fd ["store", "base"] sp__law_bad := by
  have nd := (sc__law_bad).nd
  refine T.f__law_bad.F.ok sc__law_bad (fun vs H Q E h => ?_) (fun cdv A0 outer s H vs Q E hr h => ?_)
  · obtain ⟨_, _, _, _, _, _, _, _, rfl, _⟩ := h
    rfl
  obtain ⟨F0, A, dk, st, v_base, base, r, stR, rfl, s0, hdk, f_base, hm, q⟩ := h
  have G0 : Gr A F0 H F0 H := Gr.refl s0
  have dk0 := HdAt.mk0 hdk
  obtain rfl := int_of f_base
  refine ⟨_, (pss_cons (ps_set (i := 2) nd rfl (by first | exact Or.inl rfl | exact Or.inr rfl) (pe_callB (call_min2 rfl) (by rfl) T.z_min (by decide +kernel) (pa_cons (pv 1) (pa_cons (pe_ix (r := rIxL K) ix_list (pe_lst (pa_cons pe_int (pa_cons pe_int (pa_cons (pv 1) pa_nil)))) (pe_call (ok__law_take T) (hr.mono (by decide)) (by rfl) T.f__law_take.g T.f__law_take.F.kp T.f__law_take.b .nil pass0 (pa_cons (pv 0) (pa_cons pe_int pa_nil))) (fun _ _ => rfl)) pa_nil)))) (pss_cons (ps_set (i := 3) nd rfl (by first | exact Or.inl rfl | exact Or.inr rfl) pe_dnewT) (pss_cons (ps_for PassesOwn.never rfl (pi_range1 (by rfl) T.z_range (pa_cons (pe_call (ok__law_take T) (hr.mono (by decide)) (by rfl) T.f__law_take.g T.f__law_take.F.kp T.f__law_take.b .nil pass0 (pa_cons (pv 0) (pa_cons pe_int pa_nil))) pa_nil)) (pg_name (i := 4) nd rfl (by first | exact Or.inl rfl | exact Or.inr rfl)) (pss_cons (ps_set (i := 5) nd rfl (by first | exact Or.inl rfl | exact Or.inr rfl) (pe_call (ok__law_stretch T) (hr.mono (by decide)) (by rfl) T.f__law_stretch.g T.f__law_stretch.F.kp T.f__law_stretch.b .nil pass0 (pa_cons (pv 0) (pa_cons (pv 1) (pa_cons (pv 2) pa_nil))))) (pss_one (ps_dput (hu_of hr) (pv 3) (pe_callTy (r := rTupL K) call_tupL (by rfl) T.z_tuple (by decide +kernel) (pa_cons (pv 5) pa_nil)) pe_bl (by rfl))))) (pss_one (ps_ret (pe_lc (own := [("one", 5)]) (g := (gName 5)) rfl nd (pi_list (pe_callB (r := rSortDT) (call_sortedDT (by rfl) (hu200' hr)) (by rfl) T.z_sorted (by decide +kernel) (pa_cons (pv 3) pa_nil))) (blkOk_by (own := [("one", 5)]) (N := N__law_bad) (sc := defScope s__law_bad) (by decide +kernel)) (fun _ _ _ _ _ => pg_name (i := 5) nd rfl (Or.inl rfl)) (fun _ _ _ _ _ => pts_nil) (fun _ _ _ _ _ => (pe_callTy (r := rListT K) call_listT (by rfl) T.z_list (by decide +kernel) (pa_cons (pv 5) pa_nil))))))))), ?_⟩
  refine x_start (σ' := ([some (.ref dk), some (.int base), none, none, none, none] : L2.St)) (by with_unfolding_all rfl) ?_
  rw [_law_bad] at hm
  with_reducible refine x_seq ?_
  with_reducible refine x_asg ?_
  with_reducible refine x_cb ?_
  with_reducible refine x_cons ?_
  refine ⟨_, rfl, ?_⟩
  with_reducible refine x_cons ?_
  with_reducible refine x_op ?_
  with_reducible refine x_lst ?_
  with_reducible refine x_cons ?_
  with_reducible refine x_c ?_
  with_reducible refine x_cons ?_
  with_reducible refine x_c ?_
  with_reducible refine x_cons ?_
  refine ⟨_, rfl, ?_⟩
  refine ⟨szle (show 3 ≤ 16777216 from by decide), fun p1 np1 => ?_⟩
  have fr1 : Rs (α := Int) (F0) [(.int 2), (.int 3), (.int base)] ([(2 : Int), (3 : Int), base] : (List Int)) := (Rs_cons (.int _) (Rs_cons (.int _) (Rs_cons (.int _) Rs_nil)))
  have g1 := Gr.newO (o := .lst [(.int 2), (.int 3), (.int base)]) G0.sub np1
  have o1 := Ow.new (us := [(.int 2), (.int 3), (.int base)]) G0 np1
  have G1 := G0.step g1
  have dk1 := dk0.step g1
  with_reducible refine x_call ?_
  with_reducible refine x_cons ?_
  refine ⟨_, rfl, ?_⟩
  with_reducible refine x_cons ?_
  with_reducible refine x_c ?_
  obtain ⟨⟨r1, st1⟩, hr1, hm⟩ := bindp hm
  refine ⟨_, _, _, _, _, (3 : Int), r1, st1, rfl, G1.sub, dk1.held, (.int _), hr1, fun N1 H1 v1 g2 dk2 d1 => ?_⟩
  have G2 := G1.trans g2
  have o2 := o1.stepA g2 (dk1.outA o1)
  have dk3 := dk1.stepA g2 dk2
  obtain rfl := int_of d1
  obtain ⟨x1, hx1, hm⟩ := bindp hm
  obtain ⟨v2, hu1, d2⟩ := Rs_at (Rs_mono g2.ex fr1) hx1
  refine ⟨_, _, _, _, rfl, rfl, .inl (.inl o2.at_), hu1, ?_⟩
  obtain rfl := int_of d2
  refine ⟨_, _, rfl, ?_⟩
  with_reducible refine x_gnE (σ' := ([some (.ref dk), some (.int base), some (.int (if x1 < base then x1 else base)), none, none, none] : L2.St)) (by with_unfolding_all rfl) ?_
  with_reducible refine x_seq ?_
  with_reducible refine x_asg ?_
  refine fun p2 np2 => ?_
  have g3 := Gr.newO (o := .dT []) G2.sub np2
  have o3 := OwO.new (o := .dT []) G2 np2
  have G3 := G2.step g3
  have dk4 := dk3.step g3
  with_reducible refine x_gnE (σ' := ([some (.ref dk), some (.int base), some (.int (if x1 < base then x1 else base)), some (.ref p2), none, none] : L2.St)) (by with_unfolding_all rfl) ?_
  with_reducible refine x_seq ?_
  with_reducible refine x_for ?_
  with_reducible refine x_rng1 ?_
  with_reducible refine x_cons ?_
  with_reducible refine x_call ?_
  with_reducible refine x_cons ?_
  refine ⟨_, rfl, ?_⟩
  with_reducible refine x_cons ?_
  with_reducible refine x_c ?_
  obtain ⟨⟨r2, st2⟩, hr2, hm⟩ := bindp hm
  refine ⟨_, _, _, _, _, (5 : Int), r2, st2, rfl, G3.sub, dk4.held, (.int _), hr2, fun N2 H2 v3 g4 dk5 d3 => ?_⟩
  have G4 := G3.trans g4
  have o4 := o3.stepA g4 (dk4.outO o3)
  have dk6 := dk4.stepA g4 dk5
  obtain rfl := int_of d3
  obtain ⟨c1, hm⟩ := guardp hm
  refine ⟨_, rfl, c1.lo, c1.hi, ?_⟩
  refine for_rng (lo := 0) (hi := r2) (by rw [Int.sub_zero]) (fun (ts1 : List Int) σ H3 => ∃ (F1 : Hp) (st3 : StS) (x2 : (List (TI × Bool))) (p3 : Addr) (us1 : List ((List Key) × V)) (y1 : Option V) (y2 : Option V), forK (_law_bad_b1 base x1) ts1 (x2, st3) (_law_bad_e2) = some (r, stR) ∧ Sub (N2) F1 ∧ Gr A F0 H F1 H3 ∧ OwO H F1 H3 p3 (.dT us1) ∧ RsK keyT F1 us1 x2 ∧ HdAt A H F1 H3 dk st3 ∧ σ = [some (.ref dk), some (.int base), some (.int (if x1 < base then x1 else base)), some (.ref p3), y1, y2]) ⟨N2, _, ([] : (List (TI × Bool))), _, _, _, _, hm, (Sub.refl _), G4, o4, (RsK_mono g4.ex (RsK_nil (key := keyT))), dk6, rfl⟩ (fun t1 ts2 σ H1 hW => ?_) (fun σ H1 hW => ?_)
  · skip
    obtain ⟨F1, st3, x2, p3, us1, y1, y2, hm, s1, G5, o5, fr2, dk7, rfl⟩ := hW
    obtain ⟨next1, hnx1⟩ : ∃ nx, nx = fun s => forK (_law_bad_b1 base x1) ts2 s (_law_bad_e2) := ⟨_, rfl⟩
    have hm : (_law_bad_b1 base x1) (x2, st3) t1 next1 = some (r, stR) := by rw [hnx1]; exact forK_c hm
    rw [_law_bad_b1] at hm
    with_reducible refine x_gnE (σ' := ([some (.ref dk), some (.int base), some (.int (if x1 < base then x1 else base)), some (.ref p3), some (.int t1), y2] : L2.St)) (by with_unfolding_all rfl) ?_
    with_reducible refine x_seq ?_
    with_reducible refine x_asg ?_
    with_reducible refine x_call ?_
    with_reducible refine x_cons ?_
    refine ⟨_, rfl, ?_⟩
    with_reducible refine x_cons ?_
    refine ⟨_, rfl, ?_⟩
    with_reducible refine x_cons ?_
    refine ⟨_, rfl, ?_⟩
    obtain ⟨⟨r3, st4⟩, hr3, hm⟩ := bindp hm
    refine ⟨_, _, _, _, _, _, base, (if x1 < base then x1 else base), r3, st4, rfl, G5.sub, dk7.held, (.int _), (.int _), hr3, fun N3 H4 v5 g5 dk8 d4 => ?_⟩
    have G6 := G5.trans g5
    have o6 := o5.stepA g5 (dk7.outO o5)
    have dk9 := dk7.stepA g5 dk8
    obtain ⟨a1, us2, rfl, fa1, fr3⟩ := lst_of d4
    with_reducible refine x_gnE (σ' := ([some (.ref dk), some (.int base), some (.int (if x1 < base then x1 else base)), some (.ref p3), some (.int t1), some (.ref a1)] : L2.St)) (by with_unfolding_all rfl) ?_
    with_reducible refine x_dput ?_
    with_reducible refine x_c ?_
    refine ⟨_, rfl, ?_⟩
    with_reducible refine x_cb ?_
    with_reducible refine x_cons ?_
    refine ⟨_, rfl, ?_⟩
    have fr4 := (Rs_mono (Sub.refl _) fr3)
    refine ⟨_, _, rfl, .inl ⟨.inl (.inl (G6.sub _ _ fa1)), fun p4 np3 => ?_⟩⟩
    obtain ⟨F2, g6, fa2⟩ := Gr.newE (o := .tup us2) G6.sub np3
    have G7 := G6.step g6
    have o7 := o6.step g6
    have dk10 := dk9.step g6
    have d5 := mk_tupi (xs := r3) fa2 (Rs_mono g6.ex fr4)
    have ka1 := tupi_at (xs := r3) fa2 (Rs_mono g6.ex fr4)
    obtain ⟨c2, hm⟩ := guardp hm
    refine ⟨_, _, rfl, DPut.t (k := keyT (⟨r3⟩ : TI)) o7.at_ (G7.sub _ _ ka1) (szl (by rw [RsK_len (RsK_mono g6.ex (RsK_mono g5.ex fr2))]; exact c2)), ?_⟩
    have G8 := o7.mutG (o' := .dT (putK us1 (keyT (⟨r3⟩ : TI)) (.bl true))) G7
    have o8 := o7.mut (o' := .dT (putK us1 (keyT (⟨r3⟩ : TI)) (.bl true)))
    have dk11 := dk10.mutO (o' := .dT (putK us1 (keyT (⟨r3⟩ : TI)) (.bl true))) o7
    have fr5 := RsK_put keyT_inj (k := (⟨r3⟩ : TI)) (v := (.bl true)) (y := true) (.bl _) (RsK_mono g6.ex (RsK_mono g5.ex fr2))
    rw [hnx1] at hm
    exact ⟨F2, _, (putT x2 (⟨r3⟩ : TI) true), _, _, _, _, hm, ((s1.trans g5.ex).trans g6.ex), G8, o8, fr5, dk11, rfl⟩
  · skip
    obtain ⟨F1, st3, x2, p3, us1, y1, y2, hm, s2, G9, o9, fr6, dk12, rfl⟩ := hW
    have hm : (_law_bad_e2) (x2, st3) = some (r, stR) := forK_n hm
    rw [_law_bad_e2] at hm
    with_reducible refine x_ret ?_
    with_reducible refine x_lc ?_
    with_reducible refine x_iter ?_
    with_reducible refine x_cb ?_
    with_reducible refine x_cons ?_
    refine ⟨_, rfl, ?_⟩
    obtain ⟨c3, hm⟩ := guardp hm
    obtain ⟨c4, hm⟩ := guardp hm
    refine ⟨_, _, (x2.map (·.1)), rfl, o9.at_, RsK_keys fr6, c3, c4, fun p5 bs1 np4 tk1 => ?_⟩
    have g7 := Gr.newO (o := .lst (bs1.map V.ref)) G9.sub np4
    have o10 := Ow.new (us := (bs1.map V.ref)) G9 np4
    have ne1 := o9.ne_new np4
    have G10 := G9.step g7
    have o11 := o9.step g7
    have dk13 := dk12.step g7
    have tk2 := tk1.new (o := .lst (bs1.map V.ref)) np4
    refine ⟨_, rfl, ⟨_, .inl (.inl o10.at_)⟩, fun p6 np5 => ?_⟩
    have g8 := Gr.newO (o := .lst []) G10.sub np5
    have o12 := Ow.new (us := []) G10 np5
    have ne2 := o11.ne_new np5
    have ne3 := o10.ne_new np5
    have G11 := G10.step g8
    have o13 := o11.step g8
    have o14 := o10.step g8
    have tk3 := tk2.gr g8
    have dk14 := dk13.step g8
    refine lc_tk (bs := bs1) (fun (ts3 : List TI) H5 => ∃ (F3 : Hp) (st5 : StS) (x4 : List (List Int)) (us4 : List V), forK (_law_bad_c3) ts3 (x4, st5) (_law_bad_k4) = some (r, stR) ∧ Sub (F1) F3 ∧ Gr A F0 H F3 H5 ∧ Ow H F3 H5 p6 us4 ∧ Rs F3 us4 x4 ∧ TK H5 bs1 (sortT (x2.map (·.1))) ∧ OwO H F3 H5 p3 (.dT us1) ∧ Ow H F3 H5 p5 (bs1.map V.ref) ∧ HdAt A H F3 H5 dk st5) ⟨F1, _, ([] : List (List Int)), _, hm, (Sub.refl _), G11, o12, Rs_nil, tk3, o13, o14, dk14⟩ (fun _ _ h => ?_) (fun t2 ts4 v6 H1 hv2 hW => ?_) (fun H1 hW => ?_)
    · obtain ⟨F9z, _, _, _, _, s9z, G9z, _, _, k9, _, q9, _⟩ := h
      exact ⟨q9.at_, k9⟩
    · skip
      obtain ⟨F3, st5, x4, us4, hm, s3, G12, o15, fr7, tk4, o16, o17, dk15⟩ := hW
      obtain ⟨next2, hnx2⟩ : ∃ nx, nx = fun s => forK (_law_bad_c3) ts4 s (_law_bad_k4) := ⟨_, rfl⟩
      have hm : (_law_bad_c3) (x4, st5) t2 next2 = some (r, stR) := by rw [hnx2]; exact forK_c hm
      rw [_law_bad_c3] at hm
      with_reducible refine x_gnE (σ' := ([some (.ref dk), some (.int base), some (.int (if x1 < base then x1 else base)), some (.ref p3), y1, some (.ref v6)] : L2.St)) (by with_unfolding_all rfl) ?_
      refine ⟨rfl, ?_⟩
      with_reducible refine x_yes ?_
      refine iteT ?_
      with_reducible refine x_cb ?_
      with_reducible refine x_cons ?_
      refine ⟨_, rfl, ?_⟩
      refine ⟨_, _, rfl, .inr (.inl (.inl hv2)), fun p7 np6 => ?_⟩
      have g9 := Gr.newO (o := .lst ((t2).l.map V.int)) G12.sub np6
      have o18 := Ow.new (us := ((t2).l.map V.int)) G12 np6
      have ne4 := o15.ne_new np6
      have ne5 := o16.ne_new np6
      have ne6 := o17.ne_new np6
      have G13 := G12.step g9
      have o19 := o15.step g9
      have o20 := o16.step g9
      have o21 := o17.step g9
      have tk5 := tk4.gr g9
      have dk16 := dk15.step g9
      obtain ⟨F4, G14, ex1, fa3, nf1⟩ := o18.frzE G13
      have o22 := o19.frzN (Ne.symm (Ne.symm ne4)) nf1
      have o23 := o20.frzN (Ne.symm (Ne.symm ne5)) nf1
      have o24 := o21.frzN (Ne.symm (Ne.symm ne6)) nf1
      have fr8 := Rs_mono ex1 (int_Rs (F := F3) (t2).l)
      have dk17 := dk16.frzN o18 ex1 nf1
      obtain ⟨c5, hm⟩ := guardp hm
      have G15 := o22.mutG (o := .lst (us4 ++ [(.ref p7)])) G14
      have o25 := o22.mut (ws := us4 ++ [(.ref p7)])
      have fr9 : Rs (α := (List Int)) (F4) (us4 ++ [(.ref p7)]) (x4 ++ [(t2).l]) := Rs_snoc (Rs_mono ex1 fr7) (mk_lst ((Sub.refl _) _ _ fa3) (Rs_mono (Sub.refl _) fr8))
      have o26 := o23.other (ws := us4 ++ [(.ref p7)]) (Ne.symm ne2)
      have o27 := o24.other (ws := us4 ++ [(.ref p7)]) (Ne.symm ne3)
      have dk18 := dk17.mut (ws := us4 ++ [(.ref p7)]) o22
      have tk6 := tk5.mut (ws := us4 ++ [(.ref p7)]) o22.at_
      rw [hnx2] at hm
      exact ⟨_, o22.at_, szl (by rw [Rs_len (Rs_mono ex1 fr7)]; exact c5), ⟨F4, _, (x4 ++ [(t2).l]), _, hm, (s3.trans ex1), G15, o25, fr9, tk6, o26, o27, dk18⟩⟩
    · skip
      obtain ⟨F3, st5, x4, us4, hm, s4, G16, o28, fr10, tk7, o29, o30, dk19⟩ := hW
      have hm : (_law_bad_k4) (x4, st5) = some (r, stR) := forK_n hm
      rw [_law_bad_k4] at hm
      obtain ⟨F5, G17, ex2, fa4, nf2⟩ := o28.frzE G16
      have o31 := o29.frzN (Ne.symm (Ne.symm ne2)) nf2
      have o32 := o30.frzN (Ne.symm (Ne.symm ne3)) nf2
      have fr11 := Rs_mono ex2 fr10
      have dk20 := dk19.frzN o28 ex2 nf2
      obtain ⟨rfl, rfl⟩ := pairp hm
      exact q _ _ _ G17 dk20.held (mk_lst ((Sub.refl _) _ _ fa4) (Rs_mono (Sub.refl _) fr11))

abbrev N__law_base : List Str := ["store"]
theorem sc__law_base : FnScope N__law_base ["store"] (defScope s__law_base) := ⟨rfl, rfl, rfl, by decide +kernel, rfl, by decide +kernel, by decide +kernel⟩
def sp__law_base : Sp := fun vs H Q _ => ∃ (F : Hp) (A : Addr → Prop) (dk : Addr) (st : StS) (r : Int) (stR : StS), vs = [.ref dk] ∧ Sub F H ∧ Held A F H dk st ∧ _law_base st = some (r, stR) ∧ ∀ N H2 v, Gr A F H N H2 → Held A N H2 dk stR → R N v r → Q v H2
theorem ok__law_base {P : Program} {w : World} {K : PySem.W.Frag} {mg : Str → Option Value} {base : Heap} (T : Txt K mg) : FnOk P w K mg base CX0 2 T.f__law_base.f T.f__law_base.fd ["store"] sp__law_base := by
  have nd := (sc__law_base).nd
  refine T.f__law_base.F.ok sc__law_base (fun vs H Q E h => ?_) (fun cdv A0 outer s H vs Q E hr h => ?_)
  · obtain ⟨_, _, _, _, _, _, rfl, _⟩ := h
    rfl
  obtain ⟨F0, A, dk, st, r, stR, rfl, s0, hdk, hm, q⟩ := h
  have G0 : Gr A F0 H F0 H := Gr.refl s0
  have dk0 := HdAt.mk0 hdk
  refine ⟨_, (pss_one (ps_ret (pe_ix (r := rIxL K) ix_list (pe_lst (pa_cons pe_int (pa_cons pe_int (pa_cons pe_int (pa_cons pe_int (pa_cons (pe_op op_add pe_int (pe_call (ok__law_take T) (hr.mono (by decide)) (by rfl) T.f__law_take.g T.f__law_take.F.kp T.f__law_take.b .nil pass0 (pa_cons (pv 0) (pa_cons pe_int pa_nil)))) pa_nil)))))) (pe_call (ok__law_take T) (hr.mono (by decide)) (by rfl) T.f__law_take.g T.f__law_take.F.kp T.f__law_take.b .nil pass0 (pa_cons (pv 0) (pa_cons pe_int pa_nil))) (fun _ _ => rfl)))), ?_⟩
  refine x_start (σ' := ([some (.ref dk)] : L2.St)) (by with_unfolding_all rfl) ?_
  rw [_law_base] at hm
  with_reducible refine x_ret ?_
  with_reducible refine x_op ?_
  with_reducible refine x_lst ?_
  with_reducible refine x_cons ?_
  with_reducible refine x_c ?_
  with_reducible refine x_cons ?_
  with_reducible refine x_c ?_
  with_reducible refine x_cons ?_
  with_reducible refine x_c ?_
  with_reducible refine x_cons ?_
  with_reducible refine x_c ?_
  with_reducible refine x_cons ?_
  with_reducible refine x_op ?_
  with_reducible refine x_c ?_
  with_reducible refine x_call ?_
  with_reducible refine x_cons ?_
  refine ⟨_, rfl, ?_⟩
  with_reducible refine x_cons ?_
  with_reducible refine x_c ?_
  obtain ⟨⟨r1, st1⟩, hr1, hm⟩ := bindp hm
  refine ⟨_, _, _, _, _, (15 : Int), r1, st1, rfl, G0.sub, dk0.held, (.int _), hr1, fun N1 H1 v1 g1 dk1 d1 => ?_⟩
  have G1 := G0.trans g1
  have dk2 := dk0.stepA g1 dk1
  obtain rfl := int_of d1
  refine ⟨_, _, rfl, rfl, ?_⟩
  refine ⟨szle (show 5 ≤ 16777216 from by decide), fun p1 np1 => ?_⟩
  have fr1 : Rs (α := Int) (N1) [(.int 2), (.int 3), (.int 10), (.int 16), (.int ((2 : Int) + r1))] ([(2 : Int), (3 : Int), (10 : Int), (16 : Int), ((2 : Int) + r1)] : (List Int)) := (Rs_cons (.int _) (Rs_cons (.int _) (Rs_cons (.int _) (Rs_cons (.int _) (Rs_cons (.int _) Rs_nil)))))
  have g2 := Gr.newO (o := .lst [(.int 2), (.int 3), (.int 10), (.int 16), (.int ((2 : Int) + r1))]) G1.sub np1
  have o1 := Ow.new (us := [(.int 2), (.int 3), (.int 10), (.int 16), (.int ((2 : Int) + r1))]) G1 np1
  have G2 := G1.step g2
  have dk3 := dk2.step g2
  with_reducible refine x_call ?_
  with_reducible refine x_cons ?_
  refine ⟨_, rfl, ?_⟩
  with_reducible refine x_cons ?_
  with_reducible refine x_c ?_
  obtain ⟨⟨r2, st2⟩, hr2, hm⟩ := bindp hm
  refine ⟨_, _, _, _, _, (5 : Int), r2, st2, rfl, G2.sub, dk3.held, (.int _), hr2, fun N2 H2 v2 g3 dk4 d2 => ?_⟩
  have G3 := G2.trans g3
  have o2 := o1.stepA g3 (dk3.outA o1)
  have dk5 := dk3.stepA g3 dk4
  obtain rfl := int_of d2
  obtain ⟨x1, hx1, hm⟩ := bindp hm
  obtain ⟨v3, hu1, d3⟩ := Rs_at (Rs_mono g3.ex fr1) hx1
  refine ⟨_, _, _, _, rfl, rfl, .inl (.inl o2.at_), hu1, ?_⟩
  obtain rfl := int_of d3
  obtain ⟨rfl, rfl⟩ := pairp hm
  exact q _ _ _ G3 dk5.held (.int _)

abbrev N__law_rule : List Str := ["store", "base"]
theorem sc__law_rule : FnScope N__law_rule ["store"] (defScope s__law_rule) := ⟨rfl, rfl, rfl, by decide +kernel, rfl, by decide +kernel, by decide +kernel⟩
def sp__law_rule : Sp := fun vs H Q _ => ∃ (F : Hp) (A : Addr → Prop) (dk : Addr) (st : StS) (r : (Int × (List (List Int)))) (stR : StS), vs = [.ref dk] ∧ Sub F H ∧ Held A F H dk st ∧ _law_rule st = some (r, stR) ∧ ∀ N H2 v, Gr A F H N H2 → Held A N H2 dk stR → R N v r → Q v H2
theorem ok__law_rule {P : Program} {w : World} {K : PySem.W.Frag} {mg : Str → Option Value} {base : Heap} (T : Txt K mg) : FnOk P w K mg base CX0 4 T.f__law_rule.f T.f__law_rule.fd ["store"] sp__law_rule := by
  have nd := (sc__law_rule).nd
  refine T.f__law_rule.F.ok sc__law_rule (fun vs H Q E h => ?_) (fun cdv A0 outer s H vs Q E hr h => ?_)
  · obtain ⟨_, _, _, _, _, _, rfl, _⟩ := h
    rfl
  obtain ⟨F0, A, dk, st, r, stR, rfl, s0, hdk, hm, q⟩ := h
  have G0 : Gr A F0 H F0 H := Gr.refl s0
  have dk0 := HdAt.mk0 hdk
  refine ⟨_, (pss_cons (ps_set (i := 1) nd rfl (by first | exact Or.inl rfl | exact Or.inr rfl) (pe_call (ok__law_base T) (hr.mono (by decide)) (by rfl) T.f__law_base.g T.f__law_base.F.kp T.f__law_base.b .nil pass0 (pa_cons (pv 0) pa_nil))) (pss_one (ps_ret (pe_tup (pa_cons (pv 1) (pa_cons (pe_call (ok__law_bad T) (hr.mono (by decide)) (by rfl) T.f__law_bad.g T.f__law_bad.F.kp T.f__law_bad.b .nil pass0 (pa_cons (pv 0) (pa_cons (pv 1) pa_nil))) pa_nil)))))), ?_⟩
  refine x_start (σ' := ([some (.ref dk), none] : L2.St)) (by with_unfolding_all rfl) ?_
  rw [_law_rule] at hm
  with_reducible refine x_seq ?_
  with_reducible refine x_asg ?_
  with_reducible refine x_call ?_
  with_reducible refine x_cons ?_
  refine ⟨_, rfl, ?_⟩
  obtain ⟨⟨r1, st1⟩, hr1, hm⟩ := bindp hm
  refine ⟨_, _, _, _, r1, st1, rfl, G0.sub, dk0.held, hr1, fun N1 H1 v1 g1 dk1 d1 => ?_⟩
  have G1 := G0.trans g1
  have dk2 := dk0.stepA g1 dk1
  obtain rfl := int_of d1
  with_reducible refine x_gnE (σ' := ([some (.ref dk), some (.int r1)] : L2.St)) (by with_unfolding_all rfl) ?_
  with_reducible refine x_ret ?_
  with_reducible refine x_tup ?_
  with_reducible refine x_cons ?_
  refine ⟨_, rfl, ?_⟩
  with_reducible refine x_cons ?_
  with_reducible refine x_call ?_
  with_reducible refine x_cons ?_
  refine ⟨_, rfl, ?_⟩
  with_reducible refine x_cons ?_
  refine ⟨_, rfl, ?_⟩
  obtain ⟨⟨r2, st2⟩, hr2, hm⟩ := bindp hm
  refine ⟨_, _, _, _, _, r1, r2, st2, rfl, G1.sub, dk2.held, (.int _), hr2, fun N2 H2 v2 g2 dk3 d2 => ?_⟩
  have G2 := G1.trans g2
  have dk4 := dk2.stepA g2 dk3
  obtain ⟨a1, us1, rfl, fa1, fr1⟩ := lst_of d2
  refine ⟨szle (show 2 ≤ 16777216 from by decide), fun p1 np1 => ?_⟩
  obtain ⟨F1, g3, fa2⟩ := Gr.newE (o := .tup [(.int r1), (.ref a1)]) G2.sub np1
  have G3 := G2.step g3
  have dk5 := dk4.step g3
  obtain ⟨rfl, rfl⟩ := pairp hm
  exact q _ _ _ G3 dk5.held (mk_tup2 ((Sub.refl _) _ _ fa2) (.int _) (mk_lst (g3.ex _ _ fa1) (Rs_mono g3.ex fr1)))

abbrev N__law_same_base : List Str := ["store", "base", "found", "some", "k", "known", "one", "more", "bad"]
theorem sc__law_same_base : FnScope N__law_same_base ["store"] (defScope s__law_same_base) := ⟨rfl, rfl, rfl, by decide +kernel, rfl, by decide +kernel, by decide +kernel⟩
def sp__law_same_base : Sp := fun vs H Q _ => ∃ (F : Hp) (A : Addr → Prop) (dk : Addr) (st : StS) (r : (List (Int × (List (List Int))))) (stR : StS), vs = [.ref dk] ∧ Sub F H ∧ Held A F H dk st ∧ _law_same_base st = some (r, stR) ∧ ∀ N H2 v, Gr A F H N H2 → Held A N H2 dk stR → R N v r → Fz H v → Q v H2
theorem ok__law_same_base {P : Program} {w : World} {K : PySem.W.Frag} {mg : Str → Option Value} {base : Heap} (T : Txt K mg) : FnOk P w K mg base CX0 4 T.f__law_same_base.f T.f__law_same_base.fd ["store"] sp__law_same_base := by
  have nd := (sc__law_same_base).nd
  refine T.f__law_same_base.F.ok sc__law_same_base (fun vs H Q E h => ?_) (fun cdv A0 outer s H vs Q E hr h => ?_)
  · obtain ⟨_, _, _, _, _, _, rfl, _⟩ := h
    rfl
  obtain ⟨F0, A, dk, st, r, stR, rfl, s0, hdk, hm, q⟩ := h
  have G0 : Gr A F0 H F0 H := Gr.refl s0
  have dk0 := HdAt.mk0 hdk
  refine ⟨_, (pss_cons (ps_set (i := 1) nd rfl (by first | exact Or.inl rfl | exact Or.inr rfl) (pe_call (ok__law_base T) (hr.mono (by decide)) (by rfl) T.f__law_base.g T.f__law_base.F.kp T.f__law_base.b .nil pass0 (pa_cons (pv 0) pa_nil))) (pss_cons (ps_set (i := 2) nd rfl (by first | exact Or.inl rfl | exact Or.inr rfl) (pe_lst pa_nil)) (pss_cons (ps_set (i := 3) nd rfl (by first | exact Or.inl rfl | exact Or.inr rfl) (pe_lst pa_nil)) (pss_cons (ps_for PassesOwn.never rfl (pi_range1 (by rfl) T.z_range (pa_cons (pe_op op_add pe_int (pe_call (ok__law_take T) (hr.mono (by decide)) (by rfl) T.f__law_take.g T.f__law_take.F.kp T.f__law_take.b .nil pass0 (pa_cons (pv 0) (pa_cons pe_int pa_nil)))) pa_nil)) (pg_name (i := 4) nd rfl (by first | exact Or.inl rfl | exact Or.inr rfl)) (pss_cons (ps_set (i := 5) nd rfl (by first | exact Or.inl rfl | exact Or.inr rfl) pe_dnewT) (pss_cons (ps_for PassesOwn.never rfl (pi_list (pe_call (ok__law_bad T) (hr.mono (by decide)) (by rfl) T.f__law_bad.g T.f__law_bad.F.kp T.f__law_bad.b .nil pass0 (pa_cons (pv 0) (pa_cons (pv 1) pa_nil)))) (pg_name (i := 6) nd rfl (by first | exact Or.inl rfl | exact Or.inr rfl)) (pss_one (ps_dput (hu_of hr) (pv 5) (pe_callTy (r := rTupL K) call_tupL (by rfl) T.z_tuple (by decide +kernel) (pa_cons (pv 6) pa_nil)) pe_bl (by rfl)))) (Evl.pss_cut (ps_if (PW.pt (pw_and (pt_cmpR (op_neT (α := (List (List Int))) (by decide) (hu64 hr)) (pv 3) (pe_lst pa_nil) (nomark _)) (pw_and1 (pt_cmp (pc_eqI (pe_call (ok__law_take T) (hr.mono (by decide)) (by rfl) T.f__law_take.g T.f__law_take.F.kp T.f__law_take.b .nil pass0 (pa_cons (pv 0) (pa_cons pe_int pa_nil))) pe_int))))) (pss_cons (ps_set (i := 6) nd rfl (by first | exact Or.inl rfl | exact Or.inr rfl) (pe_ix (r := rIxL K) ix_list (pv 3) (pe_call (ok__law_take T) (hr.mono (by decide)) (by rfl) T.f__law_take.g T.f__law_take.F.kp T.f__law_take.b .nil pass0 (pa_cons (pv 0) (pa_cons (pe_callB (r := rLenT K) call_lenT (by rfl) T.z_len PySem.boot_len (pa_cons (pv 3) pa_nil)) pa_nil))) (fun _ _ => rfl))) (pss_cons (ps_set (i := 7) nd rfl (by first | exact Or.inl rfl | exact Or.inr rfl) (pe_ix (r := rIxL K) ix_list (pe_lst (pa_cons (pv 6) (pa_cons (pe_op op_cat (pe_lst (pa_cons (pe_call (ok__law_take T) (hr.mono (by decide)) (by rfl) T.f__law_take.g T.f__law_take.F.kp T.f__law_take.b .nil pass0 (pa_cons (pv 0) (pa_cons (pv 1) pa_nil))) pa_nil)) (pv 6)) (pa_cons (pe_op op_cat (pv 6) (pe_lst (pa_cons (pe_call (ok__law_take T) (hr.mono (by decide)) (by rfl) T.f__law_take.g T.f__law_take.F.kp T.f__law_take.b .nil pass0 (pa_cons (pv 0) (pa_cons (pv 1) pa_nil))) pa_nil))) pa_nil)))) (pe_call (ok__law_take T) (hr.mono (by decide)) (by rfl) T.f__law_take.g T.f__law_take.F.kp T.f__law_take.b .nil pass0 (pa_cons (pv 0) (pa_cons pe_int pa_nil))) (fun _ _ => rfl))) (pss_one (ps_dput (hu_of hr) (pv 5) (pe_callTy (r := rTupL K) call_tupL (by rfl) T.z_tuple (by decide +kernel) (pa_cons (pe_slice (r := rSlL K) sl_list (pv 7) po_none (po_some pe_int)) pa_nil)) pe_bl (by rfl))))) pss_nil) (pss_cons (ps_set (i := 8) nd rfl (by first | exact Or.inl rfl | exact Or.inr rfl) (pe_slice (r := rSlL K) sl_list (pe_lc (own := [("one", 6)]) (g := (gName 6)) rfl nd (pi_list (pe_callB (r := rSortDT) (call_sortedDT (by rfl) (hu200' hr)) (by rfl) T.z_sorted (by decide +kernel) (pa_cons (pv 5) pa_nil))) (blkOk_by (own := [("one", 6)]) (N := N__law_same_base) (sc := defScope s__law_same_base) (by decide +kernel)) (fun _ _ _ _ _ => pg_name (i := 6) nd rfl (Or.inl rfl)) (fun _ _ _ _ _ => pts_nil) (fun _ _ _ _ _ => (pe_callTy (r := rListT K) call_listT (by rfl) T.z_list (by decide +kernel) (pa_cons (pv 6) pa_nil)))) po_none (po_some pe_int))) (pss_cons (ps_set (i := 3) nd rfl (by first | exact Or.inl rfl | exact Or.inr rfl) (pe_op op_cat (pv 3) (pv 8))) (pss_one (ps_expr (pe_bm PySem.F.plainAttrs_list PySem.F.slot_list_append PySem.F.type_list_append mt_append (pv 2) (pa_cons (pe_tup (pa_cons (pv 1) (pa_cons (pv 8) pa_nil))) pa_nil)))))))))) (pss_one (ps_ret (pv 2))))))), ?_⟩
  refine x_start (σ' := ([some (.ref dk), none, none, none, none, none, none, none, none] : L2.St)) (by with_unfolding_all rfl) ?_
  rw [_law_same_base] at hm
  with_reducible refine x_seq ?_
  with_reducible refine x_asg ?_
  with_reducible refine x_call ?_
  with_reducible refine x_cons ?_
  refine ⟨_, rfl, ?_⟩
  obtain ⟨⟨r1, st1⟩, hr1, hm⟩ := bindp hm
  refine ⟨_, _, _, _, r1, st1, rfl, G0.sub, dk0.held, hr1, fun N1 H1 v1 g1 dk1 d1 => ?_⟩
  have G1 := G0.trans g1
  have dk2 := dk0.stepA g1 dk1
  obtain rfl := int_of d1
  with_reducible refine x_gnE (σ' := ([some (.ref dk), some (.int r1), none, none, none, none, none, none, none] : L2.St)) (by with_unfolding_all rfl) ?_
  with_reducible refine x_seq ?_
  with_reducible refine x_asg ?_
  with_reducible refine x_lst ?_
  refine ⟨szle (show 0 ≤ 16777216 from by decide), fun p1 np1 => ?_⟩
  have fr1 : Rs (α := (Int × (List (List Int)))) (N1) [] ([] : (List (Int × (List (List Int))))) := Rs_nil
  have g2 := Gr.newO (o := .lst []) G1.sub np1
  have o1 := Ow.new (us := []) G1 np1
  have G2 := G1.step g2
  have dk3 := dk2.step g2
  with_reducible refine x_gnE (σ' := ([some (.ref dk), some (.int r1), some (.ref p1), none, none, none, none, none, none] : L2.St)) (by with_unfolding_all rfl) ?_
  with_reducible refine x_seq ?_
  with_reducible refine x_asg ?_
  with_reducible refine x_lst ?_
  refine ⟨szle (show 0 ≤ 16777216 from by decide), fun p2 np2 => ?_⟩
  have fr2 : Rs (α := (List Int)) (N1) [] ([] : (List (List Int))) := Rs_nil
  have g3 := Gr.newO (o := .lst []) G2.sub np2
  have o2 := Ow.new (us := []) G2 np2
  have ne1 := o1.ne_new np2
  have G3 := G2.step g3
  have o3 := o1.step g3
  have dk4 := dk3.step g3
  with_reducible refine x_gnE (σ' := ([some (.ref dk), some (.int r1), some (.ref p1), some (.ref p2), none, none, none, none, none] : L2.St)) (by with_unfolding_all rfl) ?_
  with_reducible refine x_seq ?_
  with_reducible refine x_for ?_
  with_reducible refine x_rng1 ?_
  with_reducible refine x_cons ?_
  with_reducible refine x_op ?_
  with_reducible refine x_c ?_
  with_reducible refine x_call ?_
  with_reducible refine x_cons ?_
  refine ⟨_, rfl, ?_⟩
  with_reducible refine x_cons ?_
  with_reducible refine x_c ?_
  obtain ⟨⟨r2, st2⟩, hr2, hm⟩ := bindp hm
  refine ⟨_, _, _, _, _, (3 : Int), r2, st2, rfl, G3.sub, dk4.held, (.int _), hr2, fun N2 H2 v2 g4 dk5 d2 => ?_⟩
  have G4 := G3.trans g4
  have o4 := o3.stepA g4 (dk4.outA o3)
  have o5 := o2.stepA g4 (dk4.outA o2)
  have dk6 := dk4.stepA g4 dk5
  obtain rfl := int_of d2
  refine ⟨_, _, rfl, rfl, ?_⟩
  obtain ⟨c1, hm⟩ := guardp hm
  obtain ⟨F1, G5, ex1, fa1, nf1⟩ := o5.frzE G4
  have o6 := o4.frzN (Ne.symm (Ne.symm ne1)) nf1
  have fr3 := Rs_mono ex1 (Rs_mono g4.ex fr2)
  have dk7 := dk6.frzN o5 ex1 nf1
  refine ⟨_, rfl, c1.lo, c1.hi, ?_⟩
  refine for_rng (lo := 0) (hi := ((1 : Int) + r2)) (by rw [Int.sub_zero]) (fun (ts1 : List Int) σ H3 => ∃ (F2 : Hp) (st3 : StS) (x1 : (List (Int × (List (List Int))))) (p3 : Addr) (us1 : List V) (x2 : (List (List Int))) (v3 : V) (y1 : Option V) (y2 : Option V) (y3 : Option V) (y4 : Option V) (y5 : Option V), forK (_law_same_base_b1 r1) ts1 (x1, x2, st3) (_law_same_base_e2) = some (r, stR) ∧ Sub (F1) F2 ∧ Gr A F0 H F2 H3 ∧ Ow H F2 H3 p3 us1 ∧ Rs F2 us1 x1 ∧ R F2 v3 x2 ∧ HdAt A H F2 H3 dk st3 ∧ σ = [some (.ref dk), some (.int r1), some (.ref p3), some v3, y2, y3, y5, y4, y1]) ⟨F1, _, ([] : (List (Int × (List (List Int))))), _, _, ([] : (List (List Int))), _, _, _, _, _, _, hm, (Sub.refl _), G5, o6, (Rs_mono ex1 (Rs_mono g4.ex fr1)), (mk_lst ((Sub.refl _) _ _ fa1) (Rs_mono (Sub.refl _) fr3)), dk7, rfl⟩ (fun t1 ts2 σ H1 hW => ?_) (fun σ H1 hW => ?_)
  · skip
    obtain ⟨F2, st3, x1, p3, us1, x2, v3, y1, y2, y3, y4, y5, hm, s1, G6, o7, fr4, d3, dk8, rfl⟩ := hW
    obtain ⟨a1, us2, rfl, fa2, fr5⟩ := lst_of d3
    obtain ⟨next1, hnx1⟩ : ∃ nx, nx = fun s => forK (_law_same_base_b1 r1) ts2 s (_law_same_base_e2) := ⟨_, rfl⟩
    have hm : (_law_same_base_b1 r1) (x1, x2, st3) t1 next1 = some (r, stR) := by rw [hnx1]; exact forK_c hm
    rw [_law_same_base_b1] at hm
    with_reducible refine x_gnE (σ' := ([some (.ref dk), some (.int r1), some (.ref p3), some (.ref a1), some (.int t1), y3, y5, y4, y1] : L2.St)) (by with_unfolding_all rfl) ?_
    with_reducible refine x_seq ?_
    with_reducible refine x_asg ?_
    refine fun p4 np3 => ?_
    have g5 := Gr.newO (o := .dT []) G6.sub np3
    have o8 := OwO.new (o := .dT []) G6 np3
    have ne2 := o7.ne_new np3
    have G7 := G6.step g5
    have o9 := o7.step g5
    have dk9 := dk8.step g5
    with_reducible refine x_gnE (σ' := ([some (.ref dk), some (.int r1), some (.ref p3), some (.ref a1), some (.int t1), some (.ref p4), y5, y4, y1] : L2.St)) (by with_unfolding_all rfl) ?_
    with_reducible refine x_seq ?_
    with_reducible refine x_for ?_
    with_reducible refine x_iter ?_
    with_reducible refine x_call ?_
    with_reducible refine x_cons ?_
    refine ⟨_, rfl, ?_⟩
    with_reducible refine x_cons ?_
    refine ⟨_, rfl, ?_⟩
    obtain ⟨⟨r3, st4⟩, hr3, hm⟩ := bindp hm
    refine ⟨_, _, _, _, _, r1, r3, st4, rfl, G7.sub, dk9.held, (.int _), hr3, fun N3 H4 v5 g6 dk10 d4 => ?_⟩
    have G8 := G7.trans g6
    have o10 := o9.stepA g6 (dk9.outA o9)
    have o11 := o8.stepA g6 (dk9.outO o8)
    have dk11 := dk9.stepA g6 dk10
    obtain ⟨a2, us3, rfl, fa3, fr6⟩ := lst_of d4
    refine ⟨_, rfl, ⟨_, .inl (.inl (G8.sub _ _ fa3))⟩, ?_⟩
    refine for_lst (α := (List Int)) (fun (ts3 : List (List Int)) σ H5 => ∃ (F3 : Hp) (st5 : StS) (x3 : (List (TI × Bool))) (p5 : Addr) (us4 : List ((List Key) × V)) (y6 : Option V), forK (_law_same_base_b3) ts3 (x3, st5) (_law_same_base_e4 x2 r1 x1 next1) = some (r, stR) ∧ Sub (N3) F3 ∧ Gr A F0 H F3 H5 ∧ OwO H F3 H5 p5 (.dT us4) ∧ RsK keyT F3 us4 x3 ∧ Ow H F3 H5 p3 us1 ∧ p5 ≠ p3 ∧ HdAt A H F3 H5 dk st5 ∧ σ = [some (.ref dk), some (.int r1), some (.ref p3), some (.ref a1), some (.int t1), some (.ref p5), y6, y4, y1]) (Rs_mono (Sub.refl _) fr6) ⟨N3, _, ([] : (List (TI × Bool))), _, _, _, hm, (Sub.refl _), G8, o11, (RsK_mono g6.ex (RsK_nil (key := keyT))), o10, (Ne.symm ne2), dk11, rfl⟩ (fun _ _ _ h => ?_) (fun t2 ts4 v6 σ H1 hv2 hW => ?_) (fun σ H1 hW => ?_)
    · obtain ⟨F3, st5, x3, p5, us4, y6, _, s9z, G9z, _⟩ := h
      exact G9z.sub _ _ (s9z _ _ ((Sub.refl _) _ _ fa3))
    · skip
      obtain ⟨F3, st5, x3, p5, us4, y6, hm, s2, G9, o12, fr7, o13, ne3, dk12, rfl⟩ := hW
      obtain ⟨next2, hnx2⟩ : ∃ nx, nx = fun s => forK (_law_same_base_b3) ts4 s (_law_same_base_e4 x2 r1 x1 next1) := ⟨_, rfl⟩
      have hm : (_law_same_base_b3) (x3, st5) t2 next2 = some (r, stR) := by rw [hnx2]; exact forK_c hm
      rw [_law_same_base_b3] at hm
      obtain ⟨a3, us5, rfl, fa4, fr8⟩ := lst_of hv2
      with_reducible refine x_gnE (σ' := ([some (.ref dk), some (.int r1), some (.ref p3), some (.ref a1), some (.int t1), some (.ref p5), some (.ref a3), y4, y1] : L2.St)) (by with_unfolding_all rfl) ?_
      with_reducible refine x_dput ?_
      with_reducible refine x_c ?_
      refine ⟨_, rfl, ?_⟩
      with_reducible refine x_cb ?_
      with_reducible refine x_cons ?_
      refine ⟨_, rfl, ?_⟩
      have fr9 := (Rs_mono s2 fr8)
      refine ⟨_, _, rfl, .inl ⟨.inl (.inl ((s2.trans G9.sub) _ _ fa4)), fun p6 np4 => ?_⟩⟩
      obtain ⟨F4, g7, fa5⟩ := Gr.newE (o := .tup us5) G9.sub np4
      have G10 := G9.step g7
      have o14 := o12.step g7
      have o15 := o13.step g7
      have dk13 := dk12.step g7
      have d5 := mk_tupi (xs := t2) fa5 (Rs_mono g7.ex fr9)
      have ka1 := tupi_at (xs := t2) fa5 (Rs_mono g7.ex fr9)
      obtain ⟨c2, hm⟩ := guardp hm
      refine ⟨_, _, rfl, DPut.t (k := keyT (⟨t2⟩ : TI)) o14.at_ (G10.sub _ _ ka1) (szl (by rw [RsK_len (RsK_mono g7.ex fr7)]; exact c2)), ?_⟩
      have G11 := o14.mutG (o' := .dT (putK us4 (keyT (⟨t2⟩ : TI)) (.bl true))) G10
      have o16 := o14.mut (o' := .dT (putK us4 (keyT (⟨t2⟩ : TI)) (.bl true)))
      have o17 := o15.otherO (o := .dT (putK us4 (keyT (⟨t2⟩ : TI)) (.bl true))) ne3
      have dk14 := dk13.mutO (o' := .dT (putK us4 (keyT (⟨t2⟩ : TI)) (.bl true))) o14
      have fr10 := RsK_put keyT_inj (k := (⟨t2⟩ : TI)) (v := (.bl true)) (y := true) (.bl _) (RsK_mono g7.ex fr7)
      rw [hnx2] at hm
      exact ⟨F4, _, (putT x3 (⟨t2⟩ : TI) true), _, _, _, hm, (s2.trans g7.ex), G11, o16, fr10, o17, ne3, dk14, rfl⟩
    · skip
      obtain ⟨F3, st5, x3, p5, us4, y6, hm, s3, G12, o18, fr11, o19, ne4, dk15, rfl⟩ := hW
      have hm : (_law_same_base_e4 x2 r1 x1 next1) (x3, st5) = some (r, stR) := forK_n hm
      rw [_law_same_base_e4] at hm
      refine ⟨(fun σ H6 => ∃ (F5 : Hp) (st6 : StS) (x4 : (List (TI × Bool))) (p7 : Addr) (us6 : List ((List Key) × V)) (y7 : Option V) (y8 : Option V), (_law_same_base_j5 x2 x1 next1 r1) (x4, st6) = some (r, stR) ∧ Sub (F3) F5 ∧ Gr A F0 H F5 H6 ∧ OwO H F5 H6 p7 (.dT us6) ∧ RsK keyT F5 us6 x4 ∧ Ow H F5 H6 p3 us1 ∧ p7 ≠ p3 ∧ HdAt A H F5 H6 dk st6 ∧ σ = [some (.ref dk), some (.int r1), some (.ref p3), some (.ref a1), some (.int t1), some (.ref p7), y8, y7, y1]), ?_, fun σ H1 hW => ?_⟩
      · with_reducible refine x_if ?_
        with_reducible refine x_and ?_
        with_reducible refine x_test ?_
        refine useEv (.bl (!(eqT x2 []))) (by exact (ev_neqNil (α := (List Int)) (Evl.ev_var rfl) (RD.mono G12.sub (mk_lst ((g6.ex.trans s3) _ _ fa2) (Rs_mono (g6.ex.trans s3) fr5))))) (fun H7 e1 => ?_)
        have g8 := gr_ex G12.sub e1
        have G13 := G12.step g8
        have o20 := o18.step g8
        have o21 := o19.step g8
        have dk16 := dk15.step g8
        refine ⟨_, rfl, ?_⟩
        refine ifD (fun hc => ?_) (fun hc => ?_)
        · replace hm := itep hm hc
          with_reducible refine x_B ?_
          with_reducible refine x_cmp ?_
          with_reducible refine x_call ?_
          with_reducible refine x_cons ?_
          refine ⟨_, rfl, ?_⟩
          with_reducible refine x_cons ?_
          with_reducible refine x_c ?_
          obtain ⟨⟨r4, st7⟩, hr4, hm⟩ := bindp hm
          refine ⟨_, _, _, _, _, (2 : Int), r4, st7, rfl, G13.sub, dk16.held, (.int _), hr4, fun N4 H8 v7 g9 dk17 d6 => ?_⟩
          have G14 := G13.trans g9
          have o22 := o20.stepA g9 (dk16.outO o20)
          have o23 := o21.stepA g9 (dk16.outA o21)
          have dk18 := dk16.stepA g9 dk17
          obtain rfl := int_of d6
          with_reducible refine x_c ?_
          refine ⟨_, _, rfl, rfl, ?_⟩
          refine ⟨_, rfl, ?_⟩
          refine ifD (fun hc => ?_) (fun hc => ?_)
          · replace hm := itep hm hc
            with_reducible refine x_seq ?_
            with_reducible refine x_asg ?_
            with_reducible refine x_op ?_
            refine ⟨_, rfl, ?_⟩
            with_reducible refine x_call ?_
            with_reducible refine x_cons ?_
            refine ⟨_, rfl, ?_⟩
            with_reducible refine x_cons ?_
            refine useEv (.int (x2.length : Int)) (by exact (ev_lenT (Evl.ev_var rfl) ((((g6.ex.trans s3).trans g9.ex).trans G14.sub) _ _ fa2) (Rs_mono ((g6.ex.trans s3).trans g9.ex) fr5))) (fun H9 e2 => ?_)
            have g10 := gr_ex G14.sub e2
            have G15 := G14.step g10
            have o24 := o22.step g10
            have o25 := o23.step g10
            have dk19 := dk18.step g10
            obtain ⟨⟨r5, st8⟩, hr5, hm⟩ := bindp hm
            refine ⟨_, _, _, _, _, (x2.length : Int), r5, st8, rfl, G15.sub, dk19.held, (.int _), hr5, fun N5 H10 v8 g11 dk20 d7 => ?_⟩
            have G16 := G15.trans g11
            have o26 := o24.stepA g11 (dk19.outO o24)
            have o27 := o25.stepA g11 (dk19.outA o25)
            have dk21 := dk19.stepA g11 dk20
            obtain rfl := int_of d7
            obtain ⟨x5, hx1, hm⟩ := bindp hm
            obtain ⟨v9, hu1, d8⟩ := Rs_at (Rs_mono (((g6.ex.trans s3).trans g9.ex).trans g11.ex) fr5) hx1
            refine ⟨_, _, _, _, rfl, rfl, .inl (.inl (((((g6.ex.trans s3).trans g9.ex).trans g11.ex).trans G16.sub) _ _ fa2)), hu1, ?_⟩
            obtain ⟨a4, us7, rfl, fa6, fr12⟩ := lst_of d8
            with_reducible refine x_gnE (σ' := ([some (.ref dk), some (.int r1), some (.ref p3), some (.ref a1), some (.int t1), some (.ref p5), some (.ref a4), y4, y1] : L2.St)) (by with_unfolding_all rfl) ?_
            with_reducible refine x_seq ?_
            with_reducible refine x_asg ?_
            with_reducible refine x_op ?_
            with_reducible refine x_lst ?_
            with_reducible refine x_cons ?_
            refine ⟨_, rfl, ?_⟩
            with_reducible refine x_cons ?_
            with_reducible refine x_op ?_
            with_reducible refine x_lst ?_
            with_reducible refine x_cons ?_
            with_reducible refine x_call ?_
            with_reducible refine x_cons ?_
            refine ⟨_, rfl, ?_⟩
            with_reducible refine x_cons ?_
            refine ⟨_, rfl, ?_⟩
            obtain ⟨⟨r6, st9⟩, hr6, hm⟩ := bindp hm
            refine ⟨_, _, _, _, _, r1, r6, st9, rfl, G16.sub, dk21.held, (.int _), hr6, fun N6 H11 v10 g12 dk22 d9 => ?_⟩
            have G17 := G16.trans g12
            have o28 := o26.stepA g12 (dk21.outO o26)
            have o29 := o27.stepA g12 (dk21.outA o27)
            have dk23 := dk21.stepA g12 dk22
            obtain rfl := int_of d9
            refine ⟨szle (show 1 ≤ 16777216 from by decide), fun p8 np5 => ?_⟩
            have fr13 : Rs (α := Int) (N6) [(.int r6)] ([r6] : (List Int)) := (Rs_cons (.int _) Rs_nil)
            have g13 := Gr.newO (o := .lst [(.int r6)]) G17.sub np5
            have o30 := Ow.new (us := [(.int r6)]) G17 np5
            have ne5 := o28.ne_new np5
            have ne6 := o29.ne_new np5
            have G18 := G17.step g13
            have o31 := o28.step g13
            have o32 := o29.step g13
            have dk24 := dk23.step g13
            refine ⟨_, rfl, ?_⟩
            obtain ⟨c3, hm⟩ := guardp hm
            refine ⟨_, _, _, _, rfl, rfl, o30.at_, ((g12.ex.trans G18.sub) _ _ fa6), szle (by rw [Rs_len fr13, Rs_len (Rs_mono g12.ex fr12)]; exact c3), fun p9 np6 => ?_⟩
            have fr14 : Rs (α := Int) (N6) ([(.int r6)] ++ us7) (([r6] : (List Int)) ++ x5) := Rs_app fr13 (Rs_mono g12.ex fr12)
            have g14 := Gr.newO (o := .lst ([(.int r6)] ++ us7)) G18.sub np6
            have o33 := Ow.new (us := ([(.int r6)] ++ us7)) G18 np6
            have ne7 := o31.ne_new np6
            have ne8 := o32.ne_new np6
            have G19 := G18.step g14
            have o34 := o31.step g14
            have o35 := o32.step g14
            have dk25 := dk24.step g14
            obtain ⟨F6, G20, ex2, fa7, nf2⟩ := o33.frzE G19
            have o36 := o34.frzN (Ne.symm (Ne.symm ne7)) nf2
            have o37 := o35.frzN (Ne.symm (Ne.symm ne8)) nf2
            have fr15 := Rs_mono ex2 fr14
            have dk26 := dk25.frzN o33 ex2 nf2
            with_reducible refine x_cons ?_
            with_reducible refine x_op ?_
            refine ⟨_, rfl, ?_⟩
            with_reducible refine x_lst ?_
            with_reducible refine x_cons ?_
            with_reducible refine x_call ?_
            with_reducible refine x_cons ?_
            refine ⟨_, rfl, ?_⟩
            with_reducible refine x_cons ?_
            refine ⟨_, rfl, ?_⟩
            obtain ⟨⟨r7, st10⟩, hr7, hm⟩ := bindp hm
            refine ⟨_, _, _, _, _, r1, r7, st10, rfl, G20.sub, dk26.held, (.int _), hr7, fun N7 H12 v11 g15 dk27 d10 => ?_⟩
            have G21 := G20.trans g15
            have o38 := o36.stepA g15 (dk26.outO o36)
            have o39 := o37.stepA g15 (dk26.outA o37)
            have dk28 := dk26.stepA g15 dk27
            obtain rfl := int_of d10
            refine ⟨szle (show 1 ≤ 16777216 from by decide), fun p10 np7 => ?_⟩
            have fr16 : Rs (α := Int) (N7) [(.int r7)] ([r7] : (List Int)) := (Rs_cons (.int _) Rs_nil)
            have g16 := Gr.newO (o := .lst [(.int r7)]) G21.sub np7
            have o40 := Ow.new (us := [(.int r7)]) G21 np7
            have ne9 := o38.ne_new np7
            have ne10 := o39.ne_new np7
            have G22 := G21.step g16
            have o41 := o38.step g16
            have o42 := o39.step g16
            have dk29 := dk28.step g16
            obtain ⟨c4, hm⟩ := guardp hm
            refine ⟨_, _, _, _, rfl, rfl, ((((g12.ex.trans ex2).trans g15.ex).trans G22.sub) _ _ fa6), o40.at_, szle (by rw [Rs_len (Rs_mono ((g12.ex.trans ex2).trans g15.ex) fr12), Rs_len fr16]; exact c4), fun p11 np8 => ?_⟩
            have fr17 : Rs (α := Int) (N7) (us7 ++ [(.int r7)]) (x5 ++ ([r7] : (List Int))) := Rs_app (Rs_mono ((g12.ex.trans ex2).trans g15.ex) fr12) fr16
            have g17 := Gr.newO (o := .lst (us7 ++ [(.int r7)])) G22.sub np8
            have o43 := Ow.new (us := (us7 ++ [(.int r7)])) G22 np8
            have ne11 := o41.ne_new np8
            have ne12 := o42.ne_new np8
            have G23 := G22.step g17
            have o44 := o41.step g17
            have o45 := o42.step g17
            have dk30 := dk29.step g17
            obtain ⟨F7, G24, ex3, fa8, nf3⟩ := o43.frzE G23
            have o46 := o44.frzN (Ne.symm (Ne.symm ne11)) nf3
            have o47 := o45.frzN (Ne.symm (Ne.symm ne12)) nf3
            have fr18 := Rs_mono ex3 fr17
            have dk31 := dk30.frzN o43 ex3 nf3
            refine ⟨szle (show 3 ≤ 16777216 from by decide), fun p12 np9 => ?_⟩
            have fr19 : Rs (α := (List Int)) (F7) [(.ref a4), (.ref p9), (.ref p11)] ([x5, (([r6] : (List Int)) ++ x5), (x5 ++ ([r7] : (List Int)))] : (List (List Int))) := (Rs_cons (mk_lst ((((g12.ex.trans ex2).trans g15.ex).trans ex3) _ _ fa6) (Rs_mono (((g12.ex.trans ex2).trans g15.ex).trans ex3) fr12)) (Rs_cons (mk_lst ((g15.ex.trans ex3) _ _ fa7) (Rs_mono (g15.ex.trans ex3) fr15)) (Rs_cons (mk_lst ((Sub.refl _) _ _ fa8) (Rs_mono (Sub.refl _) fr18)) Rs_nil)))
            have g18 := Gr.newO (o := .lst [(.ref a4), (.ref p9), (.ref p11)]) G24.sub np9
            have o48 := Ow.new (us := [(.ref a4), (.ref p9), (.ref p11)]) G24 np9
            have ne13 := o46.ne_new np9
            have ne14 := o47.ne_new np9
            have G25 := G24.step g18
            have o49 := o46.step g18
            have o50 := o47.step g18
            have dk32 := dk31.step g18
            with_reducible refine x_call ?_
            with_reducible refine x_cons ?_
            refine ⟨_, rfl, ?_⟩
            with_reducible refine x_cons ?_
            with_reducible refine x_c ?_
            obtain ⟨⟨r8, st11⟩, hr8, hm⟩ := bindp hm
            refine ⟨_, _, _, _, _, (3 : Int), r8, st11, rfl, G25.sub, dk32.held, (.int _), hr8, fun N8 H13 v12 g19 dk33 d11 => ?_⟩
            have G26 := G25.trans g19
            have o51 := o49.stepA g19 (dk32.outO o49)
            have o52 := o50.stepA g19 (dk32.outA o50)
            have o53 := o48.stepA g19 (dk32.outA o48)
            have dk34 := dk32.stepA g19 dk33
            obtain rfl := int_of d11
            obtain ⟨x6, hx2, hm⟩ := bindp hm
            obtain ⟨v13, hu2, d12⟩ := Rs_at (Rs_mono g19.ex fr19) hx2
            refine ⟨_, _, _, _, rfl, rfl, .inl (.inl o53.at_), hu2, ?_⟩
            obtain ⟨a5, us8, rfl, fa9, fr20⟩ := lst_of d12
            with_reducible refine x_gnE (σ' := ([some (.ref dk), some (.int r1), some (.ref p3), some (.ref a1), some (.int t1), some (.ref p5), some (.ref a4), some (.ref a5), y1] : L2.St)) (by with_unfolding_all rfl) ?_
            with_reducible refine x_dput ?_
            with_reducible refine x_c ?_
            refine ⟨_, rfl, ?_⟩
            with_reducible refine x_cb ?_
            with_reducible refine x_cons ?_
            with_reducible refine x_sl ?_
            refine ⟨_, rfl, ?_⟩
            with_reducible refine x_nopart ?_
            with_reducible refine x_part ?_
            with_reducible refine x_c ?_
            refine ⟨_, rfl, ?_⟩
            refine ⟨_, _, rfl, .inl (.inl (G26.sub _ _ fa9)), fun p13 np10 => ?_⟩
            have fr21 : Rs (α := Int) (N8) (cutV us8 none (some (4 : Int))) (cutT x6 none (some (4 : Int))) := Rs_cut (Rs_mono (Sub.refl _) fr20)
            have g20 := Gr.newO (o := .lst (cutV us8 none (some (4 : Int)))) G26.sub np10
            have o54 := Ow.new (us := (cutV us8 none (some (4 : Int)))) G26 np10
            have ne15 := o51.ne_new np10
            have ne16 := o52.ne_new np10
            have G27 := G26.step g20
            have o55 := o51.step g20
            have o56 := o52.step g20
            have dk35 := dk34.step g20
            have fr22 := fr21
            refine ⟨_, _, rfl, .inl ⟨.inl (.inl o54.at_), fun p14 np11 => ?_⟩⟩
            obtain ⟨F8, g21, fa10⟩ := Gr.newE (o := .tup (cutV us8 none (some (4 : Int)))) G27.sub np11
            have G28 := G27.step g21
            have o57 := o55.step g21
            have o58 := o56.step g21
            have o59 := o54.step g21
            have dk36 := dk35.step g21
            have d13 := mk_tupi (xs := (cutT x6 none (some (4 : Int)))) fa10 (Rs_mono g21.ex fr22)
            have ka2 := tupi_at (xs := (cutT x6 none (some (4 : Int)))) fa10 (Rs_mono g21.ex fr22)
            obtain ⟨c5, hm⟩ := guardp hm
            refine ⟨_, _, rfl, DPut.t (k := keyT (⟨(cutT x6 none (some (4 : Int)))⟩ : TI)) o57.at_ (G28.sub _ _ ka2) (szl (by rw [RsK_len (RsK_mono g21.ex (RsK_mono g19.ex (RsK_mono ex3 (RsK_mono g15.ex (RsK_mono ex2 (RsK_mono g12.ex (RsK_mono g11.ex (RsK_mono g9.ex fr11))))))))]; exact c5)), ?_⟩
            have G29 := o57.mutG (o' := .dT (putK us4 (keyT (⟨(cutT x6 none (some (4 : Int)))⟩ : TI)) (.bl true))) G28
            have o60 := o57.mut (o' := .dT (putK us4 (keyT (⟨(cutT x6 none (some (4 : Int)))⟩ : TI)) (.bl true)))
            have o61 := o58.otherO (o := .dT (putK us4 (keyT (⟨(cutT x6 none (some (4 : Int)))⟩ : TI)) (.bl true))) ne4
            have dk37 := dk36.mutO (o' := .dT (putK us4 (keyT (⟨(cutT x6 none (some (4 : Int)))⟩ : TI)) (.bl true))) o57
            have fr23 := RsK_put keyT_inj (k := (⟨(cutT x6 none (some (4 : Int)))⟩ : TI)) (v := (.bl true)) (y := true) (.bl _) (RsK_mono g21.ex (RsK_mono g19.ex (RsK_mono ex3 (RsK_mono g15.ex (RsK_mono ex2 (RsK_mono g12.ex (RsK_mono g11.ex (RsK_mono g9.ex fr11))))))))
            exact ⟨F8, _, (putT x3 (⟨(cutT x6 none (some (4 : Int)))⟩ : TI) true), _, _, _, _, hm, (((((((g9.ex.trans g11.ex).trans g12.ex).trans ex2).trans g15.ex).trans ex3).trans g19.ex).trans g21.ex), G29, o60, fr23, o61, ne4, dk37, rfl⟩
          · replace hm := iten hm (bF hc)
            with_reducible refine x_next ?_
            exact ⟨N4, _, x3, _, _, _, _, hm, g9.ex, G14, o22, (RsK_mono g9.ex fr11), o23, ne4, dk18, rfl⟩
        · replace hm := iten hm (bF hc)
          refine iteF ?_
          with_reducible refine x_next ?_
          exact ⟨F3, _, x3, _, _, _, _, hm, (Sub.refl _), G13, o20, fr11, o21, ne4, dk16, rfl⟩
      · skip
        obtain ⟨F5, st6, x4, p7, us6, y7, y8, hm, s4, G30, o62, fr24, o63, ne17, dk38, rfl⟩ := hW
        have hm : (_law_same_base_j5 x2 x1 next1 r1) (x4, st6) = some (r, stR) := hm
        rw [_law_same_base_j5] at hm
        with_reducible refine x_seq ?_
        with_reducible refine x_asg ?_
        with_reducible refine x_sl ?_
        with_reducible refine x_lc ?_
        with_reducible refine x_iter ?_
        with_reducible refine x_cb ?_
        with_reducible refine x_cons ?_
        refine ⟨_, rfl, ?_⟩
        obtain ⟨c6, hm⟩ := guardp hm
        obtain ⟨c7, hm⟩ := guardp hm
        refine ⟨_, _, (x4.map (·.1)), rfl, o62.at_, RsK_keys fr24, c6, c7, fun p15 bs1 np12 tk1 => ?_⟩
        have g22 := Gr.newO (o := .lst (bs1.map V.ref)) G30.sub np12
        have o64 := Ow.new (us := (bs1.map V.ref)) G30 np12
        have ne18 := o62.ne_new np12
        have ne19 := o63.ne_new np12
        have G31 := G30.step g22
        have o65 := o62.step g22
        have o66 := o63.step g22
        have dk39 := dk38.step g22
        have tk2 := tk1.new (o := .lst (bs1.map V.ref)) np12
        refine ⟨_, rfl, ⟨_, .inl (.inl o64.at_)⟩, fun p16 np13 => ?_⟩
        have g23 := Gr.newO (o := .lst []) G31.sub np13
        have o67 := Ow.new (us := []) G31 np13
        have ne20 := o65.ne_new np13
        have ne21 := o66.ne_new np13
        have ne22 := o64.ne_new np13
        have G32 := G31.step g23
        have o68 := o65.step g23
        have o69 := o66.step g23
        have o70 := o64.step g23
        have tk3 := tk2.gr g23
        have dk40 := dk39.step g23
        refine lc_tk (bs := bs1) (fun (ts5 : List TI) H14 => ∃ (F9 : Hp) (st12 : StS) (x8 : List (List Int)) (us10 : List V), forK (_law_same_base_c6) ts5 (x8, st12) (_law_same_base_k7 x2 x1 next1 r1) = some (r, stR) ∧ Sub (F5) F9 ∧ Gr A F0 H F9 H14 ∧ Ow H F9 H14 p16 us10 ∧ Rs F9 us10 x8 ∧ TK H14 bs1 (sortT (x4.map (·.1))) ∧ OwO H F9 H14 p7 (.dT us6) ∧ Ow H F9 H14 p3 us1 ∧ Ow H F9 H14 p15 (bs1.map V.ref) ∧ HdAt A H F9 H14 dk st12) ⟨F5, _, ([] : List (List Int)), _, hm, (Sub.refl _), G32, o67, Rs_nil, tk3, o68, o69, o70, dk40⟩ (fun _ _ h => ?_) (fun t3 ts6 v14 H1 hv3 hW => ?_) (fun H1 hW => ?_)
        · obtain ⟨F9z, _, _, _, _, s9z, G9z, _, _, k9, _, _, q9, _⟩ := h
          exact ⟨q9.at_, k9⟩
        · skip
          obtain ⟨F9, st12, x8, us10, hm, s5, G33, o71, fr25, tk4, o72, o73, o74, dk41⟩ := hW
          obtain ⟨next3, hnx3⟩ : ∃ nx, nx = fun s => forK (_law_same_base_c6) ts6 s (_law_same_base_k7 x2 x1 next1 r1) := ⟨_, rfl⟩
          have hm : (_law_same_base_c6) (x8, st12) t3 next3 = some (r, stR) := by rw [hnx3]; exact forK_c hm
          rw [_law_same_base_c6] at hm
          with_reducible refine x_gnE (σ' := ([some (.ref dk), some (.int r1), some (.ref p3), some (.ref a1), some (.int t1), some (.ref p7), some (.ref v14), y7, y1] : L2.St)) (by with_unfolding_all rfl) ?_
          refine ⟨rfl, ?_⟩
          with_reducible refine x_yes ?_
          refine iteT ?_
          with_reducible refine x_cb ?_
          with_reducible refine x_cons ?_
          refine ⟨_, rfl, ?_⟩
          refine ⟨_, _, rfl, .inr (.inl (.inl hv3)), fun p17 np14 => ?_⟩
          have g24 := Gr.newO (o := .lst ((t3).l.map V.int)) G33.sub np14
          have o75 := Ow.new (us := ((t3).l.map V.int)) G33 np14
          have ne23 := o71.ne_new np14
          have ne24 := o72.ne_new np14
          have ne25 := o73.ne_new np14
          have ne26 := o74.ne_new np14
          have G34 := G33.step g24
          have o76 := o71.step g24
          have o77 := o72.step g24
          have o78 := o73.step g24
          have o79 := o74.step g24
          have tk5 := tk4.gr g24
          have dk42 := dk41.step g24
          obtain ⟨F10, G35, ex4, fa11, nf4⟩ := o75.frzE G34
          have o80 := o76.frzN (Ne.symm (Ne.symm ne23)) nf4
          have o81 := o77.frzN (Ne.symm (Ne.symm ne24)) nf4
          have o82 := o78.frzN (Ne.symm (Ne.symm ne25)) nf4
          have o83 := o79.frzN (Ne.symm (Ne.symm ne26)) nf4
          have fr26 := Rs_mono ex4 (int_Rs (F := F9) (t3).l)
          have dk43 := dk42.frzN o75 ex4 nf4
          obtain ⟨c8, hm⟩ := guardp hm
          have G36 := o80.mutG (o := .lst (us10 ++ [(.ref p17)])) G35
          have o84 := o80.mut (ws := us10 ++ [(.ref p17)])
          have fr27 : Rs (α := (List Int)) (F10) (us10 ++ [(.ref p17)]) (x8 ++ [(t3).l]) := Rs_snoc (Rs_mono ex4 fr25) (mk_lst ((Sub.refl _) _ _ fa11) (Rs_mono (Sub.refl _) fr26))
          have o85 := o81.other (ws := us10 ++ [(.ref p17)]) (Ne.symm ne20)
          have o86 := o82.other (ws := us10 ++ [(.ref p17)]) (Ne.symm ne21)
          have o87 := o83.other (ws := us10 ++ [(.ref p17)]) (Ne.symm ne22)
          have dk44 := dk43.mut (ws := us10 ++ [(.ref p17)]) o80
          have tk6 := tk5.mut (ws := us10 ++ [(.ref p17)]) o80.at_
          rw [hnx3] at hm
          exact ⟨_, o80.at_, szl (by rw [Rs_len (Rs_mono ex4 fr25)]; exact c8), ⟨F10, _, (x8 ++ [(t3).l]), _, hm, (s5.trans ex4), G36, o84, fr27, tk6, o85, o86, o87, dk44⟩⟩
        · skip
          obtain ⟨F9, st12, x8, us10, hm, s6, G37, o88, fr28, tk7, o89, o90, o91, dk45⟩ := hW
          have hm : (_law_same_base_k7 x2 x1 next1 r1) (x8, st12) = some (r, stR) := forK_n hm
          rw [_law_same_base_k7] at hm
          with_reducible refine x_nopart ?_
          with_reducible refine x_part ?_
          with_reducible refine x_c ?_
          refine ⟨_, rfl, ?_⟩
          refine ⟨_, _, rfl, .inl (.inl o88.at_), fun p18 np15 => ?_⟩
          have fr29 : Rs (α := (List Int)) (F9) (cutV us10 none (some (4 : Int))) (cutT x8 none (some (4 : Int))) := Rs_cut fr28
          have g25 := Gr.newO (o := .lst (cutV us10 none (some (4 : Int)))) G37.sub np15
          have o92 := Ow.new (us := (cutV us10 none (some (4 : Int)))) G37 np15
          have ne27 := o89.ne_new np15
          have ne28 := o90.ne_new np15
          have ne29 := o91.ne_new np15
          have G38 := G37.step g25
          have o93 := o89.step g25
          have o94 := o90.step g25
          have o95 := o91.step g25
          have tk8 := tk7.gr g25
          have dk46 := dk45.step g25
          with_reducible refine x_gnE (σ' := ([some (.ref dk), some (.int r1), some (.ref p3), some (.ref a1), some (.int t1), some (.ref p7), y8, y7, some (.ref p18)] : L2.St)) (by with_unfolding_all rfl) ?_
          with_reducible refine x_seq ?_
          with_reducible refine x_asg ?_
          with_reducible refine x_op ?_
          refine ⟨_, rfl, ?_⟩
          refine ⟨_, rfl, ?_⟩
          obtain ⟨c9, hm⟩ := guardp hm
          refine ⟨_, _, _, _, rfl, rfl, (((((g6.ex.trans s3).trans s4).trans s6).trans G38.sub) _ _ fa2), o92.at_, szle (by rw [Rs_len (Rs_mono (((g6.ex.trans s3).trans s4).trans s6) fr5), Rs_len fr29]; exact c9), fun p19 np16 => ?_⟩
          have fr30 : Rs (α := (List Int)) (F9) (us2 ++ (cutV us10 none (some (4 : Int)))) (x2 ++ (cutT x8 none (some (4 : Int)))) := Rs_app (Rs_mono (((g6.ex.trans s3).trans s4).trans s6) fr5) fr29
          have g26 := Gr.newO (o := .lst (us2 ++ (cutV us10 none (some (4 : Int))))) G38.sub np16
          have o96 := Ow.new (us := (us2 ++ (cutV us10 none (some (4 : Int))))) G38 np16
          have ne30 := o93.ne_new np16
          have ne31 := o94.ne_new np16
          have ne32 := o92.ne_new np16
          have G39 := G38.step g26
          have o97 := o93.step g26
          have o98 := o94.step g26
          have o99 := o92.step g26
          have tk9 := tk8.gr g26
          have dk47 := dk46.step g26
          with_reducible refine x_gnE (σ' := ([some (.ref dk), some (.int r1), some (.ref p3), some (.ref p19), some (.int t1), some (.ref p7), y8, y7, some (.ref p18)] : L2.St)) (by with_unfolding_all rfl) ?_
          with_reducible refine x_drop ?_
          with_reducible refine x_bm ?_
          refine ⟨_, rfl, ?_⟩
          refine ⟨.inl ⟨rfl, _, .inl (.inl o98.at_)⟩, ?_⟩
          with_reducible refine x_cons ?_
          with_reducible refine x_tup ?_
          with_reducible refine x_cons ?_
          refine ⟨_, rfl, ?_⟩
          with_reducible refine x_cons ?_
          refine ⟨_, rfl, ?_⟩
          obtain ⟨F11, G40, ex5, fa12, nf5⟩ := o99.frzE G39
          have o100 := o97.frzN (Ne.symm (Ne.symm ne27)) nf5
          have o101 := o98.frzN (Ne.symm (Ne.symm ne28)) nf5
          have o102 := o96.frzN (Ne.symm ne32) nf5
          have fr31 := Rs_mono ex5 fr29
          have dk48 := dk47.frzN o99 ex5 nf5
          refine ⟨szle (show 2 ≤ 16777216 from by decide), fun p20 np17 => ?_⟩
          obtain ⟨F12, g27, fa13⟩ := Gr.newE (o := .tup [(.int r1), (.ref p18)]) G40.sub np17
          have G41 := G40.step g27
          have o103 := o100.step g27
          have o104 := o101.step g27
          have o105 := o102.step g27
          have tk10 := tk9.gr g27
          have dk49 := dk48.step g27
          obtain ⟨c10, hm⟩ := guardp hm
          refine ⟨_, _, _, rfl, rfl, o104.at_, szl (by rw [Rs_len (Rs_mono g27.ex (Rs_mono ex5 (Rs_mono s6 (Rs_mono s4 (Rs_mono s3 (Rs_mono g6.ex fr4))))))]; exact c10), ?_⟩
          have G42 := o104.mutG (o := .lst (us1 ++ [(.ref p20)])) G41
          have o106 := o104.mut (ws := us1 ++ [(.ref p20)])
          have o107 := o103.other (ws := us1 ++ [(.ref p20)]) (Ne.symm ne17)
          have o108 := o105.other (ws := us1 ++ [(.ref p20)]) (Ne.symm (Ne.symm ne31))
          have dk50 := dk49.mut (ws := us1 ++ [(.ref p20)]) o104
          have fr32 : Rs (α := (Int × (List (List Int)))) (F12) (us1 ++ [(.ref p20)]) (x1 ++ [(r1, (cutT x8 none (some (4 : Int))))]) := Rs_snoc (Rs_mono g27.ex (Rs_mono ex5 (Rs_mono s6 (Rs_mono s4 (Rs_mono s3 (Rs_mono g6.ex fr4)))))) (mk_tup2 ((Sub.refl _) _ _ fa13) (.int _) (mk_lst (g27.ex _ _ fa12) (Rs_mono g27.ex fr31)))
          rw [hnx1] at hm
          obtain ⟨F13, G43, ex6, fa14, nf6⟩ := o108.frzE G42
          have o109 := o107.frzN (Ne.symm (Ne.symm ne30)) nf6
          have o110 := o106.frzN (Ne.symm (Ne.symm ne31)) nf6
          have fr33 := Rs_mono ex6 (Rs_mono g27.ex (Rs_mono ex5 fr30))
          have dk51 := dk50.frzN o108 ex6 nf6
          exact ⟨F13, _, (x1 ++ [(r1, (cutT x8 none (some (4 : Int))))]), _, _, (x2 ++ (cutT x8 none (some (4 : Int)))), _, _, _, _, _, _, hm, (((((((s1.trans g6.ex).trans s3).trans s4).trans s6).trans ex5).trans g27.ex).trans ex6), G43, o110, (Rs_mono ex6 fr32), (mk_lst ((Sub.refl _) _ _ fa14) (Rs_mono (Sub.refl _) fr33)), dk51, rfl⟩
  · skip
    obtain ⟨F2, st3, x1, p3, us1, x2, v3, y1, y2, y3, y4, y5, hm, s7, G44, o111, fr34, d14, dk52, rfl⟩ := hW
    obtain ⟨a6, us11, rfl, fa15, fr35⟩ := lst_of d14
    have hm : (_law_same_base_e2) (x1, x2, st3) = some (r, stR) := forK_n hm
    rw [_law_same_base_e2] at hm
    with_reducible refine x_ret ?_
    refine ⟨_, rfl, ?_⟩
    obtain ⟨F14, G45, ex7, fa16, nf7⟩ := o111.frzE G44
    have fr36 := Rs_mono ex7 fr34
    have dk53 := dk52.frzN o111 ex7 nf7
    obtain ⟨rfl, rfl⟩ := pairp hm
    exact q _ _ _ G45 dk53.held (mk_lst ((Sub.refl _) _ _ fa16) (Rs_mono (Sub.refl _) fr36)) (fun a9 e9 => by cases e9; exact o111.n0)

abbrev N__law_store : List Str := ["cell", "great"]
theorem sc__law_store : FnScope N__law_store ["cell"] (defScope s__law_store) := ⟨rfl, rfl, rfl, by decide +kernel, rfl, by decide +kernel, by decide +kernel⟩
def sp__law_store : Sp := fun vs H Q _ => ∃ (F : Hp) (v_cell : V) (cell : Int) (r : (List Int)), vs = [v_cell] ∧ Sub F H ∧ R F v_cell cell ∧ _law_store cell = some r ∧ ∀ N H2 v, Gr NA F H N H2 → R N v r → Fz H v → Q v H2
theorem ok__law_store {P : Program} {w : World} {K : PySem.W.Frag} {mg : Str → Option Value} {base : Heap} (T : Txt K mg) : FnOk P w K mg base CX0 1 T.f__law_store.f T.f__law_store.fd ["cell"] sp__law_store := by
  have nd := (sc__law_store).nd
  refine T.f__law_store.F.ok sc__law_store (fun vs H Q E h => ?_) (fun cdv A0 outer s H vs Q E hr h => ?_)
  · obtain ⟨_, _, _, _, rfl, _⟩ := h
    rfl
  obtain ⟨F0, v_cell, cell, r, rfl, s0, f_cell, hm, q⟩ := h
  have G0 : Gr NA F0 H F0 H := Gr.refl s0
  obtain rfl := int_of f_cell
  refine ⟨_, (pss_cons (ps_set (i := 1) nd rfl (by first | exact Or.inl rfl | exact Or.inr rfl) pe_int) (Evl.pss_cut (ps_if (pt_cmp (pc_ge (pv 0) (pe_op op_pow pe_int pe_int))) (pss_one (ps_set (i := 1) nd rfl (by first | exact Or.inl rfl | exact Or.inr rfl) (pv 0))) pss_nil) (pss_one (ps_ret (pe_lst (pa_cons (pv 1) (pa_cons (pe_op op_mod (pv 0) pe_int) (pa_cons pe_int pa_nil)))))))), ?_⟩
  refine x_start (σ' := ([some (.int cell), none] : L2.St)) (by with_unfolding_all rfl) ?_
  rw [_law_store] at hm
  with_reducible refine x_seq ?_
  with_reducible refine x_asg ?_
  with_reducible refine x_c ?_
  with_reducible refine x_gnE (σ' := ([some (.int cell), some (.int 0)] : L2.St)) (by with_unfolding_all rfl) ?_
  refine ⟨(fun σ H1 => ∃ (F1 : Hp) (x1 : Int), (_law_store_j1 cell) x1 = some r ∧ Sub (F0) F1 ∧ Gr NA F0 H F1 H1 ∧ σ = [some (.int cell), some (.int x1)]), ?_, fun σ H1 hW => ?_⟩
  · with_reducible refine x_if ?_
    with_reducible refine x_B ?_
    with_reducible refine x_cmp ?_
    refine ⟨_, rfl, ?_⟩
    with_reducible refine x_op ?_
    refine ⟨_, _, rfl, rfl, ⟨by decide, by decide, by decide⟩, ?_⟩
    refine ⟨_, _, rfl, rfl, ?_⟩
    refine ⟨_, rfl, ?_⟩
    refine ifD (fun hc => ?_) (fun hc => ?_)
    · replace hm := itep hm hc
      with_reducible refine x_asg ?_
      refine ⟨_, rfl, ?_⟩
      with_reducible refine x_gnE (σ' := ([some (.int cell), some (.int cell)] : L2.St)) (by with_unfolding_all rfl) ?_
      exact ⟨F0, cell, hm, (Sub.refl _), G0, rfl⟩
    · replace hm := iten hm (bF hc)
      with_reducible refine x_next ?_
      exact ⟨F0, (0 : Int), hm, (Sub.refl _), G0, rfl⟩
  · skip
    obtain ⟨F1, x1, hm, s1, G1, rfl⟩ := hW
    have hm : (_law_store_j1 cell) x1 = some r := hm
    rw [_law_store_j1] at hm
    with_reducible refine x_ret ?_
    with_reducible refine x_lst ?_
    with_reducible refine x_cons ?_
    refine ⟨_, rfl, ?_⟩
    with_reducible refine x_cons ?_
    with_reducible refine x_op ?_
    refine ⟨_, rfl, ?_⟩
    with_reducible refine x_c ?_
    refine ⟨_, _, rfl, rfl, (show (0 : Int) < (2147483629 : Int) from by decide), ?_⟩
    with_reducible refine x_cons ?_
    with_reducible refine x_c ?_
    refine ⟨szle (show 3 ≤ 16777216 from by decide), fun p1 np1 => ?_⟩
    have fr1 : Rs (α := Int) (F1) [(.int x1), (.int (cell % (2147483629 : Int))), (.int 1)] ([x1, (cell % (2147483629 : Int)), (1 : Int)] : (List Int)) := (Rs_cons (.int _) (Rs_cons (.int _) (Rs_cons (.int _) Rs_nil)))
    have g1 := Gr.newO (o := .lst [(.int x1), (.int (cell % (2147483629 : Int))), (.int 1)]) G1.sub np1
    have o1 := Ow.new (us := [(.int x1), (.int (cell % (2147483629 : Int))), (.int 1)]) G1 np1
    have G2 := G1.step g1
    obtain ⟨F2, G3, ex1, fa1, nf1⟩ := o1.frzE G2
    have fr2 := Rs_mono ex1 fr1
    obtain rfl : _ = r := Option.some.inj hm
    exact q _ _ _ G3 (mk_lst ((Sub.refl _) _ _ fa1) (Rs_mono (Sub.refl _) fr2)) (fun a9 e9 => by cases e9; exact o1.n0)

abbrev N_law : List Str := ["script", "at", "store", "turn", "rules", "k", "given", "rule"]
theorem sc_law : FnScope N_law ["script"] (defScope s_law) := ⟨rfl, rfl, rfl, by decide +kernel, rfl, by decide +kernel, by decide +kernel⟩
omit [ErT] in
def sp_law (K : PySem.W.Frag) : Sp := fun vs H Q _ => ∃ (a : Addr) (ns : List Int), vs = [.ref a] ∧ SqL K H a (ns.map V.int) ∧ law ns = some true ∧ ∀ H2, Q (.bl true) H2
theorem ok_law {P : Program} {w : World} {K : PySem.W.Frag} {mg : Str → Option Value} {base : Heap} (T : Txt K mg) : FnOk P w K mg base CX0 10 T.f_law.f T.f_law.fd ["script"] (sp_law K) := by
  have nd := sc_law.nd
  refine T.f_law.F.ok sc_law (fun vs H Q E h => ?_) (fun cdv A0 outer s H vs Q E hr h => ?_)
  · obtain ⟨_, _, rfl, _⟩ := h
    rfl
  obtain ⟨a0, ns, rfl, hS, hm, q⟩ := h
  refine ⟨_, (pss_cons (ps_for PassesOwn.never rfl (pi_range1 (by rfl) T.z_range (pa_cons (pe_callB (call_min2 rfl) (by rfl) T.z_min (by decide +kernel) (pa_cons (pe_callB (call_max2 rfl) (by rfl) T.z_max (by decide +kernel) (pa_cons (pe_callB (r := rLenT K) call_lenT (by rfl) T.z_len PySem.boot_len (pa_cons (pv 0) pa_nil)) (pa_cons pe_int pa_nil))) (pa_cons pe_int pa_nil))) pa_nil)) (pg_name (i := 1) nd rfl (by first | exact Or.inl rfl | exact Or.inr rfl)) (pss_cons (ps_set (i := 2) nd rfl (by first | exact Or.inl rfl | exact Or.inr rfl) (pe_call (ok__law_store T) (hr.mono (by decide)) (by rfl) T.f__law_store.g T.f__law_store.F.kp T.f__law_store.b .nil pass0 (pa_cons (pe_call (ok__law_cell T) (hr.mono (by decide)) (by rfl) T.f__law_cell.g T.f__law_cell.F.kp T.f__law_cell.b .nil pass0 (pa_cons (pv 0) (pa_cons (pv 1) pa_nil))) pa_nil))) (pss_one (ps_for PassesOwn.never rfl (pi_range1 (by rfl) T.z_range (pa_cons pe_int pa_nil)) (pg_name (i := 3) nd rfl (by first | exact Or.inl rfl | exact Or.inr rfl)) (pss_cons (ps_set (i := 4) nd rfl (by first | exact Or.inl rfl | exact Or.inr rfl) (pe_call (ok__law_same_base T) (hr.mono (by decide)) (by rfl) T.f__law_same_base.g T.f__law_same_base.F.kp T.f__law_same_base.b .nil pass0 (pa_cons (pv 2) pa_nil))) (Evl.pss_cut (ps_if (pt_cmp (pc_eqI (pe_call (ok__law_take T) (hr.mono (by decide)) (by rfl) T.f__law_take.g T.f__law_take.F.kp T.f__law_take.b .nil pass0 (pa_cons (pv 2) (pa_cons pe_int pa_nil))) pe_int)) (pss_cons (ps_set (i := 5) nd rfl (by first | exact Or.inl rfl | exact Or.inr rfl) (pe_call (ok__law_take T) (hr.mono (by decide)) (by rfl) T.f__law_take.g T.f__law_take.F.kp T.f__law_take.b .nil pass0 (pa_cons (pv 2) (pa_cons (pe_callB (r := rLenT K) call_lenT (by rfl) T.z_len PySem.boot_len (pa_cons (pv 4) pa_nil)) pa_nil)))) (pss_one (ps_asg (pe_call (ok__law_rule T) (hr.mono (by decide)) (by rfl) T.f__law_rule.g T.f__law_rule.F.kp T.f__law_rule.b .nil pass0 (pa_cons (pv 2) pa_nil)) (pg_sub (pv 4) (pv 5) set_list)))) pss_nil) (pss_cons (ps_setLc (i := 6) (own := [("rule", 7)]) (g := (gName 7)) rfl nd rfl rfl (sw_true rfl rfl rfl (by decide +kernel)) (pi_list (pv 4)) (blkOk_by (own := [("rule", 7)]) (N := N_law) (sc := defScope s_law) (by decide +kernel)) (fun _ _ _ _ _ => pg_name (i := 7) nd rfl (Or.inl rfl)) (fun _ _ _ _ _ => pts_nil) (fun _ _ _ _ _ => (pe_call (ok__law_copy T) (hr.mono (by decide)) (by rfl) T.f__law_copy.g T.f__law_copy.F.kp T.f__law_copy.b .nil pass0 (pa_cons (pv 7) pa_nil)))) (pss_one (ps_if (pt_not (pt_val (pe_call (ok__law_right T) (hr.mono (by decide)) (by rfl) T.f__law_right.g T.f__law_right.F.kp T.f__law_right.b .nil pass0 (pa_cons (pv 4) (pa_cons (pv 6) pa_nil))))) (pss_one (ps_ret pe_bl)) pss_nil))))))))) (pss_one (ps_ret (pe_cmpR (op_eqT (α := (Int × (List (List Int)))) (by decide) (hu64 hr)) (pe_callS (ok_one_rule T) (hr.mono (by decide)) (by rfl) T.f_one_rule.g T.f_one_rule.F.kp T.f_one_rule.b (fun σ => passAt takesN σ) (pa_cons (pe_lst (pa_cons (pe_tup (pa_cons pe_int (pa_cons (pe_lst (pa_cons (pe_lst (pa_cons pe_int (pa_cons pe_int pa_nil))) (pa_cons (pe_lst (pa_cons pe_int (pa_cons pe_int (pa_cons pe_int pa_nil)))) pa_nil))) pa_nil))) (pa_cons (pe_tup (pa_cons pe_int (pa_cons (pe_lst (pa_cons (pe_lst (pa_cons pe_int pa_nil)) pa_nil)) pa_nil))) pa_nil))) pa_nil)) (pe_tup (pa_cons pe_int (pa_cons (pe_lst (pa_cons (pe_lst (pa_cons pe_int pa_nil)) pa_nil)) pa_nil))) (nomark _))))), ?_⟩
  rw [law] at hm
  refine x_start (σ' := ([some (.ref a0), none, none, none, none, none, none, none] : L2.St)) (by with_unfolding_all rfl) ?_
  obtain ⟨F0, hF0⟩ : ∃ F : Hp, F = fun _ => none := ⟨_, rfl⟩
  have s0 : Sub F0 H := fun a o e => by rw [hF0] at e; cases e
  have G0 : Gr NA F0 H F0 H := Gr.refl s0
  with_reducible refine x_seq ?_
  with_reducible refine x_for ?_
  with_reducible refine x_rng1 ?_
  with_reducible refine x_cons ?_
  with_reducible refine x_cb ?_
  with_reducible refine x_cons ?_
  with_reducible refine x_cb ?_
  with_reducible refine x_cons ?_
  with_reducible refine x_cb ?_
  with_reducible refine x_cons ?_
  refine ⟨_, rfl, ?_⟩
  refine ⟨_, _, rfl, .inl (SqL_gr hS G0), ?_⟩
  rw [List.length_map]
  with_reducible refine x_cons ?_
  with_reducible refine x_c ?_
  refine ⟨_, _, rfl, ?_⟩
  with_reducible refine x_cons ?_
  with_reducible refine x_c ?_
  refine ⟨_, _, rfl, ?_⟩
  obtain ⟨c1, hm⟩ := guardp hm
  refine ⟨_, rfl, c1.lo, c1.hi, ?_⟩
  refine for_rng (lo := 0) (hi := (if (12 : Int) < (if (3 : Int) > (ns.length : Int) then (3 : Int) else (ns.length : Int)) then (12 : Int) else (if (3 : Int) > (ns.length : Int) then (3 : Int) else (ns.length : Int)))) (by rw [Int.sub_zero]) (fun (ts1 : List Int) σ H1 => ∃ (F1 : Hp) (y1 : Option V) (y2 : Option V) (y3 : Option V) (y4 : Option V) (y5 : Option V) (y6 : Option V), forK (law_b1 ns) ts1 () (law_e2) = some true ∧ Sub (F0) F1 ∧ Gr NA F0 H F1 H1 ∧ σ = [some (.ref a0), y1, y5, y6, y4, y3, y2, none]) ⟨F0, _, _, _, _, _, _, hm, (Sub.refl _), G0, rfl⟩ (fun t1 ts2 σ H1 hW => ?_) (fun σ H1 hW => ?_)
  · skip
    obtain ⟨F1, y1, y2, y3, y4, y5, y6, hm, s1, G1, rfl⟩ := hW
    obtain ⟨next1, hnx1⟩ : ∃ nx, nx = fun s => forK (law_b1 ns) ts2 s (law_e2) := ⟨_, rfl⟩
    have hm : (law_b1 ns) () t1 next1 = some true := by rw [hnx1]; exact forK_c hm
    rw [law_b1] at hm
    with_reducible refine x_gnE (σ' := ([some (.ref a0), some (.int t1), y5, y6, y4, y3, y2, none] : L2.St)) (by with_unfolding_all rfl) ?_
    with_reducible refine x_seq ?_
    with_reducible refine x_asg ?_
    with_reducible refine x_call ?_
    with_reducible refine x_cons ?_
    with_reducible refine x_call ?_
    with_reducible refine x_cons ?_
    refine ⟨_, rfl, ?_⟩
    with_reducible refine x_cons ?_
    refine ⟨_, rfl, ?_⟩
    obtain ⟨r1, hr1, hm⟩ := bindp hm
    refine ⟨_, _, _, ns, t1, r1, rfl, G1.sub, ⟨_, rfl, SqL_gr hS G1⟩, (.int _), hr1, fun N1 H2 v2 g1 d1  => ?_⟩
    have G2 := G1.step g1
    obtain rfl := int_of d1
    obtain ⟨r2, hr2, hm⟩ := bindp hm
    refine ⟨_, _, r1, r2, rfl, G2.sub, (.int _), hr2, fun N2 H3 v3 g2 d2 fz1 => ?_⟩
    obtain ⟨a1, us1, rfl, fa1, fr1⟩ := lst_of d2
    have o1 := own_of (α := Int) (xs := []) G2 g2 (fz1 _ rfl) fa1
    have fr2 := Rs_flatI (F := N1) fr1
    have g3 := g2.flat G2.sub
    have G3 := G2.step g3
    with_reducible refine x_gnE (σ' := ([some (.ref a0), some (.int t1), some (.ref a1), y6, y4, y3, y2, none] : L2.St)) (by with_unfolding_all rfl) ?_
    with_reducible refine x_for ?_
    with_reducible refine x_rng1 ?_
    with_reducible refine x_cons ?_
    with_reducible refine x_c ?_
    refine ⟨_, rfl, (show Rg1 (3 : Int) from by decide).lo, (show Rg1 (3 : Int) from by decide).hi, ?_⟩
    refine for_rng (lo := 0) (hi := (3 : Int)) (by rw [Int.sub_zero]) (fun (ts3 : List Int) σ H4 => ∃ (F2 : Hp) (x1 : (List Int)) (p1 : Addr) (us2 : List V) (y7 : Option V) (y8 : Option V) (y9 : Option V) (y10 : Option V), forK (law_b3) ts3 x1 (law_e4 next1) = some true ∧ Sub (N1) F2 ∧ Gr NA F0 H F2 H4 ∧ Ow H F2 H4 p1 us2 ∧ Rs F2 us2 x1 ∧ σ = [some (.ref a0), some (.int t1), some (.ref p1), y10, y9, y8, y7, none]) ⟨N1, r2, _, _, _, _, _, _, hm, (Sub.refl _), G3, o1, fr2, rfl⟩ (fun t2 ts4 σ H1 hW => ?_) (fun σ H1 hW => ?_)
    · skip
      obtain ⟨F2, x1, p1, us2, y7, y8, y9, y10, hm, s2, G4, o2, fr3, rfl⟩ := hW
      obtain ⟨next2, hnx2⟩ : ∃ nx, nx = fun s => forK (law_b3) ts4 s (law_e4 next1) := ⟨_, rfl⟩
      have hm : (law_b3) x1 t2 next2 = some true := by rw [hnx2]; exact forK_c hm
      rw [law_b3] at hm
      with_reducible refine x_gnE (σ' := ([some (.ref a0), some (.int t1), some (.ref p1), some (.int t2), y9, y8, y7, none] : L2.St)) (by with_unfolding_all rfl) ?_
      with_reducible refine x_seq ?_
      with_reducible refine x_asg ?_
      with_reducible refine x_call ?_
      with_reducible refine x_cons ?_
      refine ⟨_, rfl, ?_⟩
      obtain ⟨⟨r3, x2⟩, hr3, hm⟩ := bindp hm
      refine ⟨_, (fun a9 => a9 = p1), p1, _, r3, x2, rfl, G4.sub, ⟨⟨_, o2.at_, fr3⟩, o2.nf, fun _ => Iff.rfl⟩, hr3, fun N3 H5 v5 g4 hd1 d3 fz9 => ?_⟩
      obtain ⟨a2, us4, rfl, fa3, fr5⟩ := lst_of d3
      have z1 := fz9 _ rfl
      have o3 := own_ofN G4 g4 z1 fa3
      have fr6 := Rs_eraseG fa3 fr5
      have g5 := g4.eraseP G4.sub z1
      have ne1 := o2.ne_new z1
      obtain ⟨⟨us3, fa2, fr4⟩, nf1, _⟩ := hd1
      replace nf1 := eraseP_none (p := a2) nf1
      replace fr4 := (Rs_int fr4).symm ▸ (int_Rs (F := (eraseP N3 a2)) x2)
      have G5 := G4.transO g5 o2.n0
      have o4 : Ow _ (eraseP N3 a2) H5 p1 us3 := ⟨fa2, nf1, o2.n0⟩
      with_reducible refine x_gnE (σ' := ([some (.ref a0), some (.int t1), some (.ref p1), some (.int t2), some (.ref a2), y8, y7, none] : L2.St)) (by with_unfolding_all rfl) ?_
      refine ⟨(fun σ H6 => ∃ (F3 : Hp) (x3 : (List Int)) (p2 : Addr) (us5 : List V) (x4 : (List (Int × (List (List Int))))) (p3 : Addr) (us6 : List V) (y11 : Option V), (law_j5 next2) (x3, x4) = some true ∧ Sub ((eraseP N3 a2)) F3 ∧ Gr NA F0 H F3 H6 ∧ Ow H F3 H6 p2 us5 ∧ Rs F3 us5 x3 ∧ Ow H F3 H6 p3 us6 ∧ Rs F3 us6 x4 ∧ p2 ≠ p3 ∧ σ = [some (.ref a0), some (.int t1), some (.ref p2), some (.int t2), some (.ref p3), y11, y7, none]), ?_, fun σ H1 hW => ?_⟩
      · with_reducible refine x_if ?_
        with_reducible refine x_B ?_
        with_reducible refine x_cmp ?_
        with_reducible refine x_call ?_
        with_reducible refine x_cons ?_
        refine ⟨_, rfl, ?_⟩
        with_reducible refine x_cons ?_
        with_reducible refine x_c ?_
        obtain ⟨⟨r4, x5⟩, hr4, hm⟩ := bindp hm
        refine ⟨_, (fun a9 => a9 = p1), p1, _, _, (6 : Int), r4, x5, rfl, G5.sub, ⟨⟨_, o4.at_, fr4⟩, o4.nf, fun _ => Iff.rfl⟩, (.int _), hr4, fun N4 H7 v6 g6 hd2 d4 => ?_⟩
        obtain ⟨⟨us7, fa4, fr7⟩, nf2, _⟩ := hd2
        have G6 := G5.transO g6 o4.n0
        have o5 := o3.stepA g6 (fun e9 => (Ne.symm ne1) e9)
        have o6 : Ow _ N4 H7 p1 us7 := ⟨fa4, nf2, o4.n0⟩
        obtain rfl := int_of d4
        with_reducible refine x_c ?_
        refine ⟨_, _, rfl, rfl, ?_⟩
        refine ⟨_, rfl, ?_⟩
        refine ifD (fun hc => ?_) (fun hc => ?_)
        · replace hm := itep hm hc
          with_reducible refine x_seq ?_
          with_reducible refine x_asg ?_
          with_reducible refine x_call ?_
          with_reducible refine x_cons ?_
          refine ⟨_, rfl, ?_⟩
          with_reducible refine x_cons ?_
          refine useEv (.int (r3.length : Int)) (by exact (ev_lenT (Evl.ev_var rfl) o5.at_ (Rs_mono g6.ex fr6))) (fun H8 e1 => ?_)
          have g7 := gr_ex G6.sub e1
          have G7 := G6.step g7
          have o7 := o6.step g7
          have o8 := o5.step g7
          obtain ⟨⟨r5, x6⟩, hr5, hm⟩ := bindp hm
          refine ⟨_, (fun a9 => a9 = p1), p1, _, _, (r3.length : Int), r5, x6, rfl, G7.sub, ⟨⟨_, o7.at_, fr7⟩, o7.nf, fun _ => Iff.rfl⟩, (.int _), hr5, fun N5 H9 v7 g8 hd3 d5 => ?_⟩
          obtain ⟨⟨us8, fa5, fr8⟩, nf3, _⟩ := hd3
          have G8 := G7.transO g8 o7.n0
          have o9 := o8.stepA g8 (fun e9 => (Ne.symm ne1) e9)
          have o10 : Ow _ N5 H9 p1 us8 := ⟨fa5, nf3, o7.n0⟩
          obtain rfl := int_of d5
          with_reducible refine x_gnE (σ' := ([some (.ref a0), some (.int t1), some (.ref p1), some (.int t2), some (.ref a2), some (.int r5), y7, none] : L2.St)) (by with_unfolding_all rfl) ?_
          with_reducible refine x_asg ?_
          with_reducible refine x_call ?_
          with_reducible refine x_cons ?_
          refine ⟨_, rfl, ?_⟩
          obtain ⟨⟨r6, x7⟩, hr6, hm⟩ := bindp hm
          refine ⟨_, (fun a9 => a9 = p1), p1, _, r6, x7, rfl, G8.sub, ⟨⟨_, o10.at_, fr8⟩, o10.nf, fun _ => Iff.rfl⟩, hr6, fun N6 H10 v8 g9 hd4 d6 => ?_⟩
          obtain ⟨⟨us9, fa6, fr9⟩, nf4, _⟩ := hd4
          have G9 := G8.transO g9 o10.n0
          have o11 := o9.stepA g9 (fun e9 => (Ne.symm ne1) e9)
          have o12 : Ow _ N6 H10 p1 us9 := ⟨fa6, nf4, o10.n0⟩
          obtain ⟨a3, v9, v10, rfl, fa7, d7, d8⟩ := tup2_of d6
          obtain rfl := int_of d7
          obtain ⟨a4, us10, rfl, fa8, fr10⟩ := lst_of d8
          refine ⟨_, rfl, ?_⟩
          refine ⟨_, rfl, ?_⟩
          obtain ⟨j1, hj1, hm⟩ := bindp hm
          refine ⟨_, _, _, _, rfl, rfl, o11.at_, (by rw [Rs_len (Rs_mono g9.ex (Rs_mono g8.ex (Rs_mono g6.ex fr6)))]; exact hj1), ?_⟩
          have G10 := o11.mutG (o := .lst (us4.set j1 (.ref a3))) G9
          have o13 := o11.mut (ws := us4.set j1 (.ref a3))
          have o14 := o12.other (ws := us4.set j1 (.ref a3)) (Ne.symm ne1)
          have fr11 : Rs (α := (Int × (List (List Int)))) (N6) (us4.set j1 (.ref a3)) (r3.set j1 r6) := Rs_set (Rs_mono g9.ex (Rs_mono g8.ex (Rs_mono g6.ex fr6))) (mk_tup2 ((Sub.refl _) _ _ fa7) (.int _) (mk_lst ((Sub.refl _) _ _ fa8) (Rs_mono (Sub.refl _) fr10)))
          exact ⟨N6, x7, _, _, (r3.set j1 r6), _, _, _, hm, ((g6.ex.trans g8.ex).trans g9.ex), G10, o14, fr9, o13, fr11, (Ne.symm (Ne.symm ne1)), rfl⟩
        · replace hm := iten hm (bF hc)
          with_reducible refine x_next ?_
          exact ⟨N4, x5, _, _, r3, _, _, _, hm, g6.ex, G6, o6, fr7, o5, (Rs_mono g6.ex fr6), (Ne.symm (Ne.symm ne1)), rfl⟩
      · skip
        obtain ⟨F3, x3, p2, us5, x4, p3, us6, y11, hm, s3, G11, o15, fr12, o16, fr13, ne2, rfl⟩ := hW
        have hm : (law_j5 next2) (x3, x4) = some true := hm
        rw [law_j5] at hm
        with_reducible refine x_seq ?_
        with_reducible refine x_asg ?_
        with_reducible refine x_lc ?_
        with_reducible refine x_iter ?_
        refine ⟨_, rfl, ?_⟩
        refine ⟨_, rfl, ⟨_, .inl (.inl o16.at_)⟩, fun p4 np1 => ?_⟩
        have g10 := Gr.newO (o := .lst []) G11.sub np1
        have o17 := Ow.new (us := []) G11 np1
        have ne3 := o15.ne_new np1
        have ne4 := o16.ne_new np1
        have G12 := G11.step g10
        have o18 := o15.step g10
        have o19 := o16.step g10
        refine lc_lst (α := (Int × (List (List Int)))) (fun (ts5 : List (Int × (List (List Int)))) H11 => ∃ (F4 : Hp) (x9 : List (Int × (List (List Int)))) (us12 : List V), forK (law_c6) ts5 x9 (law_k7 x4 next2 x3) = some true ∧ Sub (F3) F4 ∧ Gr NA F0 H F4 H11 ∧ Ow H F4 H11 p4 us12 ∧ Rs F4 us12 x9 ∧ Ow H F4 H11 p2 us5 ∧ Ow H F4 H11 p3 us6) fr13 ⟨F3, ([] : List (Int × (List (List Int)))), _, hm, (Sub.refl _), G12, o17, Rs_nil, o18, o19⟩ (fun _ _ h => ?_) (fun t3 ts6 v11 H1 hv3 hW => ?_) (fun H1 hW => ?_)
        · obtain ⟨F9z, _, _, _, s9z, G9z, _, _, _, q9⟩ := h
          exact q9.at_
        · skip
          obtain ⟨F4, x9, us12, hm, s4, G13, o20, fr14, o21, o22⟩ := hW
          obtain ⟨next3, hnx3⟩ : ∃ nx, nx = fun s => forK (law_c6) ts6 s (law_k7 x4 next2 x3) := ⟨_, rfl⟩
          have hm : (law_c6) x9 t3 next3 = some true := by rw [hnx3]; exact forK_c hm
          rw [law_c6] at hm
          obtain ⟨a5, v12, v13, rfl, fa9, d9, d10⟩ := tup2_of hv3
          obtain rfl := int_of d9
          obtain ⟨a6, us13, rfl, fa10, fr15⟩ := lst_of d10
          with_reducible refine x_gnE (σ' := ([some (.ref a0), some (.int t1), some (.ref p2), some (.int t2), some (.ref p3), y11, y7, some (.ref a5)] : L2.St)) (by with_unfolding_all rfl) ?_
          refine ⟨rfl, ?_⟩
          with_reducible refine x_yes ?_
          refine iteT ?_
          with_reducible refine x_call ?_
          with_reducible refine x_cons ?_
          refine ⟨_, rfl, ?_⟩
          obtain ⟨r7, hr7, hm⟩ := bindp hm
          refine ⟨_, _, t3, r7, rfl, G13.sub, (mk_tup2 (s4 _ _ fa9) (.int _) (mk_lst (s4 _ _ fa10) (Rs_mono s4 fr15))), hr7, fun N7 H12 v14 g11 d11  => ?_⟩
          have G14 := G13.step g11
          have o23 := o20.step g11
          have o24 := o21.step g11
          have o25 := o22.step g11
          obtain ⟨a7, v15, v16, rfl, fa11, d12, d13⟩ := tup2_of d11
          obtain rfl := int_of d12
          obtain ⟨a8, us14, rfl, fa12, fr16⟩ := lst_of d13
          obtain ⟨c2, hm⟩ := guardp hm
          have G15 := o23.mutG (o := .lst (us12 ++ [(.ref a7)])) G14
          have o26 := o23.mut (ws := us12 ++ [(.ref a7)])
          have fr17 : Rs (α := (Int × (List (List Int)))) (N7) (us12 ++ [(.ref a7)]) (x9 ++ [r7]) := Rs_snoc (Rs_mono g11.ex fr14) (mk_tup2 ((Sub.refl _) _ _ fa11) (.int _) (mk_lst ((Sub.refl _) _ _ fa12) (Rs_mono (Sub.refl _) fr16)))
          have o27 := o24.other (ws := us12 ++ [(.ref a7)]) (Ne.symm ne3)
          have o28 := o25.other (ws := us12 ++ [(.ref a7)]) (Ne.symm ne4)
          rw [hnx3] at hm
          exact ⟨_, o23.at_, szl (by rw [Rs_len (Rs_mono g11.ex fr14)]; exact c2), ⟨N7, (x9 ++ [r7]), _, hm, (s4.trans g11.ex), G15, o26, fr17, o27, o28⟩⟩
        · skip
          obtain ⟨F4, x9, us12, hm, s5, G16, o29, fr18, o30, o31⟩ := hW
          have hm : (law_k7 x4 next2 x3) x9 = some true := forK_n hm
          rw [law_k7] at hm
          obtain ⟨F5, G17, ex1, fa13, nf5⟩ := o29.frzE G16
          have o32 := o30.frzN (Ne.symm (Ne.symm ne3)) nf5
          have o33 := o31.frzN (Ne.symm (Ne.symm ne4)) nf5
          have fr19 := Rs_mono ex1 fr18
          with_reducible refine x_gnE (σ' := ([some (.ref a0), some (.int t1), some (.ref p2), some (.int t2), some (.ref p3), y11, some (.ref p4), none] : L2.St)) (by with_unfolding_all rfl) ?_
          with_reducible refine x_if ?_
          with_reducible refine x_not ?_
          with_reducible refine x_B ?_
          with_reducible refine x_call ?_
          with_reducible refine x_cons ?_
          refine ⟨_, rfl, ?_⟩
          with_reducible refine x_cons ?_
          refine ⟨_, rfl, ?_⟩
          obtain ⟨r8, hr8, hm⟩ := bindp hm
          refine ⟨upd (F5) p3 (.lst us6), _, _, x4, x9, r8, rfl, o33.sub G17.sub, (mk_lst upd_same (Rs_mono o33.ex (Rs_mono ex1 (Rs_mono s5 fr13)))), (RD.mono o33.ex (mk_lst ((Sub.refl _) _ _ fa13) (Rs_mono (Sub.refl _) fr19))), hr8, fun N8 H13 v17 g12 d14 => ?_⟩
          obtain rfl := bl_of d14
          have g13 := g12.flat G17.sub
          have G18 := G17.step g13
          have o34 := o32.step g13
          have o35 := o33.step g13
          refine ⟨_, rfl, ?_⟩
          refine ifD (fun hc => ?_) (fun hc => ?_)
          · replace hm := itep hm hc
            with_reducible refine x_ret ?_
            with_reducible refine x_c ?_
            exact ret_true hm q
          · replace hm := iten hm (bF hc)
            with_reducible refine x_next ?_
            rw [hnx2] at hm
            exact ⟨F5, x3, _, _, _, _, _, _, hm, ((((s2.trans g5.ex).trans s3).trans s5).trans ex1), G18, o34, (Rs_mono ex1 (Rs_mono s5 fr12)), rfl⟩
    · skip
      obtain ⟨F2, x1, p1, us2, y7, y8, y9, y10, hm, s6, G19, o36, fr20, rfl⟩ := hW
      have hm : (law_e4 next1) x1 = some true := forK_n hm
      rw [law_e4] at hm
      rw [hnx1] at hm
      exact ⟨F2, _, _, _, _, _, _, hm, ((s1.trans g1.ex).trans s6), G19, rfl⟩
  · skip
    obtain ⟨F1, y1, y2, y3, y4, y5, y6, hm, s7, G20, rfl⟩ := hW
    have hm : (law_e2) () = some true := forK_n hm
    rw [law_e2] at hm
    with_reducible refine x_ret ?_
    with_reducible refine x_op ?_
    with_reducible refine x_callS ?_
    with_reducible refine x_cons ?_
    with_reducible refine x_lst ?_
    with_reducible refine x_cons ?_
    with_reducible refine x_tup ?_
    with_reducible refine x_cons ?_
    with_reducible refine x_c ?_
    with_reducible refine x_cons ?_
    with_reducible refine x_lst ?_
    with_reducible refine x_cons ?_
    with_reducible refine x_lst ?_
    with_reducible refine x_cons ?_
    with_reducible refine x_c ?_
    with_reducible refine x_cons ?_
    with_reducible refine x_c ?_
    refine ⟨szle (show 2 ≤ 16777216 from by decide), fun p5 np2 => ?_⟩
    have fr21 : Rs (α := Int) (F1) [(.int 1), (.int 3)] ([(1 : Int), (3 : Int)] : (List Int)) := (Rs_cons (.int _) (Rs_cons (.int _) Rs_nil))
    have g14 := Gr.newO (o := .lst [(.int 1), (.int 3)]) G20.sub np2
    have o37 := Ow.new (us := [(.int 1), (.int 3)]) G20 np2
    have G21 := G20.step g14
    obtain ⟨F6, G22, ex2, fa14, nf6⟩ := o37.frzE G21
    have fr22 := Rs_mono ex2 fr21
    with_reducible refine x_cons ?_
    with_reducible refine x_lst ?_
    with_reducible refine x_cons ?_
    with_reducible refine x_c ?_
    with_reducible refine x_cons ?_
    with_reducible refine x_c ?_
    with_reducible refine x_cons ?_
    with_reducible refine x_c ?_
    refine ⟨szle (show 3 ≤ 16777216 from by decide), fun p6 np3 => ?_⟩
    have fr23 : Rs (α := Int) (F6) [(.int 1), (.int 3), (.int 1)] ([(1 : Int), (3 : Int), (1 : Int)] : (List Int)) := (Rs_cons (.int _) (Rs_cons (.int _) (Rs_cons (.int _) Rs_nil)))
    have g15 := Gr.newO (o := .lst [(.int 1), (.int 3), (.int 1)]) G22.sub np3
    have o38 := Ow.new (us := [(.int 1), (.int 3), (.int 1)]) G22 np3
    have G23 := G22.step g15
    obtain ⟨F7, G24, ex3, fa15, nf7⟩ := o38.frzE G23
    have fr24 := Rs_mono ex3 fr23
    refine ⟨szle (show 2 ≤ 16777216 from by decide), fun p7 np4 => ?_⟩
    have fr25 : Rs (α := (List Int)) (F7) [(.ref p5), (.ref p6)] ([([(1 : Int), (3 : Int)] : (List Int)), ([(1 : Int), (3 : Int), (1 : Int)] : (List Int))] : (List (List Int))) := (Rs_cons (mk_lst (ex3 _ _ fa14) (Rs_mono ex3 fr22)) (Rs_cons (mk_lst ((Sub.refl _) _ _ fa15) (Rs_mono (Sub.refl _) fr24)) Rs_nil))
    have g16 := Gr.newO (o := .lst [(.ref p5), (.ref p6)]) G24.sub np4
    have o39 := Ow.new (us := [(.ref p5), (.ref p6)]) G24 np4
    have G25 := G24.step g16
    obtain ⟨F8, G26, ex4, fa16, nf8⟩ := o39.frzE G25
    have fr26 := Rs_mono ex4 fr25
    refine ⟨szle (show 2 ≤ 16777216 from by decide), fun p8 np5 => ?_⟩
    obtain ⟨F9, g17, fa17⟩ := Gr.newE (o := .tup [(.int 10), (.ref p7)]) G26.sub np5
    have G27 := G26.step g17
    with_reducible refine x_cons ?_
    with_reducible refine x_tup ?_
    with_reducible refine x_cons ?_
    with_reducible refine x_c ?_
    with_reducible refine x_cons ?_
    with_reducible refine x_lst ?_
    with_reducible refine x_cons ?_
    with_reducible refine x_lst ?_
    with_reducible refine x_cons ?_
    with_reducible refine x_c ?_
    refine ⟨szle (show 1 ≤ 16777216 from by decide), fun p9 np6 => ?_⟩
    have fr27 : Rs (α := Int) (F9) [(.int 1)] ([(1 : Int)] : (List Int)) := (Rs_cons (.int _) Rs_nil)
    have g18 := Gr.newO (o := .lst [(.int 1)]) G27.sub np6
    have o40 := Ow.new (us := [(.int 1)]) G27 np6
    have G28 := G27.step g18
    obtain ⟨F10, G29, ex5, fa18, nf9⟩ := o40.frzE G28
    have fr28 := Rs_mono ex5 fr27
    refine ⟨szle (show 1 ≤ 16777216 from by decide), fun p10 np7 => ?_⟩
    have fr29 : Rs (α := (List Int)) (F10) [(.ref p9)] ([([(1 : Int)] : (List Int))] : (List (List Int))) := (Rs_cons (mk_lst ((Sub.refl _) _ _ fa18) (Rs_mono (Sub.refl _) fr28)) Rs_nil)
    have g19 := Gr.newO (o := .lst [(.ref p9)]) G29.sub np7
    have o41 := Ow.new (us := [(.ref p9)]) G29 np7
    have G30 := G29.step g19
    obtain ⟨F11, G31, ex6, fa19, nf10⟩ := o41.frzE G30
    have fr30 := Rs_mono ex6 fr29
    refine ⟨szle (show 2 ≤ 16777216 from by decide), fun p11 np8 => ?_⟩
    obtain ⟨F12, g20, fa20⟩ := Gr.newE (o := .tup [(.int 10), (.ref p10)]) G31.sub np8
    have G32 := G31.step g20
    refine ⟨szle (show 2 ≤ 16777216 from by decide), fun p12 np9 => ?_⟩
    have fr31 : Rs (α := (Int × (List (List Int)))) (F12) [(.ref p8), (.ref p11)] ([((10 : Int), ([([(1 : Int), (3 : Int)] : (List Int)), ([(1 : Int), (3 : Int), (1 : Int)] : (List Int))] : (List (List Int)))), ((10 : Int), ([([(1 : Int)] : (List Int))] : (List (List Int))))] : (List (Int × (List (List Int))))) := (Rs_cons (mk_tup2 (((ex5.trans ex6).trans g20.ex) _ _ fa17) (.int _) (mk_lst ((((g17.ex.trans ex5).trans ex6).trans g20.ex) _ _ fa16) (Rs_mono (((g17.ex.trans ex5).trans ex6).trans g20.ex) fr26))) (Rs_cons (mk_tup2 ((Sub.refl _) _ _ fa20) (.int _) (mk_lst (g20.ex _ _ fa19) (Rs_mono g20.ex fr30))) Rs_nil))
    have g21 := Gr.newO (o := .lst [(.ref p8), (.ref p11)]) G32.sub np9
    have o42 := Ow.new (us := [(.ref p8), (.ref p11)]) G32 np9
    have G33 := G32.step g21
    obtain ⟨F13, G34, ex7, fa21, nf11⟩ := o42.frzE G33
    have fr32 := Rs_mono ex7 fr31
    obtain ⟨r9, hr9, hm⟩ := bindp hm
    refine ⟨_, _, ([((10 : Int), ([([(1 : Int), (3 : Int)] : (List Int)), ([(1 : Int), (3 : Int), (1 : Int)] : (List Int))] : (List (List Int)))), ((10 : Int), ([([(1 : Int)] : (List Int))] : (List (List Int))))] : (List (Int × (List (List Int))))), r9, rfl, G34.sub, (mk_lst ((Sub.refl _) _ _ fa21) (Rs_mono (Sub.refl _) fr32)), hr9, fun y12 e9 N9 H14 v18 g22 d15 => ?_, fun er1 e9 N9 H14 g22 => ?_⟩
    · subst e9; rw [exB_ok] at hm
      have G35 := G34.step g22
      obtain ⟨a9, v19, v20, rfl, fa22, d16, d17⟩ := tup2_of (NR_r d15)
      obtain rfl := int_of d16
      obtain ⟨a10, us15, rfl, fa23, fr33⟩ := lst_of d17
      with_reducible refine x_tup ?_
      with_reducible refine x_cons ?_
      with_reducible refine x_c ?_
      with_reducible refine x_cons ?_
      with_reducible refine x_lst ?_
      with_reducible refine x_cons ?_
      with_reducible refine x_lst ?_
      with_reducible refine x_cons ?_
      with_reducible refine x_c ?_
      refine ⟨szle (show 1 ≤ 16777216 from by decide), fun p13 np10 => ?_⟩
      have fr34 : Rs (α := Int) (N9) [(.int 1)] ([(1 : Int)] : (List Int)) := (Rs_cons (.int _) Rs_nil)
      have g23 := Gr.newO (o := .lst [(.int 1)]) G35.sub np10
      have o43 := Ow.new (us := [(.int 1)]) G35 np10
      have G36 := G35.step g23
      obtain ⟨F14, G37, ex8, fa24, nf12⟩ := o43.frzE G36
      have fr35 := Rs_mono ex8 fr34
      refine ⟨szle (show 1 ≤ 16777216 from by decide), fun p14 np11 => ?_⟩
      have fr36 : Rs (α := (List Int)) (F14) [(.ref p13)] ([([(1 : Int)] : (List Int))] : (List (List Int))) := (Rs_cons (mk_lst ((Sub.refl _) _ _ fa24) (Rs_mono (Sub.refl _) fr35)) Rs_nil)
      have g24 := Gr.newO (o := .lst [(.ref p13)]) G37.sub np11
      have o44 := Ow.new (us := [(.ref p13)]) G37 np11
      have G38 := G37.step g24
      obtain ⟨F15, G39, ex9, fa25, nf13⟩ := o44.frzE G38
      have fr37 := Rs_mono ex9 fr36
      refine ⟨szle (show 2 ≤ 16777216 from by decide), fun p15 np12 => ?_⟩
      obtain ⟨F16, g25, fa26⟩ := Gr.newE (o := .tup [(.int 10), (.ref p14)]) G39.sub np12
      have G40 := G39.step g25
      refine ⟨_, y12, ((10 : Int), ([([(1 : Int)] : (List Int))] : (List (List Int)))), Sub.refl _, (RD.mono G40.sub (mk_tup2 (((ex8.trans ex9).trans g25.ex) _ _ fa22) (.int _) (mk_lst (((ex8.trans ex9).trans g25.ex) _ _ fa23) (Rs_mono ((ex8.trans ex9).trans g25.ex) fr33)))), (RD.mono G40.sub (mk_tup2 ((Sub.refl _) _ _ fa26) (.int _) (mk_lst (g25.ex _ _ fa25) (Rs_mono g25.ex fr37)))), ?_⟩
      exact ret_true hm q
    · subst e9; rw [exB_err] at hm
      have G41 := G34.step g22
      exact no_none hm

end

/-! ### mathematics, with no program in sight -/
section
/-- an answer is there, and it is so -/
def Ok {α : Type} (o : Option α) (Q : α → Prop) : Prop := ∃ x, o = some x ∧ Q x
variable {α β S ρ : Type} {Q : ρ → Prop}
theorem Ok.mk {x : α} {Q : α → Prop} (h : Q x) : Ok (some x) Q := ⟨x, rfl, h⟩
theorem Ok.bind {o : Option α} {f : α → Option ρ} {P : α → Prop} (h : Ok o P) (k : ∀ x, P x → Ok (f x) Q) : Ok (o.bind f) Q := by
  obtain ⟨x, rfl, p⟩ := h
  exact k x p
theorem Ok.mono {o : Option ρ} {P : ρ → Prop} (h : Ok o P) (k : ∀ x, P x → Q x) : Ok o Q := by
  obtain ⟨x, e, p⟩ := h
  exact ⟨x, e, k x p⟩
theorem Ok.guard {c : Prop} [Decidable c] {a : Option ρ} (hc : c) (h : Ok a Q) : Ok (if c then a else none) Q := by rw [if_pos hc]; exact h
theorem Ok.ite {c : Prop} [Decidable c] {a b : Option ρ} (h1 : c → Ok a Q) (h2 : ¬ c → Ok b Q) : Ok (if c then a else b) Q := by
  by_cases h : c
  · rw [if_pos h]; exact h1 h
  · rw [if_neg h]; exact h2 h
theorem Ok.eq {o : Option ρ} {x : ρ} (h : Ok o (· = x)) : o = some x := by
  obtain ⟨y, e, rfl⟩ := h
  exact e
theorem Ok.of {o : Option ρ} {x : ρ} (h : o = some x) (q : Q x) : Ok o Q := ⟨x, h, q⟩
theorem forK_ok {f : S → α → (S → Option ρ) → Option ρ} {K : S → Option ρ} {P : S → Prop} : ∀ {xs : List α} {s : S}, P s →
    (∀ s x next, x ∈ xs → P s → (∀ s', P s' → Ok (next s') Q) → Ok (f s x next) Q) → (∀ s, P s → Ok (K s) Q) → Ok (forK f xs s K) Q
  | [], s, h0, _, hK => hK s h0
  | x :: xs, s, h0, hs, hK => hs s x _ List.mem_cons_self h0 fun s' h' => forK_ok h' (fun s y next hy => hs s y next (List.mem_cons_of_mem _ hy)) hK
/-- with what has been gone through -/
theorem forK_okI {f : S → α → (S → Option ρ) → Option ρ} {K : S → Option ρ} {P : List α → S → Prop} {xs : List α} {s : S} (h0 : P [] s)
    (hs : ∀ pre x post s next, xs = pre ++ x :: post → P pre s → (∀ s', P (pre ++ [x]) s' → Ok (next s') Q) → Ok (f s x next) Q) (hK : ∀ s, P xs s → Ok (K s) Q) : Ok (forK f xs s K) Q := by
  have all : ∀ (post pre : List α) (s : S), xs = pre ++ post → P pre s → Ok (forK f post s K) Q := by
    intro post
    induction post with
    | nil => intro pre s e h; rw [List.append_nil] at e; subst e; exact hK s h
    | cons x post ih =>
      intro pre s e h
      exact hs pre x post s _ e h fun s' h' => ih (pre ++ [x]) s' (by rw [e, List.append_assoc]; rfl) h'
  exact all xs [] s rfl h0
theorem whileK_ok {f : S → (S → Option ρ) → Option ρ} {P : S → Prop} (μ : S → Nat) (h : ∀ s next, P s → (∀ s', P s' → μ s' < μ s → Ok (next s') Q) → Ok (f s next) Q) :
    ∀ (m : Nat) (s : S), P s → μ s < m → Ok (whileK f m s) Q
  | 0, _, _, hm => absurd hm (Nat.not_lt_zero _)
  | m + 1, s, hp, hm => h s _ hp fun s' hp' hl => whileK_ok μ h m s' hp' (Nat.lt_of_lt_of_le hl (Nat.le_of_lt_succ hm))
/-- a loop that leaves early or goes on -/
theorem forK_stop {f : S → α → (S → Option ρ) → Option ρ} {K : S → Option ρ} {p : α → Bool} {c : Option ρ} {s : S} (h : ∀ x next, f s x next = if p x = true then c else next s) : ∀ xs : List α, forK f xs s K = if xs.any p = true then c else K s
  | [] => rfl
  | x :: xs => by
    show f s x _ = _
    rw [h, forK_stop h xs, List.any_cons]
    cases p x <;> simp
theorem forK_fold {f : S → α → (S → Option ρ) → Option ρ} {K : S → Option ρ} {g : S → α → S} (h : ∀ s x next, f s x next = next (g s x)) : ∀ (xs : List α) (s : S), forK f xs s K = K (xs.foldl g s)
  | [], _ => rfl
  | x :: xs, s => by
    show f s x _ = _
    rw [h]; exact forK_fold h xs _
/-- a comprehension whose element and test are total -/
theorem forK_fm {f : List β → α → (List β → Option ρ) → Option ρ} {K : List β → Option ρ} {p : α → Bool} {g : α → β} {B : Nat} (h : ∀ acc x next, acc.length < B → f acc x next = if p x = true then next (acc ++ [g x]) else next acc) :
    ∀ (xs : List α) (acc : List β), acc.length + xs.length ≤ B → forK f xs acc K = K (acc ++ (xs.filter p).map g)
  | [], acc, _ => by rw [List.filter_nil, List.map_nil, List.append_nil]; rfl
  | x :: xs, acc, hB => by
    rw [List.length_cons] at hB
    show f acc x _ = _
    rw [h acc x _ (by omega), List.filter_cons]
    cases hp : p x with
    | true =>
      rw [if_pos rfl, if_pos rfl, List.map_cons]
      have := forK_fm (K := K) h xs (acc ++ [g x]) (by rw [List.length_append, List.length_singleton]; omega)
      rw [List.append_assoc] at this
      exact this
    | false =>
      rw [if_neg Bool.false_ne_true, if_neg Bool.false_ne_true]
      exact forK_fm h xs acc (by omega)
end
theorem irange_mem {lo hi x : Int} : x ∈ irange lo hi ↔ lo ≤ x ∧ x < hi := by
  unfold irange
  rw [List.mem_map]
  constructor
  · rintro ⟨i, hi', rfl⟩
    rw [List.mem_range] at hi'
    omega
  · intro h
    exact ⟨(x - lo).toNat, by rw [List.mem_range]; omega, by omega⟩
theorem sz_ok {n : Nat} (h : n < 100000) : n < 16777216 := by omega
theorem Mv_of {i j : Int} {a b : Nat} (ha : i.natAbs < 2 ^ a) (hb : j.natAbs < 2 ^ b) (h0 : 0 < a) (h1 : 0 < b) (h : a + b ≤ 1000000) : Mv i j := wide_mul ha hb h0 h1 h
theorem Dv_small {j : Int} (h : 0 < j) (h2 : j < 2 ^ 64) : Dv j := (wide_div (i := 0) (b := 64) h (by omega) (by decide) (by decide) : CDivW 0 j)
theorem Dv_of {j : Int} {b : Nat} (h : 0 < j) (h2 : j.natAbs < 2 ^ b) (h0 : 0 < b) (h9 : b ≤ 9000) : Dv j := (wide_div (i := 0) h h2 h0 h9 : CDivW 0 j)

/-! #### draws -/
def DkOk (st : DkS) : Prop := st.1 ≠ []
theorem mkDeck_ok (ns : List Int) : DkOk (mkDeck ns) := by
  unfold DkOk mkDeck
  have h : 1 ≤ deckLen ns := by unfold deckLen; omega
  intro e
  have := congrArg List.length e
  simp at this
  omega
theorem draw_ok {st : DkS} {many : Int} (h : DkOk st) (h0 : 0 < many) (h1 : many < 2 ^ 64) : Ok (_law_draw st many) fun p => (0 ≤ p.1 ∧ p.1 < many) ∧ DkOk p.2 := by
  unfold _law_draw
  refine Ok.guard (Dv_small h0 h1) ?_
  have hl : 0 < st.1.length := List.length_pos_iff.mpr h
  have e1 := Int.emod_nonneg st.2 (show (st.1.length : Int) ≠ 0 by omega)
  have e2 := Int.emod_lt_of_pos st.2 (show (0 : Int) < (st.1.length : Int) by omega)
  have hi : (st.2 % (st.1.length : Int)).toNat < st.1.length := by omega
  rw [List.getElem?_eq_getElem hi]
  show Ok (if _ then _ else _) _
  have ok2 : ∀ p : Int × Int × Int, DkOk (st.1.set (st.2 % (st.1.length : Int)).toNat p, st.2 + 1) := fun p e => by
    have := congrArg List.length e
    simp only [List.length_set, List.length_nil] at this
    omega
  refine Ok.ite (fun _ => ?_) (fun _ => ?_)
  · exact Ok.mk ⟨⟨Int.emod_nonneg _ (by omega), Int.emod_lt_of_pos _ h0⟩, ok2 _⟩
  · exact Ok.mk ⟨⟨Int.emod_nonneg _ (by omega), Int.emod_lt_of_pos _ h0⟩, ok2 _⟩

/-! #### figures of numbers -/
/-- how many binary places -/
def lg (n : Int) : Nat := if n ≤ 0 then 0 else Nat.log2 n.toNat + 1
theorem lg_le {n : Int} {k : Nat} (h : n < 2 ^ k) : lg n ≤ k := by
  unfold lg
  by_cases h0 : n ≤ 0
  · rw [if_pos h0]; exact Nat.zero_le _
  · rw [if_neg h0]
    have h1 : n.toNat < 2 ^ k := by
      have : ((2 ^ k : Nat) : Int) = 2 ^ k := by push_cast; rfl
      omega
    have := (Nat.log2_lt (n := n.toNat) (k := k) (by omega)).mpr h1
    omega
theorem lt_lg (n : Int) : n < 2 ^ lg n := by
  unfold lg
  by_cases h0 : n ≤ 0
  · rw [if_pos h0]; show n < 1; omega
  · rw [if_neg h0]
    have h1 := Nat.lt_log2_self (n := n.toNat)
    have : ((2 ^ (Nat.log2 n.toNat + 1) : Nat) : Int) = 2 ^ (Nat.log2 n.toNat + 1) := by push_cast; rfl
    omega
theorem lg_div {n b : Int} (hn : 0 < n) (hb : 2 ≤ b) : lg (n / b) < lg n := by
  have h1 := lt_lg n
  have hk : 0 < lg n := by unfold lg; rw [if_neg (by omega)]; omega
  obtain ⟨k, e⟩ : ∃ k, lg n = k + 1 := ⟨lg n - 1, by omega⟩
  rw [e] at h1 ⊢
  have h2 : n / b < 2 ^ k := by
    refine Int.ediv_lt_of_lt_mul (by omega) ?_
    have p : (0 : Int) ≤ 2 ^ k := Int.le_of_lt (Int.pow_pos (by decide))
    have := Int.mul_le_mul_of_nonneg_left hb p
    rw [Int.pow_succ] at h1
    omega
  have := lg_le h2
  omega

theorem ediv_lt_self {b n : Int} (hb : 2 ≤ b) (hn : 0 < n) : n / b < n := by
  refine Int.ediv_lt_of_lt_mul (by omega) ?_
  have := Int.mul_le_mul_of_nonneg_left hb (show 0 ≤ n by omega)
  omega
def digs (b n : Int) : List Int := if h : b < 2 ∨ n < b then [n] else digs b (n / b) ++ [n % b]
termination_by n.toNat
decreasing_by
  have h1 := ediv_lt_self (b := b) (n := n) (by omega) (by omega)
  have h2 : 0 ≤ n / b := Int.ediv_nonneg (by omega) (by omega)
  omega
theorem digs_lt {b n : Int} (h : n < b) : digs b n = [n] := by rw [digs, dif_pos (.inr h)]
theorem digs_ge {b n : Int} (hb : 2 ≤ b) (h : b ≤ n) : digs b n = digs b (n / b) ++ [n % b] := by rw [digs, dif_neg (by omega)]
theorem digs_step {b n : Int} (hb : 2 ≤ b) (hn : 0 ≤ n) : digs b n = (if 0 < n / b then digs b (n / b) else []) ++ [n % b] := by
  by_cases h : n < b
  · rw [digs_lt h, Int.ediv_eq_zero_of_lt hn h, Int.emod_eq_of_lt hn h]; rfl
  · have : 1 ≤ n / b := Int.le_ediv_of_mul_le (by omega) (by omega)
    rw [digs_ge hb (by omega), if_pos (show 0 < n / b by omega)]
/-- so many figures of n -/
def dp (b : Int) : Nat → Int → List Int
  | 0, _ => []
  | j + 1, n => (n / b ^ j) :: dp b j (n % b ^ j)
theorem emod_mul_ediv {n b c : Int} (hb : 0 < b) (hc : 0 < c) : (n % (b * c)) / b = (n / b) % c := by
  have h1 := Int.emod_add_mul_ediv n b
  have h2 := Int.emod_add_mul_ediv (n / b) c
  have r1 := Int.emod_nonneg n (show b ≠ 0 by omega)
  have r2 := Int.emod_lt_of_pos n hb
  have r3 := Int.emod_nonneg (n / b) (show c ≠ 0 by omega)
  have r4 := Int.emod_lt_of_pos (n / b) hc
  have e : n % (b * c) = n % b + b * ((n / b) % c) := by
    have := (Int.ediv_emod_unique (a := n) (b := b * c) (r := n % b + b * ((n / b) % c)) (q := n / b / c) (Int.mul_pos hb hc)).mpr ⟨by
      rw [Int.mul_assoc, Int.add_assoc, ← Int.mul_add, h2, h1], by
      have := Int.mul_nonneg (show (0 : Int) ≤ b by omega) r3
      omega, by
      have q1 : b * ((n / b) % c) ≤ b * (c - 1) := Int.mul_le_mul_of_nonneg_left (by omega) (by omega)
      rw [Int.mul_sub, Int.mul_one] at q1
      omega⟩
    exact this.2
  rw [e, Int.add_mul_ediv_left _ _ (by omega), Int.ediv_eq_zero_of_lt r1 r2, Int.zero_add]
theorem dp_snoc {b : Int} (hb : 0 < b) : ∀ (j : Nat) (n : Int), 0 ≤ n → n < b ^ (j + 1) → dp b (j + 1) n = dp b j (n / b) ++ [n % b]
  | 0, n, h0, h => by
    rw [Int.pow_succ, Int.pow_zero, Int.one_mul] at h
    show [n / b ^ 0] = [] ++ [n % b]
    rw [Int.pow_zero, Int.ediv_one, Int.emod_eq_of_lt h0 h]; rfl
  | j + 1, n, h0, h => by
    have hp : 0 < b ^ (j + 1) := Int.pow_pos hb
    show (n / b ^ (j + 1)) :: dp b (j + 1) (n % b ^ (j + 1)) = (n / b / b ^ j) :: dp b j (n / b % b ^ j) ++ [n % b]
    rw [dp_snoc hb j _ (Int.emod_nonneg _ (by omega)) (Int.emod_lt_of_pos _ hp), Int.pow_succ, Int.mul_comm (b ^ j) b, emod_mul_ediv hb (Int.pow_pos hb), Int.emod_emod_of_dvd n (Int.dvd_mul_right b (b ^ j)), Int.ediv_ediv_of_nonneg (by omega)]
    rfl
theorem dp_digs {b : Int} (hb : 2 ≤ b) : ∀ (j : Nat) (n : Int), 0 ≤ n → n < b ^ (j + 1) → (b ^ j ≤ n ∨ j = 0) → digs b n = dp b (j + 1) n
  | 0, n, h0, h, _ => by
    rw [Int.pow_succ, Int.pow_zero, Int.one_mul] at h
    rw [digs_lt h]
    show [n] = [n / b ^ 0]
    rw [Int.pow_zero, Int.ediv_one]
  | j + 1, n, h0, h, h1 => by
    have h2 : b ^ (j + 1) ≤ n := by rcases h1 with h | h; exact h; cases h
    have hbj : 0 < b ^ j := Int.pow_pos (by omega)
    have h3 : b ≤ n := by
      rw [Int.pow_succ] at h2
      have := Int.mul_le_mul_of_nonneg_right (show 1 ≤ b ^ j by omega) (show 0 ≤ b by omega)
      omega
    rw [digs_ge hb h3, dp_snoc (by omega) _ n h0 h, dp_digs hb j (n / b) (Int.ediv_nonneg h0 (by omega)) (Int.ediv_lt_of_lt_mul (by omega) (by rw [← Int.pow_succ]; exact h)) (.inl (Int.le_ediv_of_mul_le (by omega) (by rw [← Int.pow_succ]; exact h2)))]
theorem natAbs_lt {n : Int} {k : Nat} (h0 : 0 ≤ n) (h : n < 2 ^ k) : n.natAbs < 2 ^ k := by
  have : ((2 ^ k : Nat) : Int) = 2 ^ k := by push_cast; rfl
  omega
theorem pow_mono {b : Int} (hb : 1 ≤ b) {i j : Nat} (h : i ≤ j) : b ^ i ≤ b ^ j := by
  obtain ⟨k, rfl⟩ : ∃ k, j = i + k := ⟨j - i, by omega⟩
  induction k with
  | zero => exact Int.le_refl _
  | succ k ih =>
    have h1 := ih (by omega)
    have h2 : 0 < b ^ (i + k) := Int.pow_pos (by omega)
    rw [← Nat.add_assoc, Int.pow_succ]
    have := Int.mul_le_mul_of_nonneg_left hb (show 0 ≤ b ^ (i + k) by omega)
    omega
theorem one_lt_p {k : Nat} (h : k ≠ 0) : (1 : Int) < 2 ^ k := by
  have := Nat.one_lt_two_pow h
  have e : ((2 ^ k : Nat) : Int) = 2 ^ k := by push_cast; rfl
  omega
/-! #### bases, numbers -/
theorem is_whole_eq (x : Int) : is_whole x = some true := rfl
theorem is_base_eq {b : Int} (h : 2 ≤ b) (h2 : b ≤ 16) : is_base b = some true := by
  unfold is_base
  rw [is_whole_eq, Option.bind_some, if_pos rfl, if_pos (decide_eq_true h), decide_eq_true h2]
/-! #### lists of figures -/
def Figs (b : Int) (ds : List Int) : Prop := ∀ d ∈ ds, 0 ≤ d ∧ d < b
theorem Figs.nil {b : Int} : Figs b [] := fun d h => nomatch h
theorem Figs.app {b : Int} {x y : List Int} (h : Figs b x) (k : Figs b y) : Figs b (x ++ y) := fun d hd => (List.mem_append.mp hd).elim (h d) (k d)
theorem Figs.one {b d : Int} (h : 0 ≤ d ∧ d < b) : Figs b [d] := fun x hx => by rw [List.mem_singleton.mp hx]; exact h
theorem Figs.left {b : Int} {x y : List Int} (h : Figs b (x ++ y)) : Figs b x := fun d hd => h d (List.mem_append_left _ hd)
theorem Figs.right {b : Int} {x y : List Int} (h : Figs b (x ++ y)) : Figs b y := fun d hd => h d (List.mem_append_right _ hd)
theorem is_figure_eq {b x : Int} (h0 : 0 ≤ x) (h : x < b) : is_figure b x = some true := by
  unfold is_figure
  rw [is_whole_eq, Option.bind_some, if_pos rfl, if_pos (decide_eq_true h0), decide_eq_true h]
theorem are_figures_eq {b : Int} {ds : List Int} (h : Figs b ds) : are_figures b ds = some true := by
  unfold are_figures
  refine Ok.eq (forK_ok (P := fun s => s = []) rfl (fun s x next hx hP hN => ?_) (fun s hP => ?_))
  · subst hP
    rw [are_figures_c1, is_figure_eq (h x hx).1 (h x hx).2, Option.bind_some, if_neg (by decide)]
    exact hN _ rfl
  · subst hP
    rw [are_figures_k2]
    exact Ok.mk (eqT_iff.mpr rfl)
/-- the number of a list of figures -/
def val (b : Int) (ds : List Int) : Int := ds.foldl (fun a d => a * b + d) 0
theorem val_snoc (b : Int) (ds : List Int) (d : Int) : val b (ds ++ [d]) = val b ds * b + d := by unfold val; rw [List.foldl_append]; rfl
theorem val_rev_bound {b : Int} (hb : 0 < b) : ∀ rs : List Int, Figs b rs → 0 ≤ val b rs.reverse ∧ val b rs.reverse < b ^ rs.length
  | [], _ => ⟨Int.le_refl _, by show (0 : Int) < b ^ 0; rw [Int.pow_zero]; decide⟩
  | d :: rs, h => by
    obtain ⟨i1, i2⟩ := val_rev_bound hb rs fun x hx => h x (List.mem_cons_of_mem _ hx)
    obtain ⟨d1, d2⟩ := h d List.mem_cons_self
    rw [List.reverse_cons, val_snoc, List.length_cons, Int.pow_succ]
    have m1 := Int.mul_nonneg i1 (Int.le_of_lt hb)
    have m2 := Int.mul_le_mul_of_nonneg_right (show val b rs.reverse ≤ b ^ rs.length - 1 by omega) (Int.le_of_lt hb)
    rw [Int.sub_mul, Int.one_mul] at m2
    omega
theorem Figs.rev {b : Int} {ds : List Int} (h : Figs b ds) : Figs b ds.reverse := fun x hx => h x (List.mem_reverse.mp hx)
theorem val_bound {b : Int} (hb : 0 < b) {ds : List Int} (h : Figs b ds) : 0 ≤ val b ds ∧ val b ds < b ^ ds.length := by
  have := val_rev_bound hb ds.reverse h.rev
  rw [List.reverse_reverse, List.length_reverse] at this
  exact this
theorem val_cons_rev (b d : Int) : ∀ rs : List Int, val b (d :: rs.reverse) = d * b ^ rs.length + val b rs.reverse
  | [] => by
    show 0 * b + d = d * b ^ 0 + 0
    rw [Int.pow_zero, Int.zero_mul, Int.mul_one, Int.zero_add, Int.add_zero]
  | e :: rs => by
    rw [List.reverse_cons, ← List.cons_append, val_snoc, val_cons_rev b d rs, val_snoc, List.length_cons, Int.pow_succ, Int.add_mul, Int.mul_assoc, Int.add_assoc]
theorem val_cons (b d : Int) (ds : List Int) : val b (d :: ds) = d * b ^ ds.length + val b ds := by
  have := val_cons_rev b d ds.reverse
  rw [List.reverse_reverse, List.length_reverse] at this
  exact this
theorem pow16 {b : Int} (h0 : 0 ≤ b) (h : b ≤ 16) : ∀ n : Nat, b ^ n ≤ 2 ^ (4 * n)
  | 0 => by rw [Int.pow_zero, Nat.mul_zero, Int.pow_zero]; exact Int.le_refl _
  | n + 1 => by
    have i := pow16 h0 h n
    have p : (0 : Int) ≤ 2 ^ (4 * n) := Int.le_of_lt (Int.pow_pos (by decide))
    rw [Int.pow_succ, show 4 * (n + 1) = 4 * n + 4 from rfl, Int.pow_add]
    exact Int.mul_le_mul i (by omega) h0 p
theorem pow2_le {b : Int} (h : 2 ≤ b) : ∀ n : Nat, (2 : Int) ^ n ≤ b ^ n
  | 0 => by rw [Int.pow_zero, Int.pow_zero]; exact Int.le_refl _
  | n + 1 => by
    rw [Int.pow_succ, Int.pow_succ]
    exact Int.mul_le_mul (pow2_le h n) h (by decide) (Int.le_of_lt (Int.pow_pos (by omega)))
theorem val_lt {b : Int} (hb : 2 ≤ b) (h2 : b ≤ 16) {ds : List Int} (h : Figs b ds) {n : Nat} (hl : ds.length ≤ n) : (val b ds).natAbs < 2 ^ (4 * n + 1) := by
  obtain ⟨v1, v2⟩ := val_bound (by omega) h
  have := pow16 (by omega) h2 ds.length
  refine natAbs_lt v1 ?_
  have p1 : (2 : Int) ^ (4 * ds.length) ≤ 2 ^ (4 * n + 1) := pow_mono (by decide) (by omega)
  omega
theorem atI0 {α : Type} (x : α) (xs : List α) : atI (x :: xs) 0 = some x := by
  unfold atI ixN
  rw [if_pos (by decide), if_pos (by rw [List.length_cons]; omega)]
  rfl
theorem ixN_lt {n : Nat} {i : Int} (h0 : 0 ≤ i) (h : i < n) : ixN n i = some i.toNat := by
  unfold ixN
  rw [if_pos h0, if_pos h]
theorem atI_lt {α : Type} {xs : List α} {i : Int} (h0 : 0 ≤ i) (h : i < xs.length) : ∃ x, atI xs i = some x ∧ xs[i.toNat]? = some x ∧ x ∈ xs := by
  have hl : i.toNat < xs.length := by omega
  refine ⟨xs[i.toNat], ?_, List.getElem?_eq_getElem hl, List.getElem_mem hl⟩
  unfold atI
  rw [ixN_lt h0 h, Option.bind_some, List.getElem?_eq_getElem hl]
/-- figures of a number: no 0 ahead -/
def Num (b : Int) (ds : List Int) : Prop := ∃ d t, ds = d :: t ∧ (t = [] ∨ d ≠ 0) ∧ Figs b ds
/- cut from MathRule -/
/-! #### order of lists, sorting -/
theorem toks_inj : ∀ xs ys : List Int, PySem.W.keyToksAll (xs.map fun n => PyData.int n) = PySem.W.keyToksAll (ys.map fun n => PyData.int n) → xs = ys
  | [], [], _ => rfl
  | [], y :: ys, h => by
    rw [List.map_nil, List.map_cons, PySem.W.keyToksAll, PySem.W.keyToksAll] at h
    exact absurd (Sum.inl.inj (List.cons.inj h).1) (by decide)
  | x :: xs, [], h => by
    rw [List.map_nil, List.map_cons, PySem.W.keyToksAll, PySem.W.keyToksAll] at h
    exact absurd (Sum.inl.inj (List.cons.inj h).1) (by decide)
  | x :: xs, y :: ys, h => by
    rw [List.map_cons, List.map_cons, PySem.W.keyToksAll, PySem.W.keyToksAll, PySem.W.keyToks, PySem.W.keyToks] at h
    have h1 := (List.cons.inj h).2
    have h2 := List.cons.inj h1
    have e : x = y := Sum.inl.inj h2.1
    rw [e, toks_inj xs ys h2.2]
theorem ltT_tot {x y : List Int} (h1 : ltT x y = false) (h2 : ltT y x = false) : x = y := toks_inj x y (PyProof.Rows.lex_total _ _ h1 h2)
theorem ltT_irr (x : List Int) : ltT x x = false := PyProof.Rows.lex_irrefl _
theorem ltT_trans {x y z : List Int} (h1 : ltT x y = true) (h2 : ltT y z = true) : ltT x z = true := PyProof.Rows.lex_trans _ _ _ h1 h2
theorem sortT_perm {α : Type} [TD α] (xs : List α) : (sortT xs).Perm xs := List.mergeSort_perm _ _
theorem sortT_mem {α : Type} [TD α] {xs : List α} {x : α} : x ∈ sortT xs ↔ x ∈ xs := (sortT_perm xs).mem_iff
theorem sortT_le (xs : List (List Int)) : (sortT xs).Pairwise fun a b => (!ltT b a) = true := by
  have := PySem.W.sort_pairwise (le := PySem.W.dataLe false (TD.d (α := List Int))) (PySem.W.sortLe_total _ _ _) xs
  exact this
theorem sortT_lt {xs : List (List Int)} (h : xs.Nodup) : (sortT xs).Pairwise fun a b => ltT a b = true := by
  have nd : (sortT xs).Pairwise fun a b => a ≠ b := (sortT_perm xs).nodup_iff.mpr h
  have := List.pairwise_and_iff.mpr ⟨sortT_le xs, nd⟩
  refine this.imp fun {a b} ⟨h1, h2⟩ => ?_
  rw [Bool.not_eq_true'] at h1
  cases h3 : ltT a b with
  | true => rfl
  | false => exact absurd (ltT_tot h3 h1) h2
/-! #### rules -/
structure GoodRule (rule : Int × List (List Int)) : Prop where
  lo : 2 ≤ rule.1
  hi : rule.1 ≤ 16
  few : rule.2.length ≤ 4
  figs : ∀ s ∈ rule.2, Figs rule.1 s ∧ 1 ≤ s.length ∧ s.length ≤ 4
  sorted : rule.2.Pairwise fun a b => ltT a b = true
theorem is_stretch_eq {b : Int} {s : List Int} (h : Figs b s) (h1 : 1 ≤ s.length) (h4 : s.length ≤ 4) : is_stretch b s = some true := by
  unfold is_stretch
  rw [are_figures_eq h, Option.bind_some, if_pos rfl, if_pos (by rw [decide_eq_true_eq]; omega), decide_eq_true (show (s.length : Int) ≤ 4 by omega)]
theorem atI_get {α : Type} {xs : List α} {i : Int} {k : Nat} (e : i = k) (h : k < xs.length) : atI xs i = some xs[k] := by
  subst e
  unfold atI
  rw [ixN_lt (by omega) (by omega), Option.bind_some, Int.toNat_natCast, List.getElem?_eq_getElem h]
theorem is_rule_eq {rule : Int × List (List Int)} (g : GoodRule rule) : is_rule rule = some true := by
  have := g.few
  unfold is_rule
  rw [if_neg (by decide), is_base_eq g.lo g.hi, Option.bind_some, if_neg (by decide), if_neg (by rw [decide_eq_true_eq]; omega)]
  refine Ok.eq (forK_ok (P := fun s => s = []) rfl (fun s x next hx hP hN => ?_) (fun s hP => ?_))
  · subst hP
    obtain ⟨f1, f2, f3⟩ := g.figs x hx
    rw [is_rule_c1, is_stretch_eq f1 f2 f3, Option.bind_some, if_neg (by decide)]
    exact hN _ rfl
  · subst hP
    rw [is_rule_k2, eqT_iff.mpr rfl, if_neg (by decide)]
    refine Ok.guard ⟨by decide, by decide, by omega, by omega⟩ ?_
    refine forK_ok (P := fun s => s = []) rfl (fun s x next hx hP hN => ?_) (fun s hP => ?_)
    · subst hP
      have hx := irange_mem.mp hx
      obtain ⟨k, hk⟩ : ∃ k : Nat, x = k + 1 := ⟨(x - 1).toNat, by omega⟩
      have l1 : k < rule.2.length := by omega
      have l2 : k + 1 < rule.2.length := by omega
      have := List.pairwise_iff_getElem.mp g.sorted k (k + 1) l1 l2 (Nat.lt_succ_self _)
      rw [is_rule_c3, atI_get (k := k) (by omega) l1, Option.bind_some, atI_get (k := k + 1) (by omega) l2, Option.bind_some, this, if_neg (by decide)]
      exact hN _ rfl
    · subst hP
      rw [is_rule_k4]
      exact Ok.mk (eqT_iff.mpr rfl)
/-- a comprehension, with where the element is from -/
theorem forK_fmM {α β ρ : Type} {f : List β → α → (List β → Option ρ) → Option ρ} {K : List β → Option ρ} {p : α → Bool} {g : α → β} {B : Nat} :
    ∀ (xs : List α) (acc : List β), (∀ acc x next, x ∈ xs → acc.length < B → f acc x next = if p x = true then next (acc ++ [g x]) else next acc) → acc.length + xs.length ≤ B → forK f xs acc K = K (acc ++ (xs.filter p).map g)
  | [], acc, _, _ => by rw [List.filter_nil, List.map_nil, List.append_nil]; rfl
  | x :: xs, acc, h, hB => by
    rw [List.length_cons] at hB
    show f acc x _ = _
    have h' : ∀ acc y next, y ∈ xs → acc.length < B → f acc y next = if p y = true then next (acc ++ [g y]) else next acc := fun acc y next hy => h acc y next (List.mem_cons_of_mem _ hy)
    rw [h acc x _ List.mem_cons_self (by omega), List.filter_cons]
    cases hp : p x with
    | true =>
      rw [if_pos rfl, if_pos rfl, List.map_cons]
      have := forK_fmM (K := K) xs (acc ++ [g x]) h' (by rw [List.length_append, List.length_singleton]; omega)
      rw [List.append_assoc] at this
      exact this
    | false =>
      rw [if_neg Bool.false_ne_true, if_neg Bool.false_ne_true]
      exact forK_fmM xs acc h' (by omega)
/- cut from MathRule -/
theorem filter_nil_iff {α : Type} [TD α] [TE' α] {xs : List α} {p : α → Bool} : eqT (xs.filter p) [] = true ↔ ∀ x ∈ xs, ¬ p x = true := by
  rw [eqT_iff, List.filter_eq_nil_iff]
open Classical in
/-- a stretch stands in figures -/
noncomputable def stB (s ds : List Int) : Bool := decide (s <:+: ds)
theorem stB_iff {s ds : List Int} : stB s ds = true ↔ s <:+: ds := by unfold stB; exact decide_eq_true_iff
theorem cut_mid {α : Type} {xs : List α} {i j : Int} {k n : Nat} (hi : i = k) (hj : j = k + n) (h : k + n ≤ xs.length) : cutT xs (some i) (some j) = (xs.drop k).take n := by
  subst hi hj
  unfold cutT HT.sIx
  dsimp only
  rw [if_neg (by omega), if_neg (by omega), Int.toNat_natCast, show ((k : Int) + n).toNat = k + n from by omega, Nat.min_eq_left h, Nat.min_eq_left (show k ≤ xs.length by omega), Nat.add_sub_cancel_left]
theorem infix_at {s ds : List Int} : s <:+: ds ↔ ∃ k, k + s.length ≤ ds.length ∧ (ds.drop k).take s.length = s := by
  constructor
  · rintro ⟨l, r, rfl⟩
    refine ⟨l.length, by rw [List.length_append, List.length_append]; omega, ?_⟩
    rw [List.append_assoc, List.drop_left, List.take_left]
  · rintro ⟨k, _, e⟩
    refine ⟨ds.take k, (ds.drop k).drop s.length, ?_⟩
    rw [List.append_assoc]
    conv => lhs; arg 2; arg 1; rw [← e]
    rw [List.take_append_drop, List.take_append_drop]
theorem stands_in_eq {s ds : List Int} (h4 : s.length ≤ 1000) (hl : ds.length < 1000000) : stands_in s ds = some (stB s ds) := by
  unfold stands_in
  refine Ok.eq (Ok.guard ⟨by omega, by omega⟩ ?_)
  rw [forK_fmM (p := fun t => eqT (cutT ds (some t) (some (t + (s.length : Int)))) s) (g := fun x => x) (B := 16777216) _ _ (fun acc x next _ hl => by rw [stands_in_c1, if_pos hl]) (by rw [List.length_nil, irange_len]; omega)]
  rw [stands_in_k2, List.map_id', List.nil_append]
  refine Ok.mk ?_
  apply Bool.eq_iff_iff.mpr
  rw [Bool.not_eq_true', ← Bool.not_eq_true, filter_nil_iff, stB_iff, infix_at]
  constructor
  · intro h
    apply Classical.byContradiction
    intro hn
    refine h fun x hx he => hn ?_
    have hx := irange_mem.mp hx
    obtain ⟨k, rfl⟩ : ∃ k : Nat, x = k := ⟨x.toNat, by omega⟩
    rw [eqT_iff, cut_mid (k := k) (n := s.length) rfl rfl (by omega)] at he
    exact ⟨k, by omega, he⟩
  · rintro ⟨k, h1, h2⟩ h
    refine h (k : Int) (irange_mem.mpr ⟨by omega, by omega⟩) ?_
    rw [eqT_iff, cut_mid (k := k) (n := s.length) rfl rfl h1]
    exact h2
theorem cut_take {α : Type} {xs : List α} {i : Int} (h0 : 0 ≤ i) : cutT xs none (some i) = xs.take i.toNat := by
  unfold cutT HT.sIx
  dsimp only
  rw [if_neg (by omega), List.drop_zero, Nat.sub_zero]
  by_cases h : i.toNat ≤ xs.length
  · rw [Nat.min_eq_left h]
  · rw [Nat.min_eq_right (by omega), List.take_length, List.take_of_length_le (by omega)]
theorem cut_drop {α : Type} {xs : List α} {i : Int} (h0 : 0 ≤ i) (h : i ≤ xs.length) : cutT xs (some i) none = xs.drop i.toNat := by
  unfold cutT HT.sIx
  dsimp only
  rw [if_neg (by omega), Nat.min_eq_left (by omega), ← List.length_drop, List.take_length]
theorem irange_cons {lo hi : Int} (h : lo < hi) : irange lo hi = lo :: irange (lo + 1) hi := by
  unfold irange
  obtain ⟨n, hn⟩ : ∃ n, (hi - lo).toNat = n + 1 := ⟨(hi - lo).toNat - 1, by omega⟩
  rw [hn, show (hi - (lo + 1)).toNat = n from by omega, List.range_succ_eq_map, List.map_cons, List.map_map]
  refine congr (congrArg List.cons (by omega)) (List.map_congr_left fun i _ => ?_)
  show lo + ((i + 1 : Nat) : Int) = lo + 1 + (i : Int)
  omega
theorem irange_nil {lo hi : Int} (h : hi ≤ lo) : irange lo hi = [] := by
  unfold irange
  rw [show (hi - lo).toNat = 0 from by omega]; rfl
/-! #### keys of dicts -/
section
variable {α β : Type} [DecidableEq α] {xs : List (α × β)} {k z : α} {v : β}
theorem putT_keys (xs : List (α × β)) (k : α) (v : β) : (putT xs k v).map (·.1) = if k ∈ xs.map (·.1) then xs.map (·.1) else xs.map (·.1) ++ [k] := by
  have e : ((xs.any fun x => decide (x.1 = k)) = true) ↔ k ∈ xs.map (·.1) := by
    rw [List.any_eq_true]
    constructor
    · rintro ⟨x, hx, h⟩
      exact List.mem_map.mpr ⟨x, hx, of_decide_eq_true h⟩
    · intro h
      obtain ⟨x, hx, rfl⟩ := List.mem_map.mp h
      exact ⟨x, hx, decide_eq_true rfl⟩
  unfold putT
  by_cases h : k ∈ xs.map (·.1)
  · rw [if_pos (e.mpr h), if_pos h, List.map_map]
    refine List.map_congr_left fun x _ => ?_
    show (if x.1 = k then (x.1, v) else x).1 = x.1
    split <;> rfl
  · rw [if_neg (fun z => h (e.mp z)), if_neg h, List.map_append]; rfl
theorem putT_nodup (h : (xs.map (·.1)).Nodup) : ((putT xs k v).map (·.1)).Nodup := by
  rw [putT_keys]
  split
  · exact h
  · next hk =>
    refine List.nodup_append.mpr ⟨h, List.nodup_cons.mpr ⟨(fun h => nomatch h), List.nodup_nil⟩, fun a ha b hb e => ?_⟩
    rw [List.mem_singleton] at hb
    subst e hb
    exact hk ha
theorem putT_mem : z ∈ (putT xs k v).map (·.1) ↔ z ∈ xs.map (·.1) ∨ z = k := by
  rw [putT_keys]
  split
  · next hk => exact ⟨.inl, fun h => h.elim id fun e => by rw [e]; exact hk⟩
  · rw [List.mem_append, List.mem_singleton]
theorem putT_len : (putT xs k v).length ≤ xs.length + 1 := by
  have := congrArg List.length (putT_keys xs k v)
  rw [List.length_map] at this
  rw [this]
  split
  · rw [List.length_map]; omega
  · rw [List.length_append, List.length_map, List.length_singleton]; omega
theorem putT_all {Q : α × β → Prop} (h : ∀ p ∈ xs, Q p) (hk : Q (k, v)) : ∀ p ∈ putT xs k v, Q p := by
  intro p hp
  unfold putT at hp
  split at hp
  · obtain ⟨y, hy, rfl⟩ := List.mem_map.mp hp
    split
    · next e => rw [e]; exact hk
    · exact h y hy
  · rcases List.mem_append.mp hp with h' | h'
    · exact h p h'
    · rw [List.mem_singleton.mp h']; exact hk
end
theorem filter_true' {α : Type} (xs : List α) : xs.filter (fun _ => true) = xs := by simp
theorem dataLt_TI (s t : TI) : PySem.W.dataLt (TD.d s) (TD.d t) = ltT s.l t.l := by
  show PySem.W.dataLt (.tuple (s.l.map TD.d)) (.tuple (t.l.map TD.d)) = PySem.W.dataLt (.list (s.l.map TD.d)) (.list (t.l.map TD.d))
  unfold PySem.W.dataLt
  rw [PySem.W.keyToks, PySem.W.keyToks, PySem.W.keyToks, PySem.W.keyToks]
theorem sortTI_lt {ts : List TI} (h : ts.Nodup) : ((sortT ts).map TI.l).Pairwise fun a b => ltT a b = true := by
  have h1 : (sortT ts).Pairwise fun a b => (!PySem.W.dataLt (TD.d b) (TD.d a)) = true := PySem.W.sort_pairwise (le := PySem.W.dataLe false (TD.d (α := TI))) (PySem.W.sortLe_total _ _ _) ts
  have nd : (sortT ts).Pairwise fun a b => a ≠ b := (sortT_perm ts).nodup_iff.mpr h
  refine List.pairwise_map.mpr ((List.pairwise_and_iff.mpr ⟨h1, nd⟩).imp fun {a b} ⟨h1, h2⟩ => ?_)
  rw [dataLt_TI, Bool.not_eq_true'] at h1
  cases h3 : ltT a.l b.l with
  | true => rfl
  | false =>
    refine absurd ?_ h2
    have := ltT_tot h3 h1
    obtain ⟨a⟩ := a
    obtain ⟨b⟩ := b
    have this : a = b := this
    rw [this]
theorem ltT_asym {x y : List Int} (h : ltT x y = true) (k : ltT y x = true) : False := by
  have := ltT_trans h k
  rw [ltT_irr] at this
  cases this
theorem sorted_ext : ∀ {xs ys : List (List Int)}, xs.Pairwise (fun a b => ltT a b = true) → ys.Pairwise (fun a b => ltT a b = true) → (∀ z, z ∈ xs ↔ z ∈ ys) → xs = ys
  | [], [], _, _, _ => rfl
  | [], y :: ys, _, _, h => absurd ((h y).mpr List.mem_cons_self) List.not_mem_nil
  | x :: xs, [], _, _, h => absurd ((h x).mp List.mem_cons_self) List.not_mem_nil
  | x :: xs, y :: ys, hx, hy, h => by
    obtain ⟨x1, x2⟩ := List.pairwise_cons.mp hx
    obtain ⟨y1, y2⟩ := List.pairwise_cons.mp hy
    have e : x = y := by
      rcases List.mem_cons.mp ((h x).mp List.mem_cons_self) with e | e
      · exact e
      · rcases List.mem_cons.mp ((h y).mpr List.mem_cons_self) with e' | e'
        · exact e'.symm
        · exact absurd (y1 x e) fun z => ltT_asym z (x1 y e')
    subst e
    rw [sorted_ext x2 y2 fun z => ⟨fun hz => ?_, fun hz => ?_⟩]
    · rcases List.mem_cons.mp ((h z).mp (List.mem_cons_of_mem _ hz)) with e | e
      · have := x1 z hz
        rw [e, ltT_irr] at this
        cases this
      · exact e
    · rcases List.mem_cons.mp ((h z).mpr (List.mem_cons_of_mem _ hz)) with e | e
      · have := y1 z hz
        rw [e, ltT_irr] at this
        cases this
      · exact e
theorem ltT_nodup {xs : List (List Int)} (h : xs.Pairwise fun a b => ltT a b = true) : xs.Nodup :=
  h.imp fun {a b} h e => by rw [e, ltT_irr] at h; cases h
/-! #### the store's draws -/
def StOk (st : StS) : Prop := ∃ a b c : Int, st = [a, b, c]
theorem take_ok {st : StS} {many : Int} (h : StOk st) (h0 : 0 < many) (h1 : many < 2 ^ 64) : Ok (_law_take st many) fun p => (0 ≤ p.1 ∧ p.1 < many) ∧ StOk p.2 := by
  obtain ⟨a, b, c, rfl⟩ := h
  have dv := Dv_small h0 h1
  have e2 : ∀ x y z : Int, atI [x, y, z] (2 : Int) = some z := fun _ _ _ => rfl
  have e1 : ∀ x y z : Int, atI [x, y, z] (1 : Int) = some y := fun _ _ _ => rfl
  have j0 : ixN [a, b, c].length (0 : Int) = some 0 := rfl
  have j2 : ixN [a, b, c].length (2 : Int) = some 2 := rfl
  have s2 : ∀ x : Int, [a, b, c].set 2 x = [a, b, x] := fun _ => rfl
  unfold _law_take
  rw [atI0, Option.bind_some]
  refine Ok.ite (fun _ => ?_) (fun _ => ?_)
  · rw [Option.bind_some]
    refine Ok.guard dv ?_
    rw [Option.bind_some]
    refine Ok.guard dv ?_
    rw [j0, Option.bind_some]
    exact Ok.mk ⟨⟨Int.emod_nonneg _ (by omega), Int.emod_lt_of_pos _ h0⟩, _, _, _, rfl⟩
  · rw [e2, Option.bind_some, j2, Option.bind_some, s2, e1, Option.bind_some, e2, Option.bind_some]
    have y0 := Int.emod_nonneg ((b + 7919 * (c + 1)) * 48271) (show (2147483647 : Int) ≠ 0 by decide)
    have y1 := Int.emod_lt_of_pos ((b + 7919 * (c + 1)) * 48271) (show (0 : Int) < 2147483647 by decide)
    refine Ok.guard (Mv_of (a := 40) (b := 40) (by omega) (by omega) (by decide) (by decide) (by decide)) ?_
    rw [Option.bind_some]
    refine Ok.guard dv ?_
    exact Ok.mk ⟨⟨Int.emod_nonneg _ (by omega), Int.emod_lt_of_pos _ h0⟩, _, _, _, rfl⟩
/-- so many stretches of a base -/
def GoodS (b : Int) (s : List Int) : Prop := Figs b s ∧ 1 ≤ s.length ∧ s.length ≤ 4
theorem stretch_ok {st : StS} {base few : Int} (h : StOk st) (h1 : 2 ≤ few) (h2 : few ≤ base) (h3 : base ≤ 16) : Ok (_law_stretch st base few) fun p => GoodS base p.1 ∧ StOk p.2 := by
  unfold _law_stretch
  refine (take_ok h (by decide) (by decide)).bind fun ⟨r1, st1⟩ ⟨⟨a1, a2⟩, g1⟩ => ?_
  have a1 : 0 ≤ r1 := a1
  have a2 : r1 < 4 := a2
  refine Ok.guard ⟨by omega, by omega⟩ ?_
  refine forK_okI (P := fun pre (s : List Int × StS) => s.1.length = pre.length ∧ Figs base s.1 ∧ StOk s.2) ⟨rfl, Figs.nil, g1⟩ (fun pre x post s next e hP hN => ?_) (fun s hP => ?_)
  · obtain ⟨x2, st2⟩ := s
    obtain ⟨p1, p2, p3⟩ := hP
    have p1 : x2.length = pre.length := p1
    have hl : pre.length < 4 := by
      have := congrArg List.length e
      rw [irange_len, List.length_append, List.length_cons] at this
      omega
    rw [_law_stretch_c1]
    refine (take_ok p3 (by decide) (by decide)).bind fun ⟨r2, st3⟩ ⟨⟨b1, b2⟩, g3⟩ => ?_
    have b1 : 0 ≤ r2 := b1
    have b2 : r2 < 3 := b2
    refine Ok.bind (P := fun m => 2 ≤ m ∧ m ≤ base) ?_ fun m hm => ?_
    · rcases (show r2 = 0 ∨ r2 = 1 ∨ r2 = 2 by omega) with rfl | rfl | rfl
      · exact ⟨_, rfl, h1, h2⟩
      · exact ⟨_, rfl, h1, h2⟩
      · exact ⟨_, rfl, by omega, by omega⟩
    · refine (take_ok g3 (by omega) (by omega)).bind fun ⟨r3, st4⟩ ⟨⟨c1, c2⟩, g4⟩ => ?_
      have c1 : 0 ≤ r3 := c1
      have c2 : r3 < m := c2
      refine Ok.guard (by omega) (hN _ ⟨?_, Figs.app p2 (Figs.one (by omega)), g4⟩)
      show (x2 ++ [r3]).length = (pre ++ [x]).length
      rw [List.length_append, List.length_append, p1]; rfl
  · obtain ⟨x2, st2⟩ := s
    obtain ⟨p1, p2, p3⟩ := hP
    have p1 : x2.length = (irange 0 (1 + r1)).length := p1
    rw [irange_len] at p1
    rw [_law_stretch_k2]
    exact Ok.mk ⟨⟨p2, by show 1 ≤ x2.length; omega, by show x2.length ≤ 4; omega⟩, p3⟩
/-- sorted keys, as lists -/
theorem sorted_keys {base : Int} {ts : List TI} (nd : ts.Nodup) (h : ∀ t ∈ ts, GoodS base t.l) :
    (∀ s ∈ (sortT ts).map TI.l, GoodS base s) ∧ ((sortT ts).map TI.l).Pairwise (fun a b => ltT a b = true) ∧ ((sortT ts).map TI.l).length = ts.length := by
  refine ⟨fun s hs => ?_, sortTI_lt nd, by rw [List.length_map, sortT_len]⟩
  obtain ⟨t, ht, rfl⟩ := List.mem_map.mp hs
  exact h t (sortT_mem.mp ht)
theorem keys_ne {base : Int} {ts : List TI} (h : ∀ t ∈ ts, GoodS base t.l) : ∀ z9 ∈ ts, z9.l ≠ [] := fun z hz e => by
  have := (h z hz).2.1
  rw [e] at this
  exact absurd this (by decide)
theorem bad_ok {st : StS} {base : Int} (h : StOk st) (h2 : 2 ≤ base) (h3 : base ≤ 16) : Ok (_law_bad st base) fun p => GoodRule (base, p.1) ∧ StOk p.2 := by
  unfold _law_bad
  refine (take_ok h (by decide) (by decide)).bind fun ⟨r1, st1⟩ ⟨⟨a1, a2⟩, g1⟩ => ?_
  have a1 : 0 ≤ r1 := a1
  have a2 : r1 < 3 := a2
  refine Ok.bind (P := fun m => 2 ≤ m ∧ m ≤ 16) ?_ fun m hm => ?_
  · rcases (show r1 = 0 ∨ r1 = 1 ∨ r1 = 2 by omega) with rfl | rfl | rfl
    · exact ⟨_, rfl, by decide, by decide⟩
    · exact ⟨_, rfl, by decide, by decide⟩
    · exact ⟨_, rfl, h2, h3⟩
  refine (take_ok g1 (by decide) (by decide)).bind fun ⟨r2, st2⟩ ⟨⟨b1, b2⟩, g2⟩ => ?_
  have b1 : 0 ≤ r2 := b1
  have b2 : r2 < 5 := b2
  obtain ⟨few, hf⟩ : ∃ few, few = (if m < base then m else base) := ⟨_, rfl⟩
  have hfew : 2 ≤ few ∧ few ≤ base := by rw [hf]; split <;> omega
  refine Ok.guard ⟨by omega, by omega⟩ ?_
  refine forK_okI (P := fun pre (s : List (TI × Bool) × StS) => s.1.length ≤ pre.length ∧ (s.1.map (·.1)).Nodup ∧ (∀ t ∈ s.1.map (·.1), GoodS base t.l) ∧ StOk s.2) ⟨Nat.le_refl _, List.nodup_nil, (fun t ht => nomatch ht), g2⟩ (fun pre x post s next e hP hN => ?_) (fun s hP => ?_)
  · obtain ⟨x2, st3⟩ := s
    obtain ⟨p1, p2, p3, p4⟩ := hP
    have p1 : x2.length ≤ pre.length := p1
    have hl : pre.length < 4 := by
      have := congrArg List.length e
      rw [irange_len, List.length_append, List.length_cons] at this
      omega
    rw [_law_bad_b1, ← hf]
    refine (stretch_ok p4 hfew.1 hfew.2 h3).bind fun ⟨r3, st4⟩ ⟨q1, q2⟩ => ?_
    refine Ok.guard (by omega) (hN _ ⟨?_, putT_nodup p2, fun t ht => ?_, q2⟩)
    · have := putT_len (xs := x2) (k := (⟨r3⟩ : TI)) (v := true)
      rw [List.length_append, List.length_singleton]
      show (putT x2 ⟨r3⟩ true).length ≤ _
      omega
    · rcases putT_mem.mp ht with h | h
      · exact p3 t h
      · rw [h]; exact q1
  · obtain ⟨x2, st3⟩ := s
    obtain ⟨p1, p2, p3, p4⟩ := hP
    have p1 : x2.length ≤ (irange 0 r2).length := p1
    rw [irange_len] at p1
    obtain ⟨k1, k2, _⟩ := sorted_keys p2 p3
    have k3 : ((sortT (x2.map (·.1))).map TI.l).length = x2.length := by rw [List.length_map, sortT_len, List.length_map]
    rw [_law_bad_e2, if_pos (by rw [List.length_map]; omega), if_pos (keys_ne p3)]
    refine forK_okI (P := fun pre (s : List (List Int) × StS) => s.1 = pre.map TI.l ∧ StOk s.2) ⟨rfl, p4⟩ (fun pre x post s next e hP hN => ?_) (fun s hP => ?_)
    · obtain ⟨x4, st5⟩ := s
      obtain ⟨q1, q2⟩ := hP
      have q1 : x4 = pre.map TI.l := q1
      have hl : pre.length < 5 := by
        have := congrArg List.length e
        rw [sortT_len, List.length_map, List.length_append, List.length_cons] at this
        omega
      rw [_law_bad_c3, if_pos (by rw [q1, List.length_map]; omega)]
      exact hN _ ⟨by show x4 ++ [x.l] = _; rw [q1, List.map_append]; rfl, q2⟩
    · obtain ⟨x4, st5⟩ := s
      obtain ⟨q1, q2⟩ := hP
      have q1 : x4 = (sortT (x2.map (·.1))).map TI.l := q1
      rw [_law_bad_k4]
      refine Ok.mk ⟨⟨h2, h3, ?_, fun s hs => ?_, ?_⟩, q2⟩
      · show x4.length ≤ 4
        rw [q1, k3]; omega
      · exact k1 s (by rw [← q1]; exact hs)
      · show x4.Pairwise _
        rw [q1]; exact k2
theorem base_ok {st : StS} (h : StOk st) : Ok (_law_base st) fun p => (2 ≤ p.1 ∧ p.1 ≤ 16) ∧ StOk p.2 := by
  unfold _law_base
  refine (take_ok h (by decide) (by decide)).bind fun ⟨r1, st1⟩ ⟨⟨a1, a2⟩, g1⟩ => ?_
  have a1 : 0 ≤ r1 := a1
  have a2 : r1 < 15 := a2
  refine (take_ok g1 (by decide) (by decide)).bind fun ⟨r2, st2⟩ ⟨⟨b1, b2⟩, g2⟩ => ?_
  have b1 : 0 ≤ r2 := b1
  have b2 : r2 < 5 := b2
  rcases (show r2 = 0 ∨ r2 = 1 ∨ r2 = 2 ∨ r2 = 3 ∨ r2 = 4 by omega) with rfl | rfl | rfl | rfl | rfl
  · exact ⟨_, rfl, (show (2 : Int) ≤ 2 ∧ (2 : Int) ≤ 16 by decide), g2⟩
  · exact ⟨_, rfl, (show (2 : Int) ≤ 3 ∧ (3 : Int) ≤ 16 by decide), g2⟩
  · exact ⟨_, rfl, (show (2 : Int) ≤ 10 ∧ (10 : Int) ≤ 16 by decide), g2⟩
  · exact ⟨_, rfl, (show (2 : Int) ≤ 16 ∧ (16 : Int) ≤ 16 by decide), g2⟩
  · exact ⟨_, rfl, ⟨by show 2 ≤ 2 + r1; omega, by show 2 + r1 ≤ 16; omega⟩, g2⟩
theorem rule_ok {st : StS} (h : StOk st) : Ok (_law_rule st) fun p => GoodRule p.1 ∧ StOk p.2 := by
  unfold _law_rule
  refine (base_ok h).bind fun ⟨r1, st1⟩ ⟨⟨a1, a2⟩, g1⟩ => ?_
  refine (bad_ok g1 a1 a2).bind fun ⟨r2, st2⟩ ⟨b1, b2⟩ => ?_
  exact Ok.mk ⟨b1, b2⟩
theorem cell_ok {ns : List Int} {k : Int} (h0 : 0 ≤ k) (h : k < 64) : Ok (_law_cell ns k) fun _ => True := by
  unfold _law_cell
  refine Ok.ite (fun hc => ?_) (fun _ => ?_)
  · have hc : k < (ns.length : Int) := of_decide_eq_true hc
    obtain ⟨x, e, _⟩ := atI_lt h0 hc
    rw [e]; exact ⟨_, rfl, trivial⟩
  · exact Ok.guard (Mv_of (a := 20) (b := 20) (by omega) (by omega) (by decide) (by decide) (by decide)) ⟨_, rfl, trivial⟩
theorem store_ok' (cell : Int) : Ok (_law_store cell) StOk := by
  unfold _law_store
  refine Ok.ite (fun _ => ?_) (fun _ => ?_)
  · rw [_law_store_j1]; exact Ok.mk ⟨_, _, _, rfl⟩
  · rw [_law_store_j1]; exact Ok.mk ⟨_, _, _, rfl⟩
theorem copy_eq {r : Int × List (List Int)} (h : r.2.length ≤ 1000) : _law_copy r = some r := by
  unfold _law_copy
  rw [forK_fmM (p := fun _ => true) (g := fun t => t) (B := 16777216) _ _ (fun acc x next hx hl2 => by rw [_law_copy_c1, if_pos hl2, if_pos rfl]) (by rw [List.length_nil]; omega), filter_true', List.nil_append, List.map_id', _law_copy_k2]
/- cut from MathRule -/
open Classical in
/-- none of the stretches stands in them -/
noncomputable def goodB (bad : List (List Int)) (ds : List Int) : Bool := decide (∀ s ∈ bad, ¬ s <:+: ds)
theorem goodB_iff {bad : List (List Int)} {ds : List Int} : goodB bad ds = true ↔ ∀ s ∈ bad, ¬ s <:+: ds := by unfold goodB; exact decide_eq_true_iff
theorem goodB_false' {bad : List (List Int)} {x ds : List Int} (hx : x ∈ bad) (h : x <:+: ds) : goodB bad ds = false := by
  cases e : goodB bad ds with
  | false => rfl
  | true => exact absurd h (goodB_iff.mp e x hx)
theorem cut_none (s ds : List Int) : eqT ((irange 0 (((ds.length : Int) + 1) - (s.length : Int))).filter fun t => eqT (cutT ds (some t) (some (t + (s.length : Int)))) s) ([] : List Int) = !stB s ds := by
  apply Bool.eq_iff_iff.mpr
  rw [Bool.not_eq_true', ← Bool.not_eq_true, filter_nil_iff, stB_iff, infix_at]
  constructor
  · rintro h ⟨k, h1, h2⟩
    refine h (k : Int) (irange_mem.mpr ⟨by omega, by omega⟩) ?_
    rw [eqT_iff, cut_mid (k := k) (n := s.length) rfl rfl h1]
    exact h2
  · intro h x hx he
    have hx := irange_mem.mp hx
    obtain ⟨k, rfl⟩ : ∃ k : Nat, x = k := ⟨x.toNat, by omega⟩
    rw [eqT_iff, cut_mid (k := k) (n := s.length) rfl rfl (by omega)] at he
    exact h ⟨k, by omega, he⟩
theorem lacks_loop {ds : List Int} (hl : ds.length < 1000000) : ∀ bad : List (List Int), (∀ s ∈ bad, s.length ≤ 1000) → forK (_law_lacks_b1 ds) bad () _law_lacks_e2 = some (goodB bad ds)
  | [], _ => by
    show _law_lacks_e2 () = _
    rw [_law_lacks_e2, goodB_iff.mpr (fun s hs => absurd hs List.not_mem_nil)]
  | s :: bad, h => by
    have hs := h s List.mem_cons_self
    show _law_lacks_b1 ds () s (fun u => forK (_law_lacks_b1 ds) bad u _law_lacks_e2) = _
    rw [_law_lacks_b1, if_pos ⟨by omega, by omega⟩]
    rw [forK_fmM (p := fun t => eqT (cutT ds (some t) (some (t + (s.length : Int)))) s) (g := fun x => x) (B := 16777216) _ _ (fun acc x next _ hl => by rw [_law_lacks_c3, if_pos hl]) (by rw [List.length_nil, irange_len]; omega), List.map_id', List.nil_append, _law_lacks_k4, cut_none, Bool.not_not]
    cases hb : stB s ds with
    | true => rw [if_pos rfl, goodB_false' List.mem_cons_self (stB_iff.mp hb)]
    | false =>
      rw [if_neg (by decide), lacks_loop hl bad fun z hz => h z (List.mem_cons_of_mem _ hz)]
      refine congrArg some (Bool.eq_iff_iff.mpr ?_)
      rw [goodB_iff, goodB_iff]
      constructor
      · intro k z hz
        rcases List.mem_cons.mp hz with e | e
        · subst e
          intro hi
          rw [stB_iff.mpr hi] at hb
          cases hb
        · exact k z e
      · exact fun k z hz => k z (List.mem_cons_of_mem _ hz)
theorem law_lacks_eq {bad : List (List Int)} {ds : List Int} (h1 : ∀ s ∈ bad, s.length ≤ 1000) (hl : ds.length < 1000000) : _law_lacks bad ds = some (goodB bad ds) := by
  unfold _law_lacks
  exact lacks_loop hl bad h1
/-! #### one rule of several -/
theorem need_rules_eq {rules : List (Int × List (List Int))} (h1 : 1 ≤ rules.length) (h3 : rules.length ≤ 3) (g : ∀ r ∈ rules, GoodRule r) : need_rules rules = some (.ok ()) := by
  unfold need_rules
  rw [if_pos (by rw [decide_eq_true_eq]; omega), if_neg (by rw [Bool.not_eq_true, Bool.not_eq_false', decide_eq_true_eq]; omega)]
  refine Ok.eq (forK_ok (P := fun s => s = []) rfl (fun s x next hx hP hN => ?_) (fun s hP => ?_))
  · subst hP
    rw [need_rules_c1, is_rule_eq (g x hx), Option.bind_some, if_neg (by decide)]
    exact hN _ rfl
  · subst hP
    rw [need_rules_k2, if_neg (by rw [eqT_iff.mpr rfl]; decide)]
    exact Ok.mk rfl
open Classical in
/-- none of the others stands within -/
noncomputable def isMin (L : List (List Int)) (t : List Int) : Bool := decide (∀ o ∈ L, o ≠ t → ¬ o <:+: t)
theorem isMin_iff {L : List (List Int)} {t : List Int} : isMin L t = true ↔ ∀ o ∈ L, o ≠ t → ¬ o <:+: t := by unfold isMin; exact decide_eq_true_iff
theorem isMin_ext {L E : List (List Int)} (h : ∀ z, z ∈ L ↔ z ∈ E) : isMin L = isMin E := funext fun t => Bool.eq_iff_iff.mpr (by
  rw [isMin_iff, isMin_iff]
  exact ⟨fun k o ho => k o ((h o).mpr ho), fun k o ho => k o ((h o).mp ho)⟩)
/-- all stretches of some rules -/
def Every (rules : List (Int × List (List Int))) (L : List (List Int)) : Prop := ∀ z, z ∈ L ↔ ∃ r ∈ rules, z ∈ r.2
/-- the keys of a dict are those of the rules gone through -/
structure Keys {β : Type} (rules : List (Int × List (List Int))) (pre : List (List Int)) (x : List (TI × β)) (n : Nat) : Prop where
  nd : (x.map (·.1)).Nodup
  mem : ∀ z : List Int, (⟨z⟩ : TI) ∈ x.map (·.1) ↔ (∃ r ∈ rules, z ∈ r.2) ∨ z ∈ pre
  len : x.length ≤ n
theorem Keys.put {β : Type} {rules : List (Int × List (List Int))} {pre : List (List Int)} {x : List (TI × β)} {n : Nat} (h : Keys rules pre x n) (s : List Int) (v : β) : Keys rules (pre ++ [s]) (putT x (⟨s⟩ : TI) v) (n + 1) := by
  refine ⟨putT_nodup h.nd, fun z => ?_, Nat.le_trans putT_len (Nat.succ_le_succ h.len)⟩
  rw [putT_mem, h.mem, List.mem_append, List.mem_singleton, or_assoc]
  have : ((⟨z⟩ : TI) = ⟨s⟩) ↔ z = s := ⟨fun e => by injection e, fun e => by rw [e]⟩
  rw [this]
theorem Keys.done {β : Type} {rules : List (Int × List (List Int))} {r : Int × List (List Int)} {x : List (TI × β)} {n : Nat} (h : Keys rules r.2 x n) : Keys (rules ++ [r]) [] x n := by
  refine ⟨h.nd, fun z => ?_, h.len⟩
  rw [h.mem]
  constructor
  · rintro (⟨q, hq, hz⟩ | hz)
    · exact .inl ⟨q, List.mem_append_left _ hq, hz⟩
    · exact .inl ⟨r, List.mem_append_right _ (List.mem_singleton.mpr rfl), hz⟩
  · rintro (⟨q, hq, hz⟩ | hz)
    · rcases List.mem_append.mp hq with h | h
      · exact .inl ⟨q, h, hz⟩
      · rw [List.mem_singleton.mp h] at hz; exact .inr hz
    · exact absurd hz List.not_mem_nil
theorem Keys.nil {β : Type} : Keys (β := β) [] [] [] 0 := ⟨List.nodup_nil, fun z => ⟨fun h => absurd h List.not_mem_nil, fun h => by
  rcases h with ⟨r, hr, _⟩ | h
  · exact absurd hr List.not_mem_nil
  · exact absurd h List.not_mem_nil⟩, Nat.le_refl _⟩
theorem Keys.every {β : Type} {rules : List (Int × List (List Int))} {x : List (TI × β)} {n : Nat} (h : Keys rules [] x n) : ∀ z : List Int, (⟨z⟩ : TI) ∈ x.map (·.1) ↔ ∃ r ∈ rules, z ∈ r.2 := fun z => by
  rw [h.mem]
  exact ⟨fun h => h.elim id fun h => absurd h List.not_mem_nil, .inl⟩
noncomputable def goodRes (b : Int) (L : List (List Int)) : Except Er (Int × List (List Int)) := if 4 < (L.filter (isMin L)).length then .error .TooMany else .ok (b, sortT (L.filter (isMin L)))
theorem len12 {rules : List (Int × List (List Int))} {k : Nat} (h : k ≤ 4 * rules.length) (h3 : rules.length ≤ 3) : k ≤ 12 := by omega
theorem one_rule_ok {r0 : Int × List (List Int)} {rest : List (Int × List (List Int))} (h3 : (r0 :: rest).length ≤ 3) (g : ∀ r ∈ r0 :: rest, GoodRule r) :
    Ok (one_rule (r0 :: rest)) fun res => if ∀ r ∈ r0 :: rest, r.1 = r0.1 then ∃ L, L.Nodup ∧ Every (r0 :: rest) L ∧ res = goodRes r0.1 L else res = .error .NoRules := by
  unfold one_rule
  rw [need_rules_eq (by rw [List.length_cons]; omega) h3 g, Option.bind_some, exB_ok]
  rw [forK_fmM (p := fun t => !decide (t.1 = r0.1)) (g := fun t => t) (B := 16777216) _ _ (fun acc x next hx hl2 => by
    rw [one_rule_c1, atI0, Option.bind_some, if_pos hl2]) (by rw [List.length_nil]; omega), List.nil_append, List.map_id', one_rule_k2]
  by_cases hb : ∀ r ∈ r0 :: rest, r.1 = r0.1
  · have hf : (r0 :: rest).filter (fun t => !decide (t.1 = r0.1)) = [] := by
      rw [List.filter_eq_nil_iff]
      intro r hr
      rw [hb r hr, decide_eq_true rfl]; decide
    rw [hf, if_neg (by rw [eqT_iff.mpr rfl]; decide)]
    simp only [if_pos hb]
    refine forK_okI (P := fun pre (x : List (TI × List Int)) => Keys pre [] x (4 * pre.length) ∧ ∀ p ∈ x, p.2 = p.1.l) ⟨Keys.nil, fun p hp => nomatch hp⟩ (fun pre r post x next e hP hN => ?_) (fun x hP => ?_)
    · have hr : r ∈ r0 :: rest := by rw [e]; simp
      have hlen : pre.length < 3 := by
        have := congrArg List.length e
        rw [List.length_append, List.length_cons (a := r)] at this
        omega
      have hf := (g r hr).few
      rw [one_rule_b3]
      refine forK_okI (P := fun pre2 (y : List (TI × List Int)) => Keys pre pre2 y (4 * pre.length + pre2.length) ∧ ∀ p ∈ y, p.2 = p.1.l) hP (fun pre2 s post2 y next2 e2 hP2 hN2 => ?_) (fun y hP2 => ?_)
      · have hlen2 : pre2.length < 4 := by
          have := congrArg List.length e2
          rw [List.length_append, List.length_cons] at this
          omega
        have := hP2.1.len
        rw [one_rule_b5, if_pos (by omega)]
        refine hN2 _ ⟨?_, putT_all hP2.2 rfl⟩
        rw [List.length_append]
        exact hP2.1.put s s
      · rw [one_rule_e6]
        refine hN _ ⟨?_, hP2.2⟩
        have := hP2.1.done
        refine ⟨this.nd, this.mem, Nat.le_trans this.len ?_⟩
        rw [List.length_append, List.length_singleton]; omega
    · obtain ⟨hK, hv⟩ := hP
      have hlen : x.length ≤ 12 := len12 hK.len h3
      obtain ⟨L, hL⟩ : ∃ L, L = x.map (·.2) := ⟨_, rfl⟩
      have hLk : L = (x.map (·.1)).map TI.l := by
        rw [hL, List.map_map]
        exact List.map_congr_left fun p hp => hv p hp
      have hnd : L.Nodup := by
        rw [hLk]
        refine List.pairwise_map.mpr (hK.nd.imp fun {a b} h e => h ?_)
        obtain ⟨a⟩ := a
        obtain ⟨b⟩ := b
        have e : a = b := e
        rw [e]
      have hev : Every (r0 :: rest) L := fun z => by
        rw [← hK.every z, hLk, List.mem_map]
        constructor
        · rintro ⟨t, ht, rfl⟩; exact ht
        · intro h; exact ⟨_, h, rfl⟩
      have hLl : L.length ≤ 12 := by rw [hL, List.length_map]; exact hlen
      have hs4 : ∀ t ∈ L, t.length ≤ 4 := fun t ht => by
        obtain ⟨r, hr, hz⟩ := (hev t).mp ht
        exact ((g r hr).figs t hz).2.2
      rw [one_rule_e4, ← hL]
      refine Ok.of (x := goodRes r0.1 L) ?_ ⟨L, hnd, hev, rfl⟩
      rw [forK_fmM (p := isMin L) (g := fun t => t) (B := 16777216) _ _ (fun acc t next ht hl2 => by
        rw [one_rule_b7, ← hL, forK_fmM (p := fun o => (!eqT o t) && stB o t) (g := fun o => o) (B := 16777216) _ _ (fun acc o next ho hl3 => by
          rw [one_rule_c9, stands_in_eq (by have := hs4 o ho; omega) (by have := hs4 t ht; omega), Option.bind_some]
          cases eqT o t
          · rw [if_pos (by decide)]
            cases stB o t
            · rw [if_neg (by decide), if_neg (by decide)]
            · rw [if_pos rfl, if_pos hl3, if_pos (by decide)]
          · rw [if_neg (by decide), if_neg (by simp)]) (by rw [List.length_nil]; omega), List.nil_append, List.map_id', one_rule_k10, if_pos hl2]
        have hiff : (eqT (L.filter fun o => (!eqT o t) && stB o t) ([] : List (List Int)) = true) ↔ isMin L t = true := by
          rw [filter_nil_iff, isMin_iff]
          constructor
          · intro h o ho hne hi
            refine h o ho ?_
            rw [Bool.and_eq_true, Bool.not_eq_true', eqT_no]
            exact ⟨hne, stB_iff.mpr hi⟩
          · intro h o ho hc
            rw [Bool.and_eq_true, Bool.not_eq_true', eqT_no] at hc
            exact h o ho hc.1 (stB_iff.mp hc.2)
        by_cases hm : isMin L t = true
        · rw [if_pos (hiff.mpr hm), if_pos hm]
        · rw [if_neg (fun z => hm (hiff.mp z)), if_neg hm]) (by rw [List.length_nil]; omega), List.nil_append, List.map_id', one_rule_e8]
      unfold goodRes
      have hfl := List.length_filter_le (isMin L) L
      by_cases h4 : 4 < (L.filter (isMin L)).length
      · rw [if_pos (by rw [decide_eq_true_eq]; omega), if_pos h4]
      · rw [if_neg (by rw [decide_eq_true_eq]; omega), if_neg h4, atI0, Option.bind_some, if_pos (by omega)]
  · have hf : (r0 :: rest).filter (fun t => !decide (t.1 = r0.1)) ≠ [] := by
      intro e
      rw [List.filter_eq_nil_iff] at e
      refine hb fun r hr => ?_
      have := e r hr
      rw [Bool.not_eq_true, Bool.not_eq_false', decide_eq_true_eq] at this
      exact this
    rw [if_pos (by rw [eqT_no.mpr hf]; decide)]
    simp only [if_neg hb]
    exact Ok.mk rfl
/-! #### what is due -/
noncomputable def dueRes (b : Int) (E : List (List Int)) : PyData := if 4 < (E.filter (isMin E)).length then .str ("many" : Str) else TD.d ((b, E.filter (isMin E)) : Int × List (List Int))
theorem at01 {α : Type} (x y : α) : atI [x, y] (0 : Int) = some x ∧ atI [x, y] (1 : Int) = some y := ⟨rfl, rfl⟩
theorem due_ok {r0 : Int × List (List Int)} {rest : List (Int × List (List Int))} (h3 : (r0 :: rest).length ≤ 3) (g : ∀ r ∈ r0 :: rest, GoodRule r) :
    Ok (_law_due (r0 :: rest)) fun res => if ∀ r ∈ r0 :: rest, r.1 = r0.1 then ∃ E, E.Pairwise (fun a b => ltT a b = true) ∧ Every (r0 :: rest) E ∧ res = dueRes r0.1 E else res = .str ("rules" : Str) := by
  unfold _law_due
  rw [forK_fmM (p := fun t => !decide (t.1 = r0.1)) (g := fun t => t.1) (B := 16777216) _ _ (fun acc x next hx hl2 => by
    rw [_law_due_c1, atI0, Option.bind_some, if_pos hl2]) (by rw [List.length_nil]; omega), List.nil_append, _law_due_k2]
  by_cases hb : ∀ r ∈ r0 :: rest, r.1 = r0.1
  · have hf : (r0 :: rest).filter (fun t => !decide (t.1 = r0.1)) = [] := by
      rw [List.filter_eq_nil_iff]
      intro r hr
      rw [hb r hr, decide_eq_true rfl]; decide
    rw [hf, List.map_nil, if_neg (by rw [eqT_iff.mpr rfl]; decide)]
    simp only [if_pos hb]
    refine forK_okI (P := fun pre (x : List (TI × Bool)) => Keys pre [] x (4 * pre.length)) Keys.nil (fun pre r post x next e hP hN => ?_) (fun x hK => ?_)
    · have hr : r ∈ r0 :: rest := by rw [e]; simp
      have hlen : pre.length < 3 := by
        have := congrArg List.length e
        rw [List.length_append, List.length_cons (a := r)] at this
        omega
      have hf := (g r hr).few
      rw [_law_due_b3]
      refine forK_okI (P := fun pre2 (y : List (TI × Bool)) => Keys pre pre2 y (4 * pre.length + pre2.length)) hP (fun pre2 s post2 y next2 e2 hP2 hN2 => ?_) (fun y hP2 => ?_)
      · have hlen2 : pre2.length < 4 := by
          have := congrArg List.length e2
          rw [List.length_append, List.length_cons] at this
          omega
        have := hP2.len
        rw [_law_due_b5, if_pos (by omega)]
        refine hN2 _ ?_
        rw [List.length_append]
        exact hP2.put s true
      · rw [_law_due_e6]
        refine hN _ ?_
        have := hP2.done
        refine ⟨this.nd, this.mem, Nat.le_trans this.len ?_⟩
        rw [List.length_append, List.length_singleton]; omega
    · have hlen : x.length ≤ 12 := len12 hK.len h3
      obtain ⟨E, hE⟩ : ∃ E, E = (sortT (x.map (·.1))).map TI.l := ⟨_, rfl⟩
      have hev : Every (r0 :: rest) E := fun z => by
        rw [← hK.every z, hE, List.mem_map]
        constructor
        · rintro ⟨t, ht, rfl⟩; exact sortT_mem.mp ht
        · intro h; exact ⟨_, sortT_mem.mpr h, rfl⟩
      have hso : E.Pairwise fun a b => ltT a b = true := by rw [hE]; exact sortTI_lt hK.nd
      have hEl : E.length ≤ 12 := by rw [hE, List.length_map, sortT_len, List.length_map]; exact hlen
      have hs4 : ∀ t ∈ E, 1 ≤ t.length ∧ t.length ≤ 4 := fun t ht => by
        obtain ⟨r, hr, hz⟩ := (hev t).mp ht
        exact ((g r hr).figs t hz).2
      rw [_law_due_e4, if_pos (by rw [List.length_map]; omega), if_pos (fun z hz e => by
        obtain ⟨r, hr, hm⟩ := (hK.every z.l).mp hz
        have := ((g r hr).figs z.l hm).2.1
        rw [e] at this
        exact absurd this (by decide))]
      refine Ok.of (x := dueRes r0.1 E) ?_ ⟨E, hso, hev, rfl⟩
      rw [forK_fmM (p := fun _ => true) (g := TI.l) (B := 16777216) _ _ (fun acc x next hx hl2 => by rw [_law_due_c7, if_pos hl2, if_pos rfl]) (by rw [List.length_nil, sortT_len, List.length_map]; omega), filter_true', List.nil_append, ← hE, _law_due_k8]
      rw [forK_fmM (p := isMin E) (g := fun t => t) (B := 16777216) _ _ (fun acc t next ht hl2 => by
        rw [_law_due_c9, forK_fmM (p := fun o => !eqT o t) (g := fun o => o) (B := 16777216) _ _ (fun acc o next ho hl3 => by rw [_law_due_c11, if_pos hl3]) (by rw [List.length_nil]; omega), List.nil_append, List.map_id', _law_due_k12]
        rw [law_lacks_eq (fun s hs => by have := (hs4 s (List.mem_filter.mp hs).1).2; omega) (by have := hs4 t ht; omega), Option.bind_some, if_pos hl2]
        have : goodB (E.filter fun o => !eqT o t) t = isMin E t := Bool.eq_iff_iff.mpr (by
          rw [goodB_iff, isMin_iff]
          constructor
          · intro h o ho hne
            exact h o (List.mem_filter.mpr ⟨ho, by rw [Bool.not_eq_true', eqT_no]; exact hne⟩)
          · intro h o ho
            obtain ⟨h1, h2⟩ := List.mem_filter.mp ho
            rw [Bool.not_eq_true', eqT_no] at h2
            exact h o h1 h2)
        rw [this]) (by rw [List.length_nil]; omega), List.nil_append, List.map_id', _law_due_k10, atI0, Option.bind_some]
      unfold dueRes
      by_cases h4 : 4 < (E.filter (isMin E)).length
      · rw [if_pos (show decide ((4 : Int) < ((E.filter (isMin E)).length : Int)) = true by rw [decide_eq_true_eq]; omega), if_pos h4, (at01 _ _).2]; rfl
      · rw [if_neg (show ¬ decide ((4 : Int) < ((E.filter (isMin E)).length : Int)) = true by rw [decide_eq_true_eq]; omega), if_neg h4, (at01 _ _).1]; rfl
  · have hf : ((r0 :: rest).filter (fun t => !decide (t.1 = r0.1))).map (fun t => t.1) ≠ [] := by
      intro e
      rw [List.map_eq_nil_iff, List.filter_eq_nil_iff] at e
      refine hb fun r hr => ?_
      have := e r hr
      rw [Bool.not_eq_true, Bool.not_eq_false', decide_eq_true_eq] at this
      exact this
    rw [if_pos (by rw [eqT_no.mpr hf]; decide)]
    simp only [if_neg hb]
    exact Ok.mk rfl
/-! #### what is told -/
theorem kind_rules : _law_kind (some .NoRules) ("rules" : Str) = some true := by decide +kernel
theorem kind_many : _law_kind (some .TooMany) ("many" : Str) = some true := by decide +kernel
theorem unAll_map {α : Type} [TD α] [UD α] (h : ∀ x : α, UD.un (TD.d x) = some x) : ∀ xs : List α, unAll (xs.map TD.d) = some xs
  | [] => rfl
  | x :: xs => by
    show (UD.un (TD.d x)).bind (fun y => (unAll (xs.map TD.d)).bind fun ys => some (y :: ys)) = _
    rw [h x, Option.bind_some, unAll_map h xs]; rfl
theorem un_list {α : Type} [TD α] [UD α] (h : ∀ x : α, UD.un (TD.d x) = some x) (xs : List α) : UD.un (TD.d xs) = some xs := unAll_map h xs
theorem un_int (x : Int) : UD.un (TD.d x) = some x := rfl
theorem un_rule (p : Int × List (List Int)) : UD.un (α := Int × List (List Int)) (TD.d p) = some p := by
  obtain ⟨b, l⟩ := p
  show (UD.un (TD.d b)).bind (fun x => (UD.un (TD.d l)).bind fun y => some (x, y)) = _
  rw [un_int, Option.bind_some, un_list (un_list un_int)]; rfl
theorem asked_err {rules : List (Int × List (List Int))} {e : Er} {s : Str} (h : one_rule rules = some (.error e)) (k : _law_kind (some e) s = some true) : _law_asked rules (.str s) = some (.str s) := by
  unfold _law_asked
  rw [h, Option.bind_some, exB_err, if_neg (show ¬ (some e).isNone = true from fun h => by cases h), if_pos (show noLst (.str s) = true from rfl), if_pos (show isStrD (.str s) = true from rfl)]
  show (some s).bind _ = _
  rw [Option.bind_some, k, Option.bind_some, if_pos rfl, (at01 _ _).2]; rfl
theorem asked_ok {rules : List (Int × List (List Int))} {y : Int × List (List Int)} {d : PyData} (h : one_rule rules = some (.ok y)) : _law_asked rules d = some (TD.d y) := by
  unfold _law_asked
  rw [h, Option.bind_some, exB_ok, if_pos rfl, if_neg (by decide), (at01 _ _).1]; rfl
theorem EqOk_rule (p q : Int × List (List Int)) : EqOk (TD.d p) (TD.d q) := by
  unfold EqOk
  rw [TD.shaped (by decide) p, TD.shaped (by decide) q]; rfl
theorem EqOk_ll (p q : List (List Int)) : EqOk (TD.d p) (TD.d q) := by
  unfold EqOk
  rw [TD.shaped (by decide) p, TD.shaped (by decide) q]; rfl
theorem eqv_rule (p : Int × List (List Int)) : PyData.eqv (TD.d p) (TD.d p) = true := TE'.eqv p p |>.mpr rfl
theorem eqv_ll (p : List (List Int)) : PyData.eqv (TD.d p) (TD.d p) = true := TE'.eqv p p |>.mpr rfl
theorem eqv_str (s : Str) : PyData.eqv (.str s) (.str s) = true := by simp [PyData.eqv]
theorem EqOk_many : EqOk (.str ("many" : Str)) (.str ("many" : Str)) := by decide +kernel
theorem EqOk_rules : EqOk (.str ("rules" : Str)) (.str ("rules" : Str)) := by decide +kernel
theorem set_mid {α : Type} (f : α → α) (xs : List α) {k : Nat} {x : α} (h : xs[k]? = some x) : ((xs.take k).map f ++ xs.drop k).set k (f x) = (xs.take (k + 1)).map f ++ xs.drop (k + 1) := by
  have hk := (List.getElem?_eq_some_iff.mp h).1
  have hx := (List.getElem?_eq_some_iff.mp h).2
  have hl : ((xs.take k).map f).length = k := by rw [List.length_map, List.length_take]; omega
  rw [List.set_append_right _ _ (by omega), hl, Nat.sub_self, List.drop_eq_getElem_cons hk, List.set_cons_zero, List.take_succ_eq_append_getElem hk, List.map_append, List.append_assoc, hx]; rfl
theorem one_ok {rules : List (Int × List (List Int))} (h1 : 1 ≤ rules.length) (h3 : rules.length ≤ 3) (g : ∀ r ∈ rules, GoodRule r) : _law_right rules rules = some true := by
  obtain ⟨r0, rest, rfl⟩ : ∃ r0 rest, rules = r0 :: rest := by
    cases rules with
    | nil => exact absurd h1 (by decide)
    | cons a b => exact ⟨a, b, rfl⟩
  obtain ⟨d, hd, pd⟩ := due_ok h3 g
  obtain ⟨o, ho, po⟩ := one_rule_ok h3 g
  unfold _law_right
  rw [hd, Option.bind_some]
  by_cases hb : ∀ r ∈ r0 :: rest, r.1 = r0.1
  · rw [if_pos hb] at pd po
    obtain ⟨E, hE1, hE2, rfl⟩ := pd
    obtain ⟨L, hL1, hL2, rfl⟩ := po
    have hm : ∀ z, z ∈ L ↔ z ∈ E := fun z => (hL2 z).trans (hE2 z).symm
    have hfE : (E.filter (isMin E)).Pairwise fun a b => ltT a b = true := hE1.filter _
    have es : sortT (L.filter (isMin L)) = E.filter (isMin E) := by
      refine sorted_ext (sortT_lt (hL1.filter _)) hfE fun z => ?_
      rw [sortT_mem, List.mem_filter, List.mem_filter, hm z, isMin_ext hm]
    have el : (L.filter (isMin L)).length = (E.filter (isMin E)).length := by rw [← es, sortT_len]
    have hlen : (E.filter (isMin E)).length ≤ 4 → ∀ z ∈ E.filter (isMin E), z.length ≤ 4 := fun _ z hz => by
      obtain ⟨r, hr, hm⟩ := (hE2 z).mp (List.mem_filter.mp hz).1
      exact ((g r hr).figs z hm).2.2
    unfold goodRes at ho
    unfold dueRes
    rw [el, es] at ho
    obtain ⟨M, hM⟩ : ∃ M, M = E.filter (isMin E) := ⟨_, rfl⟩
    rw [← hM] at ho hfE hlen ⊢
    by_cases h4 : 4 < M.length
    · rw [if_pos h4] at ho ⊢
      rw [asked_err ho kind_many, Option.bind_some]
      show (if _ then _ else _) = _
      rw [if_pos EqOk_many, if_pos (eqv_str _), eqT_iff.mpr rfl]
    · rw [if_neg h4] at ho ⊢
      have hl := hlen (by omega)
      rw [asked_ok ho, Option.bind_some, un_rule]
      show (if _ then _ else _) = _
      have e1 : (PyData.tuple [PyData.int r0.1, PyData.list (M.map fun z => PyData.list (z.map fun z => PyData.int z))]) = TD.d ((r0.1, M) : Int × List (List Int)) := rfl
      rw [if_pos (ltT_nodup hfE), if_neg (show ¬ isStrD (TD.d ((r0.1, M) : Int × List (List Int))) = true from fun h => by cases h), e1, if_pos (EqOk_rule _ _), if_neg (by rw [eqv_rule]; decide)]
      obtain ⟨N, hN⟩ : ∃ N, N = M.length := ⟨_, rfl⟩
      rw [show ((r0.1, M) : Int × List (List Int)).2 = M from rfl, ← hN]
      refine Ok.eq (forK_okI (P := fun pre (s : List (List Int)) => s = (M.take pre.length).map (fun z => z ++ [(0 : Int)]) ++ M.drop pre.length) (by simp) (fun pre t post s next e hP hNx => ?_) (fun s hP => ?_))
      · have ht : t = pre.length ∧ pre.length < M.length := by
          have h9 := congrArg (fun l => l[pre.length]?) e
          simp only [List.getElem?_append_right (Nat.le_refl _), Nat.sub_self, List.getElem?_cons_zero] at h9
          have h8 := (List.getElem?_eq_some_iff.mp h9)
          obtain ⟨h7, h6⟩ := h8
          rw [List.length_range] at h7
          rw [List.getElem_range] at h6
          exact ⟨h6.symm, by omega⟩
        obtain ⟨rfl, hk⟩ := ht
        have hx : M[pre.length]? = some M[pre.length] := List.getElem?_eq_getElem hk
        have hs : s[pre.length]? = some M[pre.length] := by
          rw [hP, List.getElem?_append_right (by rw [List.length_map, List.length_take]; omega), List.length_map, List.length_take, Nat.min_eq_left (by omega), Nat.sub_self, List.getElem?_drop, Nat.add_zero, hx]
        have hz := hl _ (List.getElem_mem hk)
        rw [_law_right_b7, hs, Option.bind_some]
        rw [forK_fmM (p := fun _ => true) (g := fun _ => false) (B := 16777216) _ _ (fun acc x next hx hl2 => by rw [_law_right_c9, if_pos hl2, if_pos rfl]) (by rw [List.length_nil]; omega), filter_true', List.nil_append, _law_right_k10]
        rw [if_neg (by
          rw [Bool.not_eq_true, memT_no]
          intro h
          obtain ⟨_, _, e⟩ := List.mem_map.mp h
          cases e), if_pos (by omega)]
        refine hNx _ ?_
        rw [hP, set_mid (fun z => z ++ [(0 : Int)]) M hx, List.length_append, List.length_singleton]
      · rw [hN, List.length_range, List.take_length, List.drop_length, List.append_nil] at hP
        subst hP
        rw [_law_right_e8]
        show Ok ((some [PyData.int r0.1, TD.d M]).bind _) _
        rw [Option.bind_some, (at01 _ _).2, Option.bind_some]
        show Ok ((some (M.map TD.d)).bind _) _
        rw [Option.bind_some]
        have e0 : ([(0 : Int)].map fun z => PyData.int z) = [PyData.int 0] := rfl
        rw [forK_fmM (p := fun _ => true) (g := fun d => ((asLst d).getD []) ++ [PyData.int 0]) (B := 16777216) _ _ (fun acc x next hx hl2 => by
          obtain ⟨z, hz, rfl⟩ := List.mem_map.mp hx
          have := hl z hz
          rw [_law_right_c11]
          show (some (z.map TD.d)).bind _ = _
          rw [Option.bind_some, e0, if_pos (by rw [List.length_map, List.length_singleton]; omega), if_pos hl2, if_pos rfl]; rfl) (by rw [List.length_nil, List.length_map]; omega), filter_true', List.nil_append, List.map_map, _law_right_k12]
        have e2 : (M.map ((fun d => ((asLst d).getD []) ++ [PyData.int 0]) ∘ TD.d)).map (fun z => PyData.list z) = (M.map fun z => z ++ [(0 : Int)]).map TD.d := by
          rw [List.map_map, List.map_map]
          refine List.map_congr_left fun z hz => ?_
          show PyData.list (z.map TD.d ++ [PyData.int 0]) = PyData.list ((z ++ [0]).map TD.d)
          rw [List.map_append]; rfl
        rw [e2]
        have e3 : (PyData.list ((M.map fun z => z ++ [(0 : Int)]).map fun z => PyData.list (z.map fun z => PyData.int z))) = TD.d (M.map fun z => z ++ [(0 : Int)]) := rfl
        have e4 : (PyData.list ((M.map fun z => z ++ [(0 : Int)]).map TD.d)) = TD.d (M.map fun z => z ++ [(0 : Int)]) := rfl
        rw [e3, e4, if_pos (EqOk_ll _ _), if_neg (by rw [eqv_ll]; decide), ho, Option.bind_some, exB_ok, e1, if_pos (EqOk_rule _ _), if_pos (eqv_rule _)]
        exact Ok.mk (eqT_iff.mpr rfl)
  · rw [if_neg hb] at pd po
    subst pd po
    rw [asked_err ho kind_rules, Option.bind_some]
    show (if _ then _ else _) = _
    rw [if_pos EqOk_rules, if_pos (eqv_str _), eqT_iff.mpr rfl]
/-! #### rules of one base -/
theorem same_base_ok {st : StS} (h : StOk st) : Ok (_law_same_base st) fun p => (1 ≤ p.1.length ∧ p.1.length ≤ 3 ∧ ∀ r ∈ p.1, GoodRule r) ∧ StOk p.2 := by
  unfold _law_same_base
  refine (base_ok h).bind fun ⟨r1, st1⟩ ⟨⟨a1, a2⟩, g1⟩ => ?_
  have a1 : 2 ≤ r1 := a1
  have a2 : r1 ≤ 16 := a2
  refine (take_ok g1 (by decide) (by decide)).bind fun ⟨r2, st2⟩ ⟨⟨b1, b2⟩, g2⟩ => ?_
  have b1 : 0 ≤ r2 := b1
  have b2 : r2 < 3 := b2
  refine Ok.guard ⟨by omega, by omega⟩ ?_
  refine forK_okI (P := fun pre (s : List (Int × List (List Int)) × List (List Int) × StS) => s.1.length = pre.length ∧ (∀ r ∈ s.1, GoodRule r) ∧ s.2.1.length ≤ 4 * pre.length ∧ (∀ z ∈ s.2.1, GoodS r1 z) ∧ StOk s.2.2) ⟨rfl, (fun r hr => nomatch hr), Nat.zero_le _, (fun z hz => nomatch hz), g2⟩ (fun pre t1 post s next e hP hN => ?_) (fun s hP => ?_)
  · obtain ⟨x1, x2, st3⟩ := s
    obtain ⟨p1, p2, p3, p4, p5⟩ := hP
    have p1 : x1.length = pre.length := p1
    have p3 : x2.length ≤ 4 * pre.length := p3
    have hl : pre.length < 3 := by
      have := congrArg List.length e
      rw [irange_len, List.length_append, List.length_cons] at this
      omega
    rw [_law_same_base_b1]
    refine (bad_ok p5 a1 a2).bind fun ⟨r3, st4⟩ ⟨q1, q2⟩ => ?_
    have hr3 : r3.length ≤ 4 := q1.few
    have fin : ∀ (x4 : List (TI × Bool)) (st6 : StS), x4.length ≤ 5 → (x4.map (·.1)).Nodup → (∀ t ∈ x4.map (·.1), GoodS r1 t.l) → StOk st6 → Ok (_law_same_base_j5 x2 x1 next r1 (x4, st6)) fun p => (1 ≤ p.1.length ∧ p.1.length ≤ 3 ∧ ∀ r ∈ p.1, GoodRule r) ∧ StOk p.2 := fun x4 st6 k1 k2 k3 k4 => by
      obtain ⟨s1, s2, s3⟩ := sorted_keys k2 k3
      rw [_law_same_base_j5, if_pos (by rw [List.length_map]; omega), if_pos (keys_ne k3)]
      refine forK_okI (P := fun pre (s : List (List Int) × StS) => s.1 = pre.map TI.l ∧ StOk s.2) ⟨rfl, k4⟩ (fun pre2 x post2 s next2 e2 hP2 hN2 => ?_) (fun s hP2 => ?_)
      · obtain ⟨x8, st12⟩ := s
        obtain ⟨m1, m2⟩ := hP2
        have m1 : x8 = pre2.map TI.l := m1
        have hl2 : pre2.length < 6 := by
          have := congrArg List.length e2
          rw [sortT_len, List.length_map, List.length_append, List.length_cons] at this
          omega
        rw [_law_same_base_c6, if_pos (by rw [m1, List.length_map]; omega)]
        exact hN2 _ ⟨by show x8 ++ [x.l] = _; rw [m1, List.map_append]; rfl, m2⟩
      · obtain ⟨x8, st12⟩ := s
        obtain ⟨m1, m2⟩ := hP2
        have m1 : x8 = (sortT (x4.map (·.1))).map TI.l := m1
        have hc : cutT x8 none (some (4 : Int)) = x8.take 4 := cut_take (by decide)
        have hl4 : (x8.take 4).length ≤ 4 := by rw [List.length_take]; omega
        have hmem : ∀ z ∈ x8.take 4, GoodS r1 z := fun z hz => s1 z (by rw [← m1]; exact List.mem_of_mem_take hz)
        rw [_law_same_base_k7, hc, if_pos (by omega), if_pos (by omega)]
        refine hN _ ⟨?_, ?_, ?_, ?_, m2⟩
        · show (x1 ++ [(r1, x8.take 4)]).length = (pre ++ [t1]).length
          rw [List.length_append, List.length_append, p1]; rfl
        · intro r hr
          rcases List.mem_append.mp (show r ∈ x1 ++ [(r1, x8.take 4)] from hr) with hr | hr
          · exact p2 r hr
          · rw [List.mem_singleton.mp hr]
            refine ⟨a1, a2, hl4, hmem, ?_⟩
            show (x8.take 4).Pairwise _
            rw [m1]
            exact s2.sublist (List.take_sublist _ _)
        · show (x2 ++ x8.take 4).length ≤ 4 * (pre ++ [t1]).length
          rw [List.length_append, List.length_append, List.length_singleton]; omega
        · intro z hz
          rcases List.mem_append.mp (show z ∈ x2 ++ x8.take 4 from hz) with hz | hz
          · exact p4 z hz
          · exact hmem z hz
    refine forK_okI (P := fun pre2 (s : List (TI × Bool) × StS) => s.1.length ≤ pre2.length ∧ (s.1.map (·.1)).Nodup ∧ (∀ t ∈ s.1.map (·.1), GoodS r1 t.l) ∧ StOk s.2) ⟨Nat.le_refl _, List.nodup_nil, (fun t ht => nomatch ht), q2⟩ (fun pre2 s post2 y next2 e2 hP2 hN2 => ?_) (fun s hP2 => ?_)
    · obtain ⟨x3, st5⟩ := y
      obtain ⟨k1, k2, k3, k4⟩ := hP2
      have k1 : x3.length ≤ pre2.length := k1
      have hl2 : pre2.length < 4 := by
        have := congrArg List.length e2
        rw [List.length_append, List.length_cons] at this
        omega
      have hs : s ∈ r3 := by rw [e2]; simp
      rw [_law_same_base_b3, if_pos (by omega)]
      refine hN2 _ ⟨?_, putT_nodup k2, fun t ht => ?_, k4⟩
      · have := putT_len (xs := x3) (k := (⟨s⟩ : TI)) (v := true)
        rw [List.length_append, List.length_singleton]
        show (putT x3 ⟨s⟩ true).length ≤ _
        omega
      · rcases putT_mem.mp ht with h | h
        · exact k3 t h
        · rw [h]; exact q1.figs s hs
    · obtain ⟨x3, st5⟩ := s
      obtain ⟨k1, k2, k3, k4⟩ := hP2
      have k1 : x3.length ≤ r3.length := k1
      rw [_law_same_base_e4]
      refine Ok.ite (fun hc => ?_) (fun _ => fin x3 st5 (by omega) k2 k3 k4)
      have hne : x2 ≠ [] := by
        rw [Bool.not_eq_true', eqT_no] at hc
        exact hc
      refine (take_ok k4 (by decide) (by decide)).bind fun ⟨r4, st7⟩ ⟨_, g7⟩ => ?_
      refine Ok.ite (fun _ => ?_) (fun _ => fin x3 st7 (by omega) k2 k3 g7)
      have hx2 : 0 < x2.length := List.length_pos_iff.mpr hne
      refine (take_ok g7 (by omega) (by omega)).bind fun ⟨r5, st8⟩ ⟨⟨c1, c2⟩, g8⟩ => ?_
      have c1 : 0 ≤ r5 := c1
      have c2 : r5 < (x2.length : Int) := c2
      obtain ⟨x5, hx5, _, hm5⟩ := atI_lt (xs := x2) c1 c2
      have gx5 := p4 x5 hm5
      dsimp only
      rw [hx5, Option.bind_some]
      refine (take_ok g8 (by omega) (by omega)).bind fun ⟨r6, st9⟩ ⟨⟨d1, d2⟩, g9⟩ => ?_
      have d1 : 0 ≤ r6 := d1
      have d2 : r6 < r1 := d2
      have hx5l := gx5.2.2
      refine Ok.guard (by rw [List.length_singleton]; omega) ?_
      refine (take_ok g9 (by omega) (by omega)).bind fun ⟨r7, st10⟩ ⟨⟨f1, f2⟩, g10⟩ => ?_
      have f1 : 0 ≤ r7 := f1
      have f2 : r7 < r1 := f2
      refine Ok.guard (by rw [List.length_singleton]; omega) ?_
      refine (take_ok g10 (by decide) (by decide)).bind fun ⟨r8, st11⟩ ⟨⟨i1, i2⟩, g11⟩ => ?_
      have i1 : 0 ≤ r8 := i1
      have i2 : r8 < 3 := i2
      refine Ok.bind (P := fun z => Figs r1 z ∧ 1 ≤ z.length) ?_ fun x6 hx6 => ?_
      · rcases (show r8 = 0 ∨ r8 = 1 ∨ r8 = 2 by omega) with rfl | rfl | rfl
        · exact ⟨_, rfl, gx5.1, gx5.2.1⟩
        · exact ⟨_, rfl, Figs.app (Figs.one ⟨d1, d2⟩) gx5.1, by rw [List.length_append, List.length_singleton]; omega⟩
        · exact ⟨_, rfl, Figs.app gx5.1 (Figs.one ⟨f1, f2⟩), by rw [List.length_append, List.length_singleton]; omega⟩
      · have hc6 : cutT x6 none (some (4 : Int)) = x6.take 4 := cut_take (by decide)
        rw [hc6]
        have gx6 : GoodS r1 (x6.take 4) := ⟨fun d hd => hx6.1 d (List.mem_of_mem_take hd), by rw [List.length_take]; omega, by rw [List.length_take]; omega⟩
        refine Ok.guard (by omega) (fin _ st11 ?_ (putT_nodup k2) (fun t ht => ?_) g11)
        · have := putT_len (xs := x3) (k := (⟨x6.take 4⟩ : TI)) (v := true)
          omega
        · rcases putT_mem.mp ht with h | h
          · exact k3 t h
          · rw [h]; exact gx6
  · obtain ⟨x1, x2, st3⟩ := s
    obtain ⟨p1, p2, p3, p4, p5⟩ := hP
    have p1 : x1.length = (irange 0 (1 + r2)).length := p1
    rw [irange_len] at p1
    rw [_law_same_base_e2]
    exact Ok.mk ⟨⟨by show 1 ≤ x1.length; omega, by show x1.length ≤ 3; omega, p2⟩, p5⟩
/-! #### the law -/
theorem last_one : Ok (one_rule [(10, [[1, 3], [1, 3, 1]]), (10, [[1]])]) fun res => res = .ok (10, [[1]]) := by
  have g : ∀ r ∈ [((10 : Int), [[(1 : Int), 3], [1, 3, 1]]), (10, [[1]])], GoodRule r := by
    intro r hr
    rcases List.mem_cons.mp hr with rfl | hr
    · refine ⟨by decide, by decide, by decide, fun z hz => ?_, by decide +kernel⟩
      rcases List.mem_cons.mp hz with rfl | hz
      · exact ⟨fun d hd => by
        have hd : d = 1 ∨ d = 3 := by simp at hd; omega
        rcases hd with rfl | rfl <;> decide, by decide, by decide⟩
      · rw [List.mem_singleton.mp hz]
        exact ⟨fun d hd => by
        have hd : d = 1 ∨ d = 3 := by simp at hd; omega
        rcases hd with rfl | rfl <;> decide, by decide, by decide⟩
    · rw [List.mem_singleton.mp hr]
      refine ⟨by decide, by decide, by decide, fun z hz => ?_, by decide +kernel⟩
      rw [List.mem_singleton.mp hz]
      exact ⟨fun d hd => by simp at hd; rw [hd]; decide, by decide, by decide⟩
  obtain ⟨o, ho, po⟩ := one_rule_ok (by decide) g
  rw [if_pos (fun r hr => by
    rcases List.mem_cons.mp hr with rfl | hr
    · rfl
    · rw [List.mem_singleton.mp hr])] at po
  obtain ⟨L, h1, h2, rfl⟩ := po
  refine Ok.of ho ?_
  have hL : ∀ z, z ∈ L ↔ z = [1, 3] ∨ z = [1, 3, 1] ∨ z = [1] := fun z => by
    rw [h2 z]
    simp [or_assoc]
  have hm : ∀ z, z ∈ L.filter (isMin L) ↔ z ∈ [[(1 : Int)]] := fun z => by
    rw [List.mem_filter, List.mem_singleton, isMin_iff, hL]
    constructor
    · rintro ⟨rfl | rfl | rfl, h⟩
      · exact absurd ⟨[], [3], rfl⟩ (h [1] ((hL _).mpr (.inr (.inr rfl))) (by decide))
      · exact absurd ⟨[], [3, 1], rfl⟩ (h [1] ((hL _).mpr (.inr (.inr rfl))) (by decide))
      · rfl
    · rintro rfl
      refine ⟨.inr (.inr rfl), fun o ho hne hi => ?_⟩
      have hl := hi.length_le
      rcases (hL o).mp ho with rfl | rfl | rfl
      · exact absurd hl (by decide)
      · exact absurd hl (by decide)
      · exact hne rfl
  have es : sortT (L.filter (isMin L)) = [[1]] := sorted_ext (sortT_lt (h1.filter _)) (List.pairwise_singleton _ _) fun z => by rw [sortT_mem]; exact hm z
  have el := congrArg List.length es
  rw [sortT_len] at el
  unfold goodRes
  rw [if_neg (by rw [el]; decide), es]
theorem law_true (ns : List Int) : law ns = some true := by
  unfold law
  obtain ⟨N, hN⟩ : ∃ N : Int, N = (if (12 : Int) < (if (3 : Int) > (ns.length : Int) then (3 : Int) else (ns.length : Int)) then (12 : Int) else (if (3 : Int) > (ns.length : Int) then (3 : Int) else (ns.length : Int))) := ⟨_, rfl⟩
  rw [← hN]
  have hN12 : 0 ≤ N ∧ N ≤ 12 := by rw [hN]; split <;> split <;> omega
  refine Ok.eq (Ok.guard ⟨by omega, by omega⟩ ?_)
  refine forK_ok (P := fun _ => True) trivial (fun u t1 next ht _ hNx => ?_) (fun u _ => ?_)
  · have ht := irange_mem.mp ht
    rw [law_b1]
    refine (cell_ok ht.1 (by omega)).bind fun r1 _ => ?_
    refine (store_ok' r1).bind fun r2 hs => ?_
    refine forK_ok (P := StOk) hs (fun x1 t2 next2 _ hP hN2 => ?_) (fun x1 _ => ?_)
    · rw [law_b3]
      refine (same_base_ok hP).bind fun ⟨r3, x2⟩ ⟨⟨a1, a2, a3⟩, g2⟩ => ?_
      have a1 : 1 ≤ r3.length := a1
      have a2 : r3.length ≤ 3 := a2
      have fin : ∀ (x3 : List Int) (x4 : List (Int × List (List Int))), 1 ≤ x4.length → x4.length ≤ 3 → (∀ r ∈ x4, GoodRule r) → StOk x3 → Ok (law_j5 next2 (x3, x4)) (fun b => b = true) := fun x3 x4 c1 c2 c3 c4 => by
        rw [law_j5, forK_fmM (p := fun _ => true) (g := fun t => t) (B := 16777216) _ _ (fun acc x next hx hl2 => by
          have := (c3 x hx).few
          rw [law_c6, copy_eq (by omega), Option.bind_some, if_pos hl2, if_pos rfl]) (by rw [List.length_nil]; omega), filter_true', List.nil_append, List.map_id', law_k7, one_ok c1 c2 c3, Option.bind_some, if_neg (by decide)]
        exact hN2 _ c4
      refine (take_ok g2 (by decide) (by decide)).bind fun ⟨r4, x5⟩ ⟨_, g5⟩ => ?_
      refine Ok.ite (fun _ => ?_) (fun _ => fin x5 r3 a1 a2 a3 g5)
      refine (take_ok g5 (by omega) (by omega)).bind fun ⟨r5, x6⟩ ⟨⟨c1, c2⟩, g6⟩ => ?_
      refine (rule_ok g6).bind fun ⟨r6, x7⟩ ⟨q1, g7⟩ => ?_
      have c1 : 0 ≤ r5 := c1
      have c2 : r5 < (r3.length : Int) := c2
      dsimp only
      rw [ixN_lt c1 c2, Option.bind_some]
      refine fin x7 _ (by rw [List.length_set]; exact a1) (by rw [List.length_set]; exact a2) (fun r hr => ?_) g7
      rcases List.mem_or_eq_of_mem_set hr with h | h
      · exact a3 r h
      · rw [h]; exact q1
    · rw [law_e4]
      exact hNx _ trivial
  · rw [law_e2]
    obtain ⟨r, hr, rfl⟩ := last_one
    rw [hr, Option.bind_some, exB_ok]
    exact Ok.mk (eqT_iff.mpr rfl)

theorem all_mk {l : PySem.W.OpenLaw} {w : World} {K : PySem.W.Frag} {h : Heap} {mg : Str → Option Value} {fa : Addr}
    (X : K.In h) (G : h.Ns mainGlobals mg) (hfa : mg "law" = some (.ref fa))
    {f__law_cell : Addr} {od__law_cell an__law_cell : Option Addr} {sl__law_cell : Array (Option Value)} {oc__law_cell kV__law_cell dc__law_cell pm__law_cell cd__law_cell ct__law_cell : Value}
    (a__law_cell : PySem.W.nsIn K mainGlobals "_law_cell" = some (some (.ref f__law_cell)))
    (l__law_cell : K.lookup f__law_cell = some ⟨oc__law_cell, od__law_cell, .func (PySem.W.fnOf "_law_cell" "_law_cell" (defArgs s__law_cell) (defBody s__law_cell) (defScope s__law_cell) .none kV__law_cell dc__law_cell pm__law_cell an__law_cell cd__law_cell ct__law_cell), sl__law_cell⟩)
    (c__law_cell : PySem.W.codeIn K cd__law_cell "_law_cell" = true) (k__law_cell : PySem.W.keepIn K (.ref f__law_cell) = true)
    {f__law_copy : Addr} {od__law_copy an__law_copy : Option Addr} {sl__law_copy : Array (Option Value)} {oc__law_copy kV__law_copy dc__law_copy pm__law_copy cd__law_copy ct__law_copy : Value}
    (a__law_copy : PySem.W.nsIn K mainGlobals "_law_copy" = some (some (.ref f__law_copy)))
    (l__law_copy : K.lookup f__law_copy = some ⟨oc__law_copy, od__law_copy, .func (PySem.W.fnOf "_law_copy" "_law_copy" (defArgs s__law_copy) (defBody s__law_copy) (defScope s__law_copy) .none kV__law_copy dc__law_copy pm__law_copy an__law_copy cd__law_copy ct__law_copy), sl__law_copy⟩)
    (c__law_copy : PySem.W.codeIn K cd__law_copy "_law_copy" = true) (k__law_copy : PySem.W.keepIn K (.ref f__law_copy) = true)
    {f__law_kind : Addr} {od__law_kind an__law_kind : Option Addr} {sl__law_kind : Array (Option Value)} {oc__law_kind kV__law_kind dc__law_kind pm__law_kind cd__law_kind ct__law_kind : Value}
    (a__law_kind : PySem.W.nsIn K mainGlobals "_law_kind" = some (some (.ref f__law_kind)))
    (l__law_kind : K.lookup f__law_kind = some ⟨oc__law_kind, od__law_kind, .func (PySem.W.fnOf "_law_kind" "_law_kind" (defArgs s__law_kind) (defBody s__law_kind) (defScope s__law_kind) .none kV__law_kind dc__law_kind pm__law_kind an__law_kind cd__law_kind ct__law_kind), sl__law_kind⟩)
    (c__law_kind : PySem.W.codeIn K cd__law_kind "_law_kind" = true) (k__law_kind : PySem.W.keepIn K (.ref f__law_kind) = true)
    {f_is_whole : Addr} {od_is_whole an_is_whole : Option Addr} {sl_is_whole : Array (Option Value)} {oc_is_whole kV_is_whole dc_is_whole pm_is_whole cd_is_whole ct_is_whole : Value}
    (a_is_whole : PySem.W.nsIn K mainGlobals "is_whole" = some (some (.ref f_is_whole)))
    (l_is_whole : K.lookup f_is_whole = some ⟨oc_is_whole, od_is_whole, .func (PySem.W.fnOf "is_whole" "is_whole" (defArgs s_is_whole) (defBody s_is_whole) (defScope s_is_whole) .none kV_is_whole dc_is_whole pm_is_whole an_is_whole cd_is_whole ct_is_whole), sl_is_whole⟩)
    (c_is_whole : PySem.W.codeIn K cd_is_whole "is_whole" = true) (k_is_whole : PySem.W.keepIn K (.ref f_is_whole) = true)
    {f_is_base : Addr} {od_is_base an_is_base : Option Addr} {sl_is_base : Array (Option Value)} {oc_is_base kV_is_base dc_is_base pm_is_base cd_is_base ct_is_base : Value}
    (a_is_base : PySem.W.nsIn K mainGlobals "is_base" = some (some (.ref f_is_base)))
    (l_is_base : K.lookup f_is_base = some ⟨oc_is_base, od_is_base, .func (PySem.W.fnOf "is_base" "is_base" (defArgs s_is_base) (defBody s_is_base) (defScope s_is_base) .none kV_is_base dc_is_base pm_is_base an_is_base cd_is_base ct_is_base), sl_is_base⟩)
    (c_is_base : PySem.W.codeIn K cd_is_base "is_base" = true) (k_is_base : PySem.W.keepIn K (.ref f_is_base) = true)
    {f_is_figure : Addr} {od_is_figure an_is_figure : Option Addr} {sl_is_figure : Array (Option Value)} {oc_is_figure kV_is_figure dc_is_figure pm_is_figure cd_is_figure ct_is_figure : Value}
    (a_is_figure : PySem.W.nsIn K mainGlobals "is_figure" = some (some (.ref f_is_figure)))
    (l_is_figure : K.lookup f_is_figure = some ⟨oc_is_figure, od_is_figure, .func (PySem.W.fnOf "is_figure" "is_figure" (defArgs s_is_figure) (defBody s_is_figure) (defScope s_is_figure) .none kV_is_figure dc_is_figure pm_is_figure an_is_figure cd_is_figure ct_is_figure), sl_is_figure⟩)
    (c_is_figure : PySem.W.codeIn K cd_is_figure "is_figure" = true) (k_is_figure : PySem.W.keepIn K (.ref f_is_figure) = true)
    {f_are_figures : Addr} {od_are_figures an_are_figures : Option Addr} {sl_are_figures : Array (Option Value)} {oc_are_figures kV_are_figures dc_are_figures pm_are_figures cd_are_figures ct_are_figures : Value}
    (a_are_figures : PySem.W.nsIn K mainGlobals "are_figures" = some (some (.ref f_are_figures)))
    (l_are_figures : K.lookup f_are_figures = some ⟨oc_are_figures, od_are_figures, .func (PySem.W.fnOf "are_figures" "are_figures" (defArgs s_are_figures) (defBody s_are_figures) (defScope s_are_figures) .none kV_are_figures dc_are_figures pm_are_figures an_are_figures cd_are_figures ct_are_figures), sl_are_figures⟩)
    (c_are_figures : PySem.W.codeIn K cd_are_figures "are_figures" = true) (k_are_figures : PySem.W.keepIn K (.ref f_are_figures) = true)
    {f_is_stretch : Addr} {od_is_stretch an_is_stretch : Option Addr} {sl_is_stretch : Array (Option Value)} {oc_is_stretch kV_is_stretch dc_is_stretch pm_is_stretch cd_is_stretch ct_is_stretch : Value}
    (a_is_stretch : PySem.W.nsIn K mainGlobals "is_stretch" = some (some (.ref f_is_stretch)))
    (l_is_stretch : K.lookup f_is_stretch = some ⟨oc_is_stretch, od_is_stretch, .func (PySem.W.fnOf "is_stretch" "is_stretch" (defArgs s_is_stretch) (defBody s_is_stretch) (defScope s_is_stretch) .none kV_is_stretch dc_is_stretch pm_is_stretch an_is_stretch cd_is_stretch ct_is_stretch), sl_is_stretch⟩)
    (c_is_stretch : PySem.W.codeIn K cd_is_stretch "is_stretch" = true) (k_is_stretch : PySem.W.keepIn K (.ref f_is_stretch) = true)
    {f_is_rule : Addr} {od_is_rule an_is_rule : Option Addr} {sl_is_rule : Array (Option Value)} {oc_is_rule kV_is_rule dc_is_rule pm_is_rule cd_is_rule ct_is_rule : Value}
    (a_is_rule : PySem.W.nsIn K mainGlobals "is_rule" = some (some (.ref f_is_rule)))
    (l_is_rule : K.lookup f_is_rule = some ⟨oc_is_rule, od_is_rule, .func (PySem.W.fnOf "is_rule" "is_rule" (defArgs s_is_rule) (defBody s_is_rule) (defScope s_is_rule) .none kV_is_rule dc_is_rule pm_is_rule an_is_rule cd_is_rule ct_is_rule), sl_is_rule⟩)
    (c_is_rule : PySem.W.codeIn K cd_is_rule "is_rule" = true) (k_is_rule : PySem.W.keepIn K (.ref f_is_rule) = true)
    {f_need_rules : Addr} {od_need_rules an_need_rules : Option Addr} {sl_need_rules : Array (Option Value)} {oc_need_rules kV_need_rules dc_need_rules pm_need_rules cd_need_rules ct_need_rules : Value}
    (a_need_rules : PySem.W.nsIn K mainGlobals "need_rules" = some (some (.ref f_need_rules)))
    (l_need_rules : K.lookup f_need_rules = some ⟨oc_need_rules, od_need_rules, .func (PySem.W.fnOf "need_rules" "need_rules" (defArgs s_need_rules) (defBody s_need_rules) (defScope s_need_rules) .none kV_need_rules dc_need_rules pm_need_rules an_need_rules cd_need_rules ct_need_rules), sl_need_rules⟩)
    (c_need_rules : PySem.W.codeIn K cd_need_rules "need_rules" = true) (k_need_rules : PySem.W.keepIn K (.ref f_need_rules) = true)
    {f_stands_in : Addr} {od_stands_in an_stands_in : Option Addr} {sl_stands_in : Array (Option Value)} {oc_stands_in kV_stands_in dc_stands_in pm_stands_in cd_stands_in ct_stands_in : Value}
    (a_stands_in : PySem.W.nsIn K mainGlobals "stands_in" = some (some (.ref f_stands_in)))
    (l_stands_in : K.lookup f_stands_in = some ⟨oc_stands_in, od_stands_in, .func (PySem.W.fnOf "stands_in" "stands_in" (defArgs s_stands_in) (defBody s_stands_in) (defScope s_stands_in) .none kV_stands_in dc_stands_in pm_stands_in an_stands_in cd_stands_in ct_stands_in), sl_stands_in⟩)
    (c_stands_in : PySem.W.codeIn K cd_stands_in "stands_in" = true) (k_stands_in : PySem.W.keepIn K (.ref f_stands_in) = true)
    {f_one_rule : Addr} {od_one_rule an_one_rule : Option Addr} {sl_one_rule : Array (Option Value)} {oc_one_rule kV_one_rule dc_one_rule pm_one_rule cd_one_rule ct_one_rule : Value}
    (a_one_rule : PySem.W.nsIn K mainGlobals "one_rule" = some (some (.ref f_one_rule)))
    (l_one_rule : K.lookup f_one_rule = some ⟨oc_one_rule, od_one_rule, .func (PySem.W.fnOf "one_rule" "one_rule" (defArgs s_one_rule) (defBody s_one_rule) (defScope s_one_rule) .none kV_one_rule dc_one_rule pm_one_rule an_one_rule cd_one_rule ct_one_rule), sl_one_rule⟩)
    (c_one_rule : PySem.W.codeIn K cd_one_rule "one_rule" = true) (k_one_rule : PySem.W.keepIn K (.ref f_one_rule) = true)
    {f__law_asked : Addr} {od__law_asked an__law_asked : Option Addr} {sl__law_asked : Array (Option Value)} {oc__law_asked kV__law_asked dc__law_asked pm__law_asked cd__law_asked ct__law_asked : Value}
    (a__law_asked : PySem.W.nsIn K mainGlobals "_law_asked" = some (some (.ref f__law_asked)))
    (l__law_asked : K.lookup f__law_asked = some ⟨oc__law_asked, od__law_asked, .func (PySem.W.fnOf "_law_asked" "_law_asked" (defArgs s__law_asked) (defBody s__law_asked) (defScope s__law_asked) .none kV__law_asked dc__law_asked pm__law_asked an__law_asked cd__law_asked ct__law_asked), sl__law_asked⟩)
    (c__law_asked : PySem.W.codeIn K cd__law_asked "_law_asked" = true) (k__law_asked : PySem.W.keepIn K (.ref f__law_asked) = true)
    {f__law_lacks : Addr} {od__law_lacks an__law_lacks : Option Addr} {sl__law_lacks : Array (Option Value)} {oc__law_lacks kV__law_lacks dc__law_lacks pm__law_lacks cd__law_lacks ct__law_lacks : Value}
    (a__law_lacks : PySem.W.nsIn K mainGlobals "_law_lacks" = some (some (.ref f__law_lacks)))
    (l__law_lacks : K.lookup f__law_lacks = some ⟨oc__law_lacks, od__law_lacks, .func (PySem.W.fnOf "_law_lacks" "_law_lacks" (defArgs s__law_lacks) (defBody s__law_lacks) (defScope s__law_lacks) .none kV__law_lacks dc__law_lacks pm__law_lacks an__law_lacks cd__law_lacks ct__law_lacks), sl__law_lacks⟩)
    (c__law_lacks : PySem.W.codeIn K cd__law_lacks "_law_lacks" = true) (k__law_lacks : PySem.W.keepIn K (.ref f__law_lacks) = true)
    {f__law_due : Addr} {od__law_due an__law_due : Option Addr} {sl__law_due : Array (Option Value)} {oc__law_due kV__law_due dc__law_due pm__law_due cd__law_due ct__law_due : Value}
    (a__law_due : PySem.W.nsIn K mainGlobals "_law_due" = some (some (.ref f__law_due)))
    (l__law_due : K.lookup f__law_due = some ⟨oc__law_due, od__law_due, .func (PySem.W.fnOf "_law_due" "_law_due" (defArgs s__law_due) (defBody s__law_due) (defScope s__law_due) .none kV__law_due dc__law_due pm__law_due an__law_due cd__law_due ct__law_due), sl__law_due⟩)
    (c__law_due : PySem.W.codeIn K cd__law_due "_law_due" = true) (k__law_due : PySem.W.keepIn K (.ref f__law_due) = true)
    {f__law_right : Addr} {od__law_right an__law_right : Option Addr} {sl__law_right : Array (Option Value)} {oc__law_right kV__law_right dc__law_right pm__law_right cd__law_right ct__law_right : Value}
    (a__law_right : PySem.W.nsIn K mainGlobals "_law_right" = some (some (.ref f__law_right)))
    (l__law_right : K.lookup f__law_right = some ⟨oc__law_right, od__law_right, .func (PySem.W.fnOf "_law_right" "_law_right" (defArgs s__law_right) (defBody s__law_right) (defScope s__law_right) .none kV__law_right dc__law_right pm__law_right an__law_right cd__law_right ct__law_right), sl__law_right⟩)
    (c__law_right : PySem.W.codeIn K cd__law_right "_law_right" = true) (k__law_right : PySem.W.keepIn K (.ref f__law_right) = true)
    {f__law_take : Addr} {od__law_take an__law_take : Option Addr} {sl__law_take : Array (Option Value)} {oc__law_take kV__law_take dc__law_take pm__law_take cd__law_take ct__law_take : Value}
    (a__law_take : PySem.W.nsIn K mainGlobals "_law_take" = some (some (.ref f__law_take)))
    (l__law_take : K.lookup f__law_take = some ⟨oc__law_take, od__law_take, .func (PySem.W.fnOf "_law_take" "_law_take" (defArgs s__law_take) (defBody s__law_take) (defScope s__law_take) .none kV__law_take dc__law_take pm__law_take an__law_take cd__law_take ct__law_take), sl__law_take⟩)
    (c__law_take : PySem.W.codeIn K cd__law_take "_law_take" = true) (k__law_take : PySem.W.keepIn K (.ref f__law_take) = true)
    {f__law_stretch : Addr} {od__law_stretch an__law_stretch : Option Addr} {sl__law_stretch : Array (Option Value)} {oc__law_stretch kV__law_stretch dc__law_stretch pm__law_stretch cd__law_stretch ct__law_stretch : Value}
    (a__law_stretch : PySem.W.nsIn K mainGlobals "_law_stretch" = some (some (.ref f__law_stretch)))
    (l__law_stretch : K.lookup f__law_stretch = some ⟨oc__law_stretch, od__law_stretch, .func (PySem.W.fnOf "_law_stretch" "_law_stretch" (defArgs s__law_stretch) (defBody s__law_stretch) (defScope s__law_stretch) .none kV__law_stretch dc__law_stretch pm__law_stretch an__law_stretch cd__law_stretch ct__law_stretch), sl__law_stretch⟩)
    (c__law_stretch : PySem.W.codeIn K cd__law_stretch "_law_stretch" = true) (k__law_stretch : PySem.W.keepIn K (.ref f__law_stretch) = true)
    {f__law_bad : Addr} {od__law_bad an__law_bad : Option Addr} {sl__law_bad : Array (Option Value)} {oc__law_bad kV__law_bad dc__law_bad pm__law_bad cd__law_bad ct__law_bad : Value}
    (a__law_bad : PySem.W.nsIn K mainGlobals "_law_bad" = some (some (.ref f__law_bad)))
    (l__law_bad : K.lookup f__law_bad = some ⟨oc__law_bad, od__law_bad, .func (PySem.W.fnOf "_law_bad" "_law_bad" (defArgs s__law_bad) (defBody s__law_bad) (defScope s__law_bad) .none kV__law_bad dc__law_bad pm__law_bad an__law_bad cd__law_bad ct__law_bad), sl__law_bad⟩)
    (c__law_bad : PySem.W.codeIn K cd__law_bad "_law_bad" = true) (k__law_bad : PySem.W.keepIn K (.ref f__law_bad) = true)
    {f__law_base : Addr} {od__law_base an__law_base : Option Addr} {sl__law_base : Array (Option Value)} {oc__law_base kV__law_base dc__law_base pm__law_base cd__law_base ct__law_base : Value}
    (a__law_base : PySem.W.nsIn K mainGlobals "_law_base" = some (some (.ref f__law_base)))
    (l__law_base : K.lookup f__law_base = some ⟨oc__law_base, od__law_base, .func (PySem.W.fnOf "_law_base" "_law_base" (defArgs s__law_base) (defBody s__law_base) (defScope s__law_base) .none kV__law_base dc__law_base pm__law_base an__law_base cd__law_base ct__law_base), sl__law_base⟩)
    (c__law_base : PySem.W.codeIn K cd__law_base "_law_base" = true) (k__law_base : PySem.W.keepIn K (.ref f__law_base) = true)
    {f__law_rule : Addr} {od__law_rule an__law_rule : Option Addr} {sl__law_rule : Array (Option Value)} {oc__law_rule kV__law_rule dc__law_rule pm__law_rule cd__law_rule ct__law_rule : Value}
    (a__law_rule : PySem.W.nsIn K mainGlobals "_law_rule" = some (some (.ref f__law_rule)))
    (l__law_rule : K.lookup f__law_rule = some ⟨oc__law_rule, od__law_rule, .func (PySem.W.fnOf "_law_rule" "_law_rule" (defArgs s__law_rule) (defBody s__law_rule) (defScope s__law_rule) .none kV__law_rule dc__law_rule pm__law_rule an__law_rule cd__law_rule ct__law_rule), sl__law_rule⟩)
    (c__law_rule : PySem.W.codeIn K cd__law_rule "_law_rule" = true) (k__law_rule : PySem.W.keepIn K (.ref f__law_rule) = true)
    {f__law_same_base : Addr} {od__law_same_base an__law_same_base : Option Addr} {sl__law_same_base : Array (Option Value)} {oc__law_same_base kV__law_same_base dc__law_same_base pm__law_same_base cd__law_same_base ct__law_same_base : Value}
    (a__law_same_base : PySem.W.nsIn K mainGlobals "_law_same_base" = some (some (.ref f__law_same_base)))
    (l__law_same_base : K.lookup f__law_same_base = some ⟨oc__law_same_base, od__law_same_base, .func (PySem.W.fnOf "_law_same_base" "_law_same_base" (defArgs s__law_same_base) (defBody s__law_same_base) (defScope s__law_same_base) .none kV__law_same_base dc__law_same_base pm__law_same_base an__law_same_base cd__law_same_base ct__law_same_base), sl__law_same_base⟩)
    (c__law_same_base : PySem.W.codeIn K cd__law_same_base "_law_same_base" = true) (k__law_same_base : PySem.W.keepIn K (.ref f__law_same_base) = true)
    {f__law_store : Addr} {od__law_store an__law_store : Option Addr} {sl__law_store : Array (Option Value)} {oc__law_store kV__law_store dc__law_store pm__law_store cd__law_store ct__law_store : Value}
    (a__law_store : PySem.W.nsIn K mainGlobals "_law_store" = some (some (.ref f__law_store)))
    (l__law_store : K.lookup f__law_store = some ⟨oc__law_store, od__law_store, .func (PySem.W.fnOf "_law_store" "_law_store" (defArgs s__law_store) (defBody s__law_store) (defScope s__law_store) .none kV__law_store dc__law_store pm__law_store an__law_store cd__law_store ct__law_store), sl__law_store⟩)
    (c__law_store : PySem.W.codeIn K cd__law_store "_law_store" = true) (k__law_store : PySem.W.keepIn K (.ref f__law_store) = true)
    {f_law : Addr} {od_law an_law : Option Addr} {sl_law : Array (Option Value)} {oc_law kV_law dc_law pm_law cd_law ct_law : Value}
    (a_law : PySem.W.nsIn K mainGlobals "law" = some (some (.ref f_law)))
    (l_law : K.lookup f_law = some ⟨oc_law, od_law, .func (PySem.W.fnOf "law" "law" (defArgs s_law) (defBody s_law) (defScope s_law) .none kV_law dc_law pm_law an_law cd_law ct_law), sl_law⟩)
    (c_law : PySem.W.codeIn K cd_law "law" = true) (k_law : PySem.W.keepIn K (.ref f_law) = true)
    {t_LEAST_BASE : Tok} (g_LEAST_BASE : PySem.W.nsIn K mainGlobals "LEAST_BASE" = some (some (.int 2 t_LEAST_BASE)))
    {t_MOST_BASE : Tok} (g_MOST_BASE : PySem.W.nsIn K mainGlobals "MOST_BASE" = some (some (.int 16 t_MOST_BASE)))
    {t_MOST_FIGURES : Tok} (g_MOST_FIGURES : PySem.W.nsIn K mainGlobals "MOST_FIGURES" = some (some (.int 4 t_MOST_FIGURES)))
    {t_MOST_RULES : Tok} (g_MOST_RULES : PySem.W.nsIn K mainGlobals "MOST_RULES" = some (some (.int 3 t_MOST_RULES)))
    {t_MOST_STRETCHES : Tok} (g_MOST_STRETCHES : PySem.W.nsIn K mainGlobals "MOST_STRETCHES" = some (some (.int 4 t_MOST_STRETCHES)))
    {C_Lack C_NoBase C_NoNumber C_NoFigures C_NoRule C_NoStand C_NoGood C_Endless C_NoRules C_NoStretch C_TooMany C_NoText C_NoName C_NoRow : Addr}
    (g_LackError : PySem.W.nsIn K mainGlobals "LackError" = some (some (.ref C_Lack)))
    (g_NoBase : PySem.W.nsIn K mainGlobals "NoBase" = some (some (.ref C_NoBase)))
    (g_NoNumber : PySem.W.nsIn K mainGlobals "NoNumber" = some (some (.ref C_NoNumber)))
    (g_NoFigures : PySem.W.nsIn K mainGlobals "NoFigures" = some (some (.ref C_NoFigures)))
    (g_NoRule : PySem.W.nsIn K mainGlobals "NoRule" = some (some (.ref C_NoRule)))
    (g_NoStand : PySem.W.nsIn K mainGlobals "NoStand" = some (some (.ref C_NoStand)))
    (g_NoGood : PySem.W.nsIn K mainGlobals "NoGood" = some (some (.ref C_NoGood)))
    (g_Endless : PySem.W.nsIn K mainGlobals "Endless" = some (some (.ref C_Endless)))
    (g_NoRules : PySem.W.nsIn K mainGlobals "NoRules" = some (some (.ref C_NoRules)))
    (g_NoStretch : PySem.W.nsIn K mainGlobals "NoStretch" = some (some (.ref C_NoStretch)))
    (g_TooMany : PySem.W.nsIn K mainGlobals "TooMany" = some (some (.ref C_TooMany)))
    (g_NoText : PySem.W.nsIn K mainGlobals "NoText" = some (some (.ref C_NoText)))
    (g_NoName : PySem.W.nsIn K mainGlobals "NoName" = some (some (.ref C_NoName)))
    (g_NoRow : PySem.W.nsIn K mainGlobals "NoRow" = some (some (.ref C_NoRow)))
    (e_all : @erAllB ⟨adOf C_NoBase C_NoNumber C_NoFigures C_NoRule C_NoStand C_NoGood C_Endless C_NoRules C_NoStretch C_TooMany C_NoText C_NoName C_NoRow, C_Lack⟩ K = true)
    (z_ValueError : PySem.W.nsIn K mainGlobals "ValueError" = some none)
    (z_bool : PySem.W.nsIn K mainGlobals "bool" = some none)
    (z_int : PySem.W.nsIn K mainGlobals "int" = some none)
    (z_isinstance : PySem.W.nsIn K mainGlobals "isinstance" = some none)
    (z_len : PySem.W.nsIn K mainGlobals "len" = some none)
    (z_list : PySem.W.nsIn K mainGlobals "list" = some none)
    (z_max : PySem.W.nsIn K mainGlobals "max" = some none)
    (z_min : PySem.W.nsIn K mainGlobals "min" = some none)
    (z_range : PySem.W.nsIn K mainGlobals "range" = some none)
    (z_sorted : PySem.W.nsIn K mainGlobals "sorted" = some none)
    (z_str : PySem.W.nsIn K mainGlobals "str" = some none)
    (z_tuple : PySem.W.nsIn K mainGlobals "tuple" = some none)
    (z_zip : PySem.W.nsIn K mainGlobals "zip" = some none) :
    ∃ fd : FuncData, (∀ (s : Shared) (v : Value), BindsTo s fd ⟨[v], []⟩ [("script", v)]) ∧ ∀ base : Heap, K.In base → base.Ns mainGlobals mg → FnOk l.prog w K mg base CX0 10 fa fd ["script"] (sp_law K) := by
  have e := hfa.symm.trans (PySem.W.mg_of X G a_law)
  cases e
  letI : ErT := ⟨adOf C_NoBase C_NoNumber C_NoFigures C_NoRule C_NoStand C_NoGood C_Endless C_NoRules C_NoStretch C_TooMany C_NoText C_NoName C_NoRow, C_Lack⟩
  let T : Txt K mg := {
    f__law_cell := ⟨_, _, fun_mk l__law_cell c__law_cell k__law_cell, PySem.W.mg_of X G a__law_cell, (fun_mk (st := s__law_cell) l__law_cell c__law_cell k__law_cell).binds (ps := ["script", "k"]) (fun _ _ _ _ _ _ us hl => match us, hl with | [_, _], _ => rfl)⟩,
    f__law_copy := ⟨_, _, fun_mk l__law_copy c__law_copy k__law_copy, PySem.W.mg_of X G a__law_copy, (fun_mk (st := s__law_copy) l__law_copy c__law_copy k__law_copy).binds (ps := ["rule"]) (fun _ _ _ _ _ _ us hl => match us, hl with | [_], _ => rfl)⟩,
    f__law_kind := ⟨_, _, fun_mk l__law_kind c__law_kind k__law_kind, PySem.W.mg_of X G a__law_kind, (fun_mk (st := s__law_kind) l__law_kind c__law_kind k__law_kind).binds (ps := ["e", "due"]) (fun _ _ _ _ _ _ us hl => match us, hl with | [_, _], _ => rfl)⟩,
    f_is_whole := ⟨_, _, fun_mk l_is_whole c_is_whole k_is_whole, PySem.W.mg_of X G a_is_whole, (fun_mk (st := s_is_whole) l_is_whole c_is_whole k_is_whole).binds (ps := ["thing"]) (fun _ _ _ _ _ _ us hl => match us, hl with | [_], _ => rfl)⟩,
    f_is_base := ⟨_, _, fun_mk l_is_base c_is_base k_is_base, PySem.W.mg_of X G a_is_base, (fun_mk (st := s_is_base) l_is_base c_is_base k_is_base).binds (ps := ["thing"]) (fun _ _ _ _ _ _ us hl => match us, hl with | [_], _ => rfl)⟩,
    f_is_figure := ⟨_, _, fun_mk l_is_figure c_is_figure k_is_figure, PySem.W.mg_of X G a_is_figure, (fun_mk (st := s_is_figure) l_is_figure c_is_figure k_is_figure).binds (ps := ["base", "thing"]) (fun _ _ _ _ _ _ us hl => match us, hl with | [_, _], _ => rfl)⟩,
    f_are_figures := ⟨_, _, fun_mk l_are_figures c_are_figures k_are_figures, PySem.W.mg_of X G a_are_figures, (fun_mk (st := s_are_figures) l_are_figures c_are_figures k_are_figures).binds (ps := ["base", "thing"]) (fun _ _ _ _ _ _ us hl => match us, hl with | [_, _], _ => rfl)⟩,
    f_is_stretch := ⟨_, _, fun_mk l_is_stretch c_is_stretch k_is_stretch, PySem.W.mg_of X G a_is_stretch, (fun_mk (st := s_is_stretch) l_is_stretch c_is_stretch k_is_stretch).binds (ps := ["base", "thing"]) (fun _ _ _ _ _ _ us hl => match us, hl with | [_, _], _ => rfl)⟩,
    f_is_rule := ⟨_, _, fun_mk l_is_rule c_is_rule k_is_rule, PySem.W.mg_of X G a_is_rule, (fun_mk (st := s_is_rule) l_is_rule c_is_rule k_is_rule).binds (ps := ["thing"]) (fun _ _ _ _ _ _ us hl => match us, hl with | [_], _ => rfl)⟩,
    f_need_rules := ⟨_, _, fun_mk l_need_rules c_need_rules k_need_rules, PySem.W.mg_of X G a_need_rules, (fun_mk (st := s_need_rules) l_need_rules c_need_rules k_need_rules).binds (ps := ["thing"]) (fun _ _ _ _ _ _ us hl => match us, hl with | [_], _ => rfl)⟩,
    f_stands_in := ⟨_, _, fun_mk l_stands_in c_stands_in k_stands_in, PySem.W.mg_of X G a_stands_in, (fun_mk (st := s_stands_in) l_stands_in c_stands_in k_stands_in).binds (ps := ["stretch", "figures"]) (fun _ _ _ _ _ _ us hl => match us, hl with | [_, _], _ => rfl)⟩,
    f_one_rule := ⟨_, _, fun_mk l_one_rule c_one_rule k_one_rule, PySem.W.mg_of X G a_one_rule, (fun_mk (st := s_one_rule) l_one_rule c_one_rule k_one_rule).binds (ps := ["rules"]) (fun _ _ _ _ _ _ us hl => match us, hl with | [_], _ => rfl)⟩,
    f__law_asked := ⟨_, _, fun_mk l__law_asked c__law_asked k__law_asked, PySem.W.mg_of X G a__law_asked, (fun_mk (st := s__law_asked) l__law_asked c__law_asked k__law_asked).binds (ps := ["rules", "due"]) (fun _ _ _ _ _ _ us hl => match us, hl with | [_, _], _ => rfl)⟩,
    f__law_lacks := ⟨_, _, fun_mk l__law_lacks c__law_lacks k__law_lacks, PySem.W.mg_of X G a__law_lacks, (fun_mk (st := s__law_lacks) l__law_lacks c__law_lacks k__law_lacks).binds (ps := ["bad", "figures"]) (fun _ _ _ _ _ _ us hl => match us, hl with | [_, _], _ => rfl)⟩,
    f__law_due := ⟨_, _, fun_mk l__law_due c__law_due k__law_due, PySem.W.mg_of X G a__law_due, (fun_mk (st := s__law_due) l__law_due c__law_due k__law_due).binds (ps := ["rules"]) (fun _ _ _ _ _ _ us hl => match us, hl with | [_], _ => rfl)⟩,
    f__law_right := ⟨_, _, fun_mk l__law_right c__law_right k__law_right, PySem.W.mg_of X G a__law_right, (fun_mk (st := s__law_right) l__law_right c__law_right k__law_right).binds (ps := ["rules", "given"]) (fun _ _ _ _ _ _ us hl => match us, hl with | [_, _], _ => rfl)⟩,
    f__law_take := ⟨_, _, fun_mk l__law_take c__law_take k__law_take, PySem.W.mg_of X G a__law_take, (fun_mk (st := s__law_take) l__law_take c__law_take k__law_take).binds (ps := ["store", "many"]) (fun _ _ _ _ _ _ us hl => match us, hl with | [_, _], _ => rfl)⟩,
    f__law_stretch := ⟨_, _, fun_mk l__law_stretch c__law_stretch k__law_stretch, PySem.W.mg_of X G a__law_stretch, (fun_mk (st := s__law_stretch) l__law_stretch c__law_stretch k__law_stretch).binds (ps := ["store", "base", "few"]) (fun _ _ _ _ _ _ us hl => match us, hl with | [_, _, _], _ => rfl)⟩,
    f__law_bad := ⟨_, _, fun_mk l__law_bad c__law_bad k__law_bad, PySem.W.mg_of X G a__law_bad, (fun_mk (st := s__law_bad) l__law_bad c__law_bad k__law_bad).binds (ps := ["store", "base"]) (fun _ _ _ _ _ _ us hl => match us, hl with | [_, _], _ => rfl)⟩,
    f__law_base := ⟨_, _, fun_mk l__law_base c__law_base k__law_base, PySem.W.mg_of X G a__law_base, (fun_mk (st := s__law_base) l__law_base c__law_base k__law_base).binds (ps := ["store"]) (fun _ _ _ _ _ _ us hl => match us, hl with | [_], _ => rfl)⟩,
    f__law_rule := ⟨_, _, fun_mk l__law_rule c__law_rule k__law_rule, PySem.W.mg_of X G a__law_rule, (fun_mk (st := s__law_rule) l__law_rule c__law_rule k__law_rule).binds (ps := ["store"]) (fun _ _ _ _ _ _ us hl => match us, hl with | [_], _ => rfl)⟩,
    f__law_same_base := ⟨_, _, fun_mk l__law_same_base c__law_same_base k__law_same_base, PySem.W.mg_of X G a__law_same_base, (fun_mk (st := s__law_same_base) l__law_same_base c__law_same_base k__law_same_base).binds (ps := ["store"]) (fun _ _ _ _ _ _ us hl => match us, hl with | [_], _ => rfl)⟩,
    f__law_store := ⟨_, _, fun_mk l__law_store c__law_store k__law_store, PySem.W.mg_of X G a__law_store, (fun_mk (st := s__law_store) l__law_store c__law_store k__law_store).binds (ps := ["cell"]) (fun _ _ _ _ _ _ us hl => match us, hl with | [_], _ => rfl)⟩,
    f_law := ⟨_, _, fun_mk l_law c_law k_law, PySem.W.mg_of X G a_law, (fun_mk (st := s_law) l_law c_law k_law).binds (ps := ["script"]) (fun _ _ _ _ _ _ us hl => match us, hl with | [_], _ => rfl)⟩,
    c_LEAST_BASE := ⟨t_LEAST_BASE, PySem.W.mg_of X G g_LEAST_BASE⟩,
    c_MOST_BASE := ⟨t_MOST_BASE, PySem.W.mg_of X G g_MOST_BASE⟩,
    c_MOST_FIGURES := ⟨t_MOST_FIGURES, PySem.W.mg_of X G g_MOST_FIGURES⟩,
    c_MOST_RULES := ⟨t_MOST_RULES, PySem.W.mg_of X G g_MOST_RULES⟩,
    c_MOST_STRETCHES := ⟨t_MOST_STRETCHES, PySem.W.mg_of X G g_MOST_STRETCHES⟩,
    er := erTxt_mk e_all (fun e => by cases e <;> first | exact PySem.W.mg_of X G g_NoBase | exact PySem.W.mg_of X G g_NoNumber | exact PySem.W.mg_of X G g_NoFigures | exact PySem.W.mg_of X G g_NoRule | exact PySem.W.mg_of X G g_NoStand | exact PySem.W.mg_of X G g_NoGood | exact PySem.W.mg_of X G g_Endless | exact PySem.W.mg_of X G g_NoRules | exact PySem.W.mg_of X G g_NoStretch | exact PySem.W.mg_of X G g_TooMany | exact PySem.W.mg_of X G g_NoText | exact PySem.W.mg_of X G g_NoName | exact PySem.W.mg_of X G g_NoRow) (PySem.W.mg_of X G g_LackError),
    z_ValueError := PySem.W.mg_none_of X G z_ValueError,
    z_bool := PySem.W.mg_none_of X G z_bool,
    z_int := PySem.W.mg_none_of X G z_int,
    z_isinstance := PySem.W.mg_none_of X G z_isinstance,
    z_len := PySem.W.mg_none_of X G z_len,
    z_list := PySem.W.mg_none_of X G z_list,
    z_max := PySem.W.mg_none_of X G z_max,
    z_min := PySem.W.mg_none_of X G z_min,
    z_range := PySem.W.mg_none_of X G z_range,
    z_sorted := PySem.W.mg_none_of X G z_sorted,
    z_str := PySem.W.mg_none_of X G z_str,
    z_tuple := PySem.W.mg_none_of X G z_tuple,
    z_zip := PySem.W.mg_none_of X G z_zip }
  exact ⟨T.f_law.fd, fun s v => .of_eq rfl, fun base _ _ => ok_law T⟩
end My
open PySem PySem.W PyProof.Rows
set_option maxHeartbeats 0 in
theorem PySem.Challenge.cw_lackstretch_k29_one_rule_of_several_holds : PySem.Challenge.rw_lackstretch_k29_one_rule_of_several.Holds := by
  w_on; o_law; k_head; (case hw => w_witness2)
  k_fill
  refine L2.walk_of (l := PySem.Challenge.rw_lackstretch_k29_one_rule_of_several) (n := 63) (k := 10) (x := "script") (CX := fun _ => L2.CX0) (sp := fun w => My.sp_law _) rfl (by decide) rfl ⟨rfl, by decide, by decide⟩ (fun w h Y => PySem.W.kIn_of Y) ?F (fun _ _ a ns hl _ hS => ⟨a, ns, rfl, hS, My.law_true ns, fun _ => rfl⟩) (fun _ _ _ _ _ h => h)
  case F =>
    intro w mg fa h KX G hmg
    refine' My.all_mk KX G hmg ?a__law_cell ?l__law_cell ?c__law_cell ?k__law_cell ?a__law_copy ?l__law_copy ?c__law_copy ?k__law_copy ?a__law_kind ?l__law_kind ?c__law_kind ?k__law_kind ?a_is_whole ?l_is_whole ?c_is_whole ?k_is_whole ?a_is_base ?l_is_base ?c_is_base ?k_is_base ?a_is_figure ?l_is_figure ?c_is_figure ?k_is_figure ?a_are_figures ?l_are_figures ?c_are_figures ?k_are_figures ?a_is_stretch ?l_is_stretch ?c_is_stretch ?k_is_stretch ?a_is_rule ?l_is_rule ?c_is_rule ?k_is_rule ?a_need_rules ?l_need_rules ?c_need_rules ?k_need_rules ?a_stands_in ?l_stands_in ?c_stands_in ?k_stands_in ?a_one_rule ?l_one_rule ?c_one_rule ?k_one_rule ?a__law_asked ?l__law_asked ?c__law_asked ?k__law_asked ?a__law_lacks ?l__law_lacks ?c__law_lacks ?k__law_lacks ?a__law_due ?l__law_due ?c__law_due ?k__law_due ?a__law_right ?l__law_right ?c__law_right ?k__law_right ?a__law_take ?l__law_take ?c__law_take ?k__law_take ?a__law_stretch ?l__law_stretch ?c__law_stretch ?k__law_stretch ?a__law_bad ?l__law_bad ?c__law_bad ?k__law_bad ?a__law_base ?l__law_base ?c__law_base ?k__law_base ?a__law_rule ?l__law_rule ?c__law_rule ?k__law_rule ?a__law_same_base ?l__law_same_base ?c__law_same_base ?k__law_same_base ?a__law_store ?l__law_store ?c__law_store ?k__law_store ?a_law ?l_law ?c_law ?k_law ?g_LEAST_BASE ?g_MOST_BASE ?g_MOST_FIGURES ?g_MOST_RULES ?g_MOST_STRETCHES ?g_LackError ?g_NoBase ?g_NoNumber ?g_NoFigures ?g_NoRule ?g_NoStand ?g_NoGood ?g_Endless ?g_NoRules ?g_NoStretch ?g_TooMany ?g_NoText ?g_NoName ?g_NoRow ?e_all ?z_ValueError ?z_bool ?z_int ?z_isinstance ?z_len ?z_list ?z_max ?z_min ?z_range ?z_sorted ?z_str ?z_tuple ?z_zip
    (case a__law_cell => k_is); (case l__law_cell => k_is); (case c__law_cell => k_is); (case k__law_cell => k_is); (case a__law_copy => k_is); (case l__law_copy => k_is); (case c__law_copy => k_is); (case k__law_copy => k_is); (case a__law_kind => k_is); (case l__law_kind => k_is); (case c__law_kind => k_is); (case k__law_kind => k_is); (case a_is_whole => k_is); (case l_is_whole => k_is); (case c_is_whole => k_is); (case k_is_whole => k_is); (case a_is_base => k_is); (case l_is_base => k_is); (case c_is_base => k_is); (case k_is_base => k_is); (case a_is_figure => k_is); (case l_is_figure => k_is); (case c_is_figure => k_is); (case k_is_figure => k_is); (case a_are_figures => k_is); (case l_are_figures => k_is); (case c_are_figures => k_is); (case k_are_figures => k_is); (case a_is_stretch => k_is); (case l_is_stretch => k_is); (case c_is_stretch => k_is); (case k_is_stretch => k_is); (case a_is_rule => k_is); (case l_is_rule => k_is); (case c_is_rule => k_is); (case k_is_rule => k_is); (case a_need_rules => k_is); (case l_need_rules => k_is); (case c_need_rules => k_is); (case k_need_rules => k_is); (case a_stands_in => k_is); (case l_stands_in => k_is); (case c_stands_in => k_is); (case k_stands_in => k_is); (case a_one_rule => k_is); (case l_one_rule => k_is); (case c_one_rule => k_is); (case k_one_rule => k_is); (case a__law_asked => k_is); (case l__law_asked => k_is); (case c__law_asked => k_is); (case k__law_asked => k_is); (case a__law_lacks => k_is); (case l__law_lacks => k_is); (case c__law_lacks => k_is); (case k__law_lacks => k_is); (case a__law_due => k_is); (case l__law_due => k_is); (case c__law_due => k_is); (case k__law_due => k_is); (case a__law_right => k_is); (case l__law_right => k_is); (case c__law_right => k_is); (case k__law_right => k_is); (case a__law_take => k_is); (case l__law_take => k_is); (case c__law_take => k_is); (case k__law_take => k_is); (case a__law_stretch => k_is); (case l__law_stretch => k_is); (case c__law_stretch => k_is); (case k__law_stretch => k_is); (case a__law_bad => k_is); (case l__law_bad => k_is); (case c__law_bad => k_is); (case k__law_bad => k_is); (case a__law_base => k_is); (case l__law_base => k_is); (case c__law_base => k_is); (case k__law_base => k_is); (case a__law_rule => k_is); (case l__law_rule => k_is); (case c__law_rule => k_is); (case k__law_rule => k_is); (case a__law_same_base => k_is); (case l__law_same_base => k_is); (case c__law_same_base => k_is); (case k__law_same_base => k_is); (case a__law_store => k_is); (case l__law_store => k_is); (case c__law_store => k_is); (case k__law_store => k_is); (case a_law => k_is); (case l_law => k_is); (case c_law => k_is); (case k_law => k_is); (case g_LEAST_BASE => k_is); (case g_MOST_BASE => k_is); (case g_MOST_FIGURES => k_is); (case g_MOST_RULES => k_is); (case g_MOST_STRETCHES => k_is); (case g_LackError => k_is); (case g_NoBase => k_is); (case g_NoNumber => k_is); (case g_NoFigures => k_is); (case g_NoRule => k_is); (case g_NoStand => k_is); (case g_NoGood => k_is); (case g_Endless => k_is); (case g_NoRules => k_is); (case g_NoStretch => k_is); (case g_TooMany => k_is); (case g_NoText => k_is); (case g_NoName => k_is); (case g_NoRow => k_is); (case e_all => kernel_rfl); (case z_ValueError => k_is); (case z_bool => k_is); (case z_int => k_is); (case z_isinstance => k_is); (case z_len => k_is); (case z_list => k_is); (case z_max => k_is); (case z_min => k_is); (case z_range => k_is); (case z_sorted => k_is); (case z_str => k_is); (case z_tuple => k_is); (case z_zip => k_is)
